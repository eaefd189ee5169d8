import PyProof.Rows.All
import Wide.All
import OpenK.AllK
import Wide.FinOn
import KE.KStateDown
import HandS.Words
import HandS.Head0
import HandS.Head1
import HandS.Head2
import HandS.HeadEnd
import HandS.HeadHook1
import HandS.HeadHook2
import HandS.ForMost
import HandS.Exc
import HandS.ExcOwn
import HandS.TryOnly
import HandS.WordsExc
import HandS.StrMore
import HandS.Replace
import HandS.Zip
import HandS.Rev
import HandS.Style
import HandS.NoneIn
import HandS.Lambda
import HandS.SortKw
import KE.SortKeyHeap
import KE.SortData
import HandS.TupMul
import KE.KItem
import KE.KEqNest
import PyProof.NeKinds
import HandS.Wide
import HandS.TupAny
import HandS.Flow
import HandS.IsInst
import KE.DataEq
import KE.KEqDict
import KE.GoesMore
import KE.GoesComp
import KE.GoesRaise
import HandS.More
import HandS.SortInts
import HandS.WideBits
import PyProof.Rows.SortShellAny
import KE.DataMinMax
import HandS.CallSlots
import HandS.ExcIs
import HandS.ExcValue
import KE.KDictZip
import HandS.RevTup
import PyProof.CollectWalk
import PyProof.TupleOfGen
import HandS.ReplaceLit
import HandS.DictTup
import HandS.Defaults
import HandS.EndTab
import PySem.Challenge.RW_heldleaves_k11_keys_told
set_option Elab.async false
set_option linter.all false
set_option maxRecDepth 100000
set_option maxHeartbeats 2000000
set_option autoImplicit false
namespace MP
open PySem PySem.Spec PyProof.Rows L2
def emTab : Obj → Bool
  | ⟨.none, none, .fields vs, sl⟩ => vs.isEmpty && sl.isEmpty
  | _ => false
def frH (g : Addr → Option Obj) (as : List Addr) : PySem.W.Frag := (He.frG g as).filter fun q => !emTab q.2
theorem lookup_memH {a : Addr} {o : Obj} : ∀ {l : List (Addr × Obj)}, l.lookup a = some o → (a, o) ∈ l
  | [], h => by cases h
  | (b, u) :: r, h => by
    have h2 : (match a == b with | true => some u | false => r.lookup a) = some o := h
    cases q : (a == b) with
    | true =>
      rw [q] at h2
      have e : u = o := Option.some.inj h2
      rw [beq_iff_eq.mp q, e]
      exact List.mem_cons_self
    | false =>
      rw [q] at h2
      exact List.mem_cons_of_mem _ (lookup_memH h2)
theorem frH_in {as : List Addr} {h : Heap} : (frH h.get? as).In h := fun a o e => by
  obtain ⟨h1, _⟩ := List.mem_filter.mp (lookup_memH e)
  unfold He.frG at h1
  obtain ⟨b, _, e1⟩ := List.mem_filterMap.mp h1
  cases hb : h.get? b with
  | none =>
    rw [hb] at e1
    cases e1
  | some u =>
    rw [hb] at e1
    have e2 : (b, u) = (a, o) := Option.some.inj e1
    injection e2 with e3 e4
    rw [← e3, ← e4]
    exact hb
abbrev AlH : Type := Bool × List He.FnW
def obsK (ex : PySem.W.Frag → Bool) (fn : List (Str × Option Str)) (K : PySem.W.Frag) : AlH := (ex K, fn.map (He.fnW K))
def obsH (n : Nat) (ex : PySem.W.Frag → Bool) (fn : List (Str × Option Str)) (g : Addr → Option Obj) : AlH := obsK ex fn (frH g (He.asD g n))
structure SaysH (ex : PySem.W.Frag → Bool) (fn : List (Str × Option Str)) (vs : List He.FnW) (K : PySem.W.Frag) : Prop where
  ex : ex K = true
  fns : fn.map (He.fnW K) = vs
def hookH (n : Nat) (ex : PySem.W.Frag → Bool) (fn : List (Str × Option Str)) (vs : List He.FnW) : PySem.W.Hook where
  α := AlH
  obs := fun s => obsH n ex fn s.heap.get?
  val := fun _ => (true, vs)
  says := fun _ h => ∃ K : PySem.W.Frag, K.In h ∧ SaysH ex fn vs K
  of := fun _ _ e => ⟨_, frH_in, congrArg (fun z : AlH => z.1) e, congrArg (fun z : AlH => z.2) e⟩
  keeps := fun _ _ _ ⟨K, hK, c⟩ k => ⟨K, PySem.W.Frag.In.keeps hK k, c⟩
theorem obsH_eq {n : Nat} {ex : PySem.W.Frag → Bool} {fn : List (Str × Option Str)} {vs : List He.FnW} {g : Addr → Option Obj} {s : Shared} (h : ∀ a, g a = s.heap.get? a) : obsH n ex fn g = (hookH n ex fn vs).obs s := by
  have e : g = s.heap.get? := funext h
  rw [e] <;> rfl
theorem SaysH.def_ {ex : PySem.W.Frag → Bool} {fn : List (Str × Option Str)} {vs : List He.FnW} {K : PySem.W.Frag} (c : SaysH ex fn vs K) (i : Nat) {d : (Str × Option Str)} {v : He.FnW} (h : fn[i]? = some d) (h2 : vs[i]? = some v) : He.fnW K d = v := by
  have e2 : (fn.map (He.fnW K))[i]? = vs[i]? := by rw [c.fns]
  rw [List.getElem?_map, h, h2] at e2
  exact Option.some.inj e2
theorem flB {l : List Bool} (h : l.all id = true) (i : Nat) {b : Bool} (e : l[i]? = some b) : b = true := List.all_eq_true.mp h b (List.mem_of_getElem? e)
theorem flD {l : List Bool} (h : l.all id = true) (i : Nat) {p : Prop} [Decidable p] (e : l[i]? = some (decide p)) : p := of_decide_eq_true (flB h i e)
theorem exB {a b : Bool} (h : (a && b) = true) : a = true ∧ b = true := Bool.and_eq_true_iff.mp h
def isNv : Value → Bool
  | .none => true
  | _ => false
def cdO (K : PySem.W.Frag) (q : Str) (z : Value → Bool) : Option Obj → Bool
  | some ⟨_, _, .func fd, _⟩ => PySem.W.codeIn K fd.code q && z fd.defaults
  | _ => false
def cdN (K : PySem.W.Frag) (p : Str × Option Str) (q : Str) : Bool := cdO K q isNv (K.lookup (He.fAd K p))
theorem isNv_ok {v : Value} (h : isNv v = true) : v = .none := by
  cases v with
  | none => rfl
  | _ => cases h
theorem lk_O {K : PySem.W.Frag} {z : Value → Bool} {p : Str × Option Str} {x q : Str} {pa : Arguments} {bo : List Stmt} {sc : Scope} (e : He.fnW K p = some (x, q, pa, .stmts bo, sc, mainGlobals, [], builtinsNs)) (c : cdO K q z (K.lookup (He.fAd K p)) = true) :
    ∃ oc od osl dv kV doc pm an cdv ct, K.lookup (He.fAd K p) = some ⟨oc, od, .func (PySem.W.fnOf x q pa bo sc dv kV doc pm an cdv ct), osl⟩ ∧ PySem.W.codeIn K cdv q = true ∧ z dv = true := by
  unfold He.fnW at e
  cases y : K.lookup (He.fAd K p) with
  | none =>
    rw [y] at c
    cases c
  | some o =>
    obtain ⟨oc, od, dt, osl⟩ := o
    rw [y] at c e
    cases dt with
    | func fd =>
      obtain ⟨n1, n2, n3, n4, n5, n6, n7, n8, n9, n10, n11, n12, n13, n14, n15⟩ := fd
      have e2 : (some (n1, n2, n3, n4, n5, n6, n7, n15) : He.FnW) = some (x, q, pa, .stmts bo, sc, mainGlobals, [], builtinsNs) := e
      simp only [Option.some.injEq, Prod.mk.injEq] at e2
      obtain ⟨h1, h2, h3, h4, h5, h6, h7, h8⟩ := e2
      subst h1 h2 h3 h4 h5 h6 h7 h8
      obtain ⟨k1, k2⟩ := exB (show (PySem.W.codeIn K n13 n2 && z n8) = true from c)
      exact ⟨oc, od, osl, n8, n9, n10, n11, n12, n13, n14, rfl, k1, k2⟩
    | _ => cases c
theorem lk_N {K : PySem.W.Frag} {p : Str × Option Str} {x q : Str} {pa : Arguments} {bo : List Stmt} {sc : Scope} (e : He.fnW K p = some (x, q, pa, .stmts bo, sc, mainGlobals, [], builtinsNs)) (c : cdN K p q = true) :
    ∃ oc od osl kV doc pm an cdv ct, K.lookup (He.fAd K p) = some ⟨oc, od, .func (PySem.W.fnOf x q pa bo sc .none kV doc pm an cdv ct), osl⟩ ∧ PySem.W.codeIn K cdv q = true := by
  obtain ⟨oc, od, osl, dv, kV, doc, pm, an, cdv, ct, h1, h2, h3⟩ := lk_O e c
  cases isNv_ok h3
  exact ⟨oc, od, osl, kV, doc, pm, an, cdv, ct, h1, h2⟩
def inB (K : PySem.W.Frag) (x : Str) (i : Int) : Bool := match PySem.W.nsIn K mainGlobals x with
  | some (some (.int j _)) => decide (j = i)
  | _ => false
theorem inB_ok {K : PySem.W.Frag} {x : Str} {i : Int} (c : inB K x i = true) : ∃ t, PySem.W.nsIn K mainGlobals x = some (some (.int i t)) := by
  unfold inB at c
  cases e : PySem.W.nsIn K mainGlobals x with
  | none =>
    rw [e] at c
    cases c
  | some o =>
    rw [e] at c
    cases o with
    | none => cases c
    | some v =>
      cases v with
      | int j t =>
        have ej : j = i := of_decide_eq_true c
        exact ⟨t, by rw [ej]⟩
      | _ => cases c
def srB (K : PySem.W.Frag) (x z : Str) : Bool := match PySem.W.nsIn K mainGlobals x with
  | some (some (.str y _)) => decide (y = z)
  | _ => false
theorem srB_ok {K : PySem.W.Frag} {x z : Str} (c : srB K x z = true) : ∃ t, PySem.W.nsIn K mainGlobals x = some (some (.str z t)) := by
  unfold srB at c
  cases e : PySem.W.nsIn K mainGlobals x with
  | none =>
    rw [e] at c
    cases c
  | some o =>
    rw [e] at c
    cases o with
    | none => cases c
    | some v =>
      cases v with
      | str y t =>
        have ej : y = z := of_decide_eq_true c
        exact ⟨t, by rw [ej]⟩
      | _ => cases c
end MP
set_option maxRecDepth 100000
set_option maxHeartbeats 0
set_option autoImplicit false
namespace MP
open PySem L2
def top (i : Nat) : Stmt := PySem.Challenge.pw_heldleaves_k11_keys_told.main.body.getD i (.Pass ⟨0, 0, 0, 0⟩)
def FL0 (K : PySem.W.Frag) : List Bool := [decide (PySem.W.nsIn K mainGlobals "is_number" = some (some (.ref (He.ga K "is_number")))), cdN K ("is_number", none) "is_number", PySem.W.keepIn K (.ref (He.ga K "is_number")), decide (PySem.W.nsIn K mainGlobals "is_word" = some (some (.ref (He.ga K "is_word")))), cdN K ("is_word", none) "is_word", PySem.W.keepIn K (.ref (He.ga K "is_word")), decide (PySem.W.nsIn K mainGlobals "is_part" = some (some (.ref (He.ga K "is_part")))), cdN K ("is_part", none) "is_part", PySem.W.keepIn K (.ref (He.ga K "is_part")), decide (PySem.W.nsIn K mainGlobals "is_key" = some (some (.ref (He.ga K "is_key")))), cdN K ("is_key", none) "is_key", PySem.W.keepIn K (.ref (He.ga K "is_key")), decide (PySem.W.nsIn K mainGlobals "is_value" = some (some (.ref (He.ga K "is_value")))), cdN K ("is_value", none) "is_value", PySem.W.keepIn K (.ref (He.ga K "is_value")), decide (PySem.W.nsIn K mainGlobals "part_code" = some (some (.ref (He.ga K "part_code")))), cdN K ("part_code", none) "part_code", PySem.W.keepIn K (.ref (He.ga K "part_code")), decide (PySem.W.nsIn K mainGlobals "coded" = some (some (.ref (He.ga K "coded")))), cdN K ("coded", none) "coded", PySem.W.keepIn K (.ref (He.ga K "coded")), decide (PySem.W.nsIn K mainGlobals "_law_cell" = some (some (.ref (He.ga K "_law_cell")))), cdN K ("_law_cell", none) "_law_cell", PySem.W.keepIn K (.ref (He.ga K "_law_cell"))]
def FL1 (K : PySem.W.Frag) : List Bool := [decide (PySem.W.nsIn K mainGlobals "_law_whole" = some (some (.ref (He.ga K "_law_whole")))), cdN K ("_law_whole", none) "_law_whole", PySem.W.keepIn K (.ref (He.ga K "_law_whole")), decide (PySem.W.nsIn K mainGlobals "_law_word" = some (some (.ref (He.ga K "_law_word")))), cdN K ("_law_word", none) "_law_word", PySem.W.keepIn K (.ref (He.ga K "_law_word")), decide (PySem.W.nsIn K mainGlobals "_law_part" = some (some (.ref (He.ga K "_law_part")))), cdN K ("_law_part", none) "_law_part", PySem.W.keepIn K (.ref (He.ga K "_law_part")), decide (PySem.W.nsIn K mainGlobals "_law_key" = some (some (.ref (He.ga K "_law_key")))), cdN K ("_law_key", none) "_law_key", PySem.W.keepIn K (.ref (He.ga K "_law_key")), decide (PySem.W.nsIn K mainGlobals "_law_is_part" = some (some (.ref (He.ga K "_law_is_part")))), cdN K ("_law_is_part", none) "_law_is_part", PySem.W.keepIn K (.ref (He.ga K "_law_is_part")), decide (PySem.W.nsIn K mainGlobals "_law_is_key" = some (some (.ref (He.ga K "_law_is_key")))), cdN K ("_law_is_key", none) "_law_is_key", PySem.W.keepIn K (.ref (He.ga K "_law_is_key")), decide (PySem.W.nsIn K mainGlobals "_law_word_of" = some (some (.ref (He.ga K "_law_word_of")))), cdN K ("_law_word_of", none) "_law_word_of", PySem.W.keepIn K (.ref (He.ga K "_law_word_of")), decide (PySem.W.nsIn K mainGlobals "_law_odd" = some (some (.ref (He.ga K "_law_odd")))), cdN K ("_law_odd", none) "_law_odd", PySem.W.keepIn K (.ref (He.ga K "_law_odd"))]
def FL2 (K : PySem.W.Frag) : List Bool := [decide (PySem.W.nsIn K mainGlobals "_law_thing" = some (some (.ref (He.ga K "_law_thing")))), cdN K ("_law_thing", none) "_law_thing", PySem.W.keepIn K (.ref (He.ga K "_law_thing")), decide (PySem.W.nsIn K mainGlobals "_law_number" = some (some (.ref (He.ga K "_law_number")))), cdN K ("_law_number", none) "_law_number", PySem.W.keepIn K (.ref (He.ga K "_law_number")), decide (PySem.W.nsIn K mainGlobals "_law_told" = some (some (.ref (He.ga K "_law_told")))), cdN K ("_law_told", none) "_law_told", PySem.W.keepIn K (.ref (He.ga K "_law_told")), decide (PySem.W.nsIn K mainGlobals "_law_right" = some (some (.ref (He.ga K "_law_right")))), cdN K ("_law_right", none) "_law_right", PySem.W.keepIn K (.ref (He.ga K "_law_right")), decide (PySem.W.nsIn K mainGlobals "law" = some (some (.ref (He.ga K "law")))), cdN K ("law", none) "law", PySem.W.keepIn K (.ref (He.ga K "law")), decide (PySem.W.nsIn K mainGlobals "len" = some none), decide (PySem.W.nsIn K mainGlobals "sum" = some none), decide (PySem.W.nsIn K mainGlobals "sorted" = some none), decide (PySem.W.nsIn K mainGlobals "min" = some none), decide (PySem.W.nsIn K mainGlobals "max" = some none), decide (PySem.W.nsIn K mainGlobals "all" = some none), decide (PySem.W.nsIn K mainGlobals "any" = some none), decide (PySem.W.nsIn K mainGlobals "list" = some none), decide (PySem.W.nsIn K mainGlobals "tuple" = some none)]
def FL3 (K : PySem.W.Frag) : List Bool := [decide (PySem.W.nsIn K mainGlobals "str" = some none), decide (PySem.W.nsIn K mainGlobals "int" = some none), decide (PySem.W.nsIn K mainGlobals "dict" = some none), decide (PySem.W.nsIn K mainGlobals "bool" = some none), decide (PySem.W.nsIn K mainGlobals "isinstance" = some none), decide (PySem.W.nsIn K mainGlobals "range" = some none), decide (PySem.W.nsIn K mainGlobals "zip" = some none), decide (PySem.W.nsIn K mainGlobals "enumerate" = some none), decide (PySem.W.nsIn K mainGlobals "reversed" = some none), decide (PySem.W.nsIn K mainGlobals "divmod" = some none), decide (PySem.W.nsIn K mainGlobals "Pages" = some none), decide (PySem.W.nsIn K mainGlobals "House" = some none), decide (PySem.W.nsIn K mainGlobals "Cursor" = some none), decide (PySem.W.nsIn K mainGlobals "Disk" = some none), decide (PySem.W.nsIn K mainGlobals "Keeper" = some none), decide (PySem.W.nsIn K mainGlobals "Look" = some none), decide (PySem.W.nsIn K mainGlobals "Desk" = some none), inB K "MOST_LETTERS" 8, srB K "LETTERS" ⟨List.toArray [97, 98, 99, 100, 101, 102, 103, 104, 105, 106, 107, 108, 109, 110, 111, 112, 113, 114, 115, 116, 117, 118, 119, 120, 121, 122]⟩, inB K "MOST_NUMBER" 999999999999, inB K "MOST_PARTS" 4, inB K "MOST_VALUE" 999999999999999999999999999999999999999999999999999999999999, srB K "GREAT" ⟨List.toArray [65, 66, 67, 68, 69, 70, 71, 72, 73, 74, 75, 76]⟩, decide (PySem.W.nsIn K mainGlobals "LeafError" = some (some (.ref (He.ga K "LeafError"))))]
def FL4 (K : PySem.W.Frag) : List Bool := [decide (PySem.W.subIn K (.ref (He.ga K "LeafError")) (.type "BaseException") = some true), decide (PySem.W.kitOne K (.type "NoneType") (.ref (He.ga K "LeafError")) = some false), decide (PySem.W.nsIn K mainGlobals "NoKey" = some (some (.ref (He.ga K "NoKey")))), decide (PySem.W.subIn K (.ref (He.ga K "NoKey")) (.type "BaseException") = some true), decide (PySem.W.kitOne K (.type "NoneType") (.ref (He.ga K "NoKey")) = some false), decide (PySem.W.nsIn K mainGlobals "NoValue" = some (some (.ref (He.ga K "NoValue")))), decide (PySem.W.subIn K (.ref (He.ga K "NoValue")) (.type "BaseException") = some true), decide (PySem.W.kitOne K (.type "NoneType") (.ref (He.ga K "NoValue")) = some false), decide (PySem.W.nsIn K mainGlobals "NoCode" = some (some (.ref (He.ga K "NoCode")))), decide (PySem.W.subIn K (.ref (He.ga K "NoCode")) (.type "BaseException") = some true), decide (PySem.W.kitOne K (.type "NoneType") (.ref (He.ga K "NoCode")) = some false), decide (PySem.W.nsIn K mainGlobals "NoRoom" = some (some (.ref (He.ga K "NoRoom")))), decide (PySem.W.subIn K (.ref (He.ga K "NoRoom")) (.type "BaseException") = some true), decide (PySem.W.kitOne K (.type "NoneType") (.ref (He.ga K "NoRoom")) = some false), decide (PySem.W.nsIn K mainGlobals "NoPage" = some (some (.ref (He.ga K "NoPage")))), decide (PySem.W.subIn K (.ref (He.ga K "NoPage")) (.type "BaseException") = some true), decide (PySem.W.kitOne K (.type "NoneType") (.ref (He.ga K "NoPage")) = some false), decide (PySem.W.nsIn K mainGlobals "NoPlace" = some (some (.ref (He.ga K "NoPlace")))), decide (PySem.W.subIn K (.ref (He.ga K "NoPlace")) (.type "BaseException") = some true), decide (PySem.W.kitOne K (.type "NoneType") (.ref (He.ga K "NoPlace")) = some false), decide (PySem.W.nsIn K mainGlobals "NoVersion" = some (some (.ref (He.ga K "NoVersion")))), decide (PySem.W.subIn K (.ref (He.ga K "NoVersion")) (.type "BaseException") = some true), decide (PySem.W.kitOne K (.type "NoneType") (.ref (He.ga K "NoVersion")) = some false), decide (PySem.W.nsIn K mainGlobals "NoMark" = some (some (.ref (He.ga K "NoMark"))))]
def FL5 (K : PySem.W.Frag) : List Bool := [decide (PySem.W.subIn K (.ref (He.ga K "NoMark")) (.type "BaseException") = some true), decide (PySem.W.kitOne K (.type "NoneType") (.ref (He.ga K "NoMark")) = some false), decide (PySem.W.nsIn K mainGlobals "NoNode" = some (some (.ref (He.ga K "NoNode")))), decide (PySem.W.subIn K (.ref (He.ga K "NoNode")) (.type "BaseException") = some true), decide (PySem.W.kitOne K (.type "NoneType") (.ref (He.ga K "NoNode")) = some false), decide (PySem.W.nsIn K mainGlobals "NoRow" = some (some (.ref (He.ga K "NoRow")))), decide (PySem.W.subIn K (.ref (He.ga K "NoRow")) (.type "BaseException") = some true), decide (PySem.W.kitOne K (.type "NoneType") (.ref (He.ga K "NoRow")) = some false), decide (PySem.W.nsIn K mainGlobals "ValueError" = some none), decide (PySem.W.subIn K (.type "ValueError") (.type "BaseException") = some true), decide (PySem.W.kitOne K (.type "NoneType") (.type "ValueError") = some false), PySem.W.excIn K (He.ga K "LeafError") [.type "ValueError", .type "Exception", .type "BaseException", .type "object"] "ValueError.__new__", PySem.W.keepIn K (.ref (He.ga K "LeafError")), decide (PySem.W.typeIn K (.ref (He.ga K "LeafError")) = some (.type "type")), PySem.W.excIn K (He.ga K "NoKey") [.type "ValueError", .type "Exception", .type "BaseException", .type "object"] "ValueError.__new__", PySem.W.keepIn K (.ref (He.ga K "NoKey")), decide (PySem.W.typeIn K (.ref (He.ga K "NoKey")) = some (.type "type")), PySem.W.excIn K (He.ga K "NoValue") [.type "ValueError", .type "Exception", .type "BaseException", .type "object"] "ValueError.__new__", PySem.W.keepIn K (.ref (He.ga K "NoValue")), decide (PySem.W.typeIn K (.ref (He.ga K "NoValue")) = some (.type "type")), PySem.W.excIn K (He.ga K "NoCode") [.type "ValueError", .type "Exception", .type "BaseException", .type "object"] "ValueError.__new__", PySem.W.keepIn K (.ref (He.ga K "NoCode")), decide (PySem.W.typeIn K (.ref (He.ga K "NoCode")) = some (.type "type")), PySem.W.excIn K (He.ga K "NoRoom") [.type "ValueError", .type "Exception", .type "BaseException", .type "object"] "ValueError.__new__"]
def FL6 (K : PySem.W.Frag) : List Bool := [PySem.W.keepIn K (.ref (He.ga K "NoRoom")), decide (PySem.W.typeIn K (.ref (He.ga K "NoRoom")) = some (.type "type")), PySem.W.excIn K (He.ga K "NoPage") [.type "ValueError", .type "Exception", .type "BaseException", .type "object"] "ValueError.__new__", PySem.W.keepIn K (.ref (He.ga K "NoPage")), decide (PySem.W.typeIn K (.ref (He.ga K "NoPage")) = some (.type "type")), PySem.W.excIn K (He.ga K "NoPlace") [.type "ValueError", .type "Exception", .type "BaseException", .type "object"] "ValueError.__new__", PySem.W.keepIn K (.ref (He.ga K "NoPlace")), decide (PySem.W.typeIn K (.ref (He.ga K "NoPlace")) = some (.type "type")), PySem.W.excIn K (He.ga K "NoVersion") [.type "ValueError", .type "Exception", .type "BaseException", .type "object"] "ValueError.__new__", PySem.W.keepIn K (.ref (He.ga K "NoVersion")), decide (PySem.W.typeIn K (.ref (He.ga K "NoVersion")) = some (.type "type")), PySem.W.excIn K (He.ga K "NoMark") [.type "ValueError", .type "Exception", .type "BaseException", .type "object"] "ValueError.__new__", PySem.W.keepIn K (.ref (He.ga K "NoMark")), decide (PySem.W.typeIn K (.ref (He.ga K "NoMark")) = some (.type "type")), PySem.W.excIn K (He.ga K "NoNode") [.type "ValueError", .type "Exception", .type "BaseException", .type "object"] "ValueError.__new__", PySem.W.keepIn K (.ref (He.ga K "NoNode")), decide (PySem.W.typeIn K (.ref (He.ga K "NoNode")) = some (.type "type")), PySem.W.excIn K (He.ga K "NoRow") [.type "ValueError", .type "Exception", .type "BaseException", .type "object"] "ValueError.__new__", PySem.W.keepIn K (.ref (He.ga K "NoRow")), decide (PySem.W.typeIn K (.ref (He.ga K "NoRow")) = some (.type "type")), decide (PySem.W.specialIn K (.builtin "object.__class__") "__get__" = some (some (.builtin "getset_descriptor.__get__"))), decide (PySem.W.takesIn K (.builtin "object.__class__") = some true), decide (PySem.W.findIn K (.ref (He.ga K "NoKey")) "__getattribute__" = some (some (.builtin "BaseException.__getattribute__"))), decide (PySem.W.findIn K (.ref (He.ga K "NoKey")) "__getattr__" = some none)]
def FL7 (K : PySem.W.Frag) : List Bool := [PySem.W.hasDictIn K (He.ga K "NoKey"), decide (PySem.W.findIn K (.ref (He.ga K "NoKey")) "__class__" = some (some (.builtin "object.__class__"))), decide (PySem.W.mroIn K (He.ga K "NoKey") (.type "object") = some true), PySem.W.isClsIn K (He.ga K "NoKey"), decide (PySem.W.subIn K (.ref (He.ga K "NoKey")) (.ref (He.ga K "NoKey")) = some true), decide (PySem.W.kitOne K (.ref (He.ga K "NoKey")) (.ref (He.ga K "LeafError")) = some true), decide (PySem.W.kitOne K (.ref (He.ga K "NoKey")) (.ref (He.ga K "NoKey")) = some true), decide (PySem.W.kitOne K (.ref (He.ga K "NoKey")) (.ref (He.ga K "NoValue")) = some false), decide (PySem.W.kitOne K (.ref (He.ga K "NoKey")) (.ref (He.ga K "NoCode")) = some false), decide (PySem.W.kitOne K (.ref (He.ga K "NoKey")) (.ref (He.ga K "NoRoom")) = some false), decide (PySem.W.kitOne K (.ref (He.ga K "NoKey")) (.ref (He.ga K "NoPage")) = some false), decide (PySem.W.kitOne K (.ref (He.ga K "NoKey")) (.ref (He.ga K "NoPlace")) = some false), decide (PySem.W.kitOne K (.ref (He.ga K "NoKey")) (.ref (He.ga K "NoVersion")) = some false), decide (PySem.W.kitOne K (.ref (He.ga K "NoKey")) (.ref (He.ga K "NoMark")) = some false), decide (PySem.W.kitOne K (.ref (He.ga K "NoKey")) (.ref (He.ga K "NoNode")) = some false), decide (PySem.W.kitOne K (.ref (He.ga K "NoKey")) (.ref (He.ga K "NoRow")) = some false), decide (PySem.W.kitOne K (.ref (He.ga K "NoKey")) (.type "ValueError") = some true)]
def exH (K : PySem.W.Frag) : Bool := (FL0 K).all id && ((FL1 K).all id && ((FL2 K).all id && ((FL3 K).all id && ((FL4 K).all id && ((FL5 K).all id && ((FL6 K).all id && ((FL7 K).all id)))))))
def fnH0 : List (Str × Option Str) := [("is_number", none), ("is_word", none), ("is_part", none), ("is_key", none), ("is_value", none), ("part_code", none), ("coded", none), ("_law_cell", none), ("_law_whole", none), ("_law_word", none), ("_law_part", none), ("_law_key", none), ("_law_is_part", none), ("_law_is_key", none), ("_law_word_of", none), ("_law_odd", none), ("_law_thing", none), ("_law_number", none), ("_law_told", none), ("_law_right", none)]
def vsH0 : List He.FnW := [some ("is_number", "is_number", defArgs (top 19), .stmts (defBody (top 19)), defScope (top 19), mainGlobals, [], builtinsNs),
  some ("is_word", "is_word", defArgs (top 20), .stmts (defBody (top 20)), defScope (top 20), mainGlobals, [], builtinsNs),
  some ("is_part", "is_part", defArgs (top 21), .stmts (defBody (top 21)), defScope (top 21), mainGlobals, [], builtinsNs),
  some ("is_key", "is_key", defArgs (top 22), .stmts (defBody (top 22)), defScope (top 22), mainGlobals, [], builtinsNs),
  some ("is_value", "is_value", defArgs (top 23), .stmts (defBody (top 23)), defScope (top 23), mainGlobals, [], builtinsNs),
  some ("part_code", "part_code", defArgs (top 24), .stmts (defBody (top 24)), defScope (top 24), mainGlobals, [], builtinsNs),
  some ("coded", "coded", defArgs (top 25), .stmts (defBody (top 25)), defScope (top 25), mainGlobals, [], builtinsNs),
  some ("_law_cell", "_law_cell", defArgs (top 27), .stmts (defBody (top 27)), defScope (top 27), mainGlobals, [], builtinsNs),
  some ("_law_whole", "_law_whole", defArgs (top 28), .stmts (defBody (top 28)), defScope (top 28), mainGlobals, [], builtinsNs),
  some ("_law_word", "_law_word", defArgs (top 29), .stmts (defBody (top 29)), defScope (top 29), mainGlobals, [], builtinsNs),
  some ("_law_part", "_law_part", defArgs (top 30), .stmts (defBody (top 30)), defScope (top 30), mainGlobals, [], builtinsNs),
  some ("_law_key", "_law_key", defArgs (top 31), .stmts (defBody (top 31)), defScope (top 31), mainGlobals, [], builtinsNs),
  some ("_law_is_part", "_law_is_part", defArgs (top 32), .stmts (defBody (top 32)), defScope (top 32), mainGlobals, [], builtinsNs),
  some ("_law_is_key", "_law_is_key", defArgs (top 33), .stmts (defBody (top 33)), defScope (top 33), mainGlobals, [], builtinsNs),
  some ("_law_word_of", "_law_word_of", defArgs (top 34), .stmts (defBody (top 34)), defScope (top 34), mainGlobals, [], builtinsNs),
  some ("_law_odd", "_law_odd", defArgs (top 35), .stmts (defBody (top 35)), defScope (top 35), mainGlobals, [], builtinsNs),
  some ("_law_thing", "_law_thing", defArgs (top 36), .stmts (defBody (top 36)), defScope (top 36), mainGlobals, [], builtinsNs),
  some ("_law_number", "_law_number", defArgs (top 37), .stmts (defBody (top 37)), defScope (top 37), mainGlobals, [], builtinsNs),
  some ("_law_told", "_law_told", defArgs (top 38), .stmts (defBody (top 38)), defScope (top 38), mainGlobals, [], builtinsNs),
  some ("_law_right", "_law_right", defArgs (top 39), .stmts (defBody (top 39)), defScope (top 39), mainGlobals, [], builtinsNs)]
def fnH1 : List (Str × Option Str) := [("law", none)]
def vsH1 : List He.FnW := [some ("law", "law", defArgs (top 40), .stmts (defBody (top 40)), defScope (top 40), mainGlobals, [], builtinsNs)]
def fnH : List (Str × Option Str) := fnH0 ++ (fnH1)
def vsH : List He.FnW := vsH0 ++ (vsH1)
def loose0 : List Str := ["__name__", "LeafError", "NoKey", "NoValue", "NoCode", "NoRoom", "NoPage", "NoPlace", "NoVersion", "NoMark", "NoNode", "NoRow", "MOST_PARTS", "MOST_NUMBER", "MOST_VALUE", "MOST_LETTERS", "LETTERS", "GREAT", "is_number", "is_word"]
def loose1 : List Str := ["is_part", "is_key", "is_value", "part_code", "coded", "_law_cell", "_law_whole", "_law_word", "_law_part", "_law_key", "_law_is_part", "_law_is_key", "_law_word_of", "_law_odd", "_law_thing", "_law_number", "_law_told", "_law_right"]
def loose : List Str := loose0 ++ loose1
abbrev RR : PySem.W.OpenRow := PySem.W.OpenLaw.row PySem.Challenge.rw_heldleaves_k11_keys_told
abbrev qv : Program := PySem.W.view RR.prog [40]
abbrev hk : PySem.W.Hook := hookH 5 exH fnH vsH
def ob (s : PySem.W.SharedT) : AlH := obsH 5 exH fnH (HandSHeadRun.getT s)
theorem ob_eq (s : PySem.W.SharedT) : ob s = hk.obs s.abs := obsH_eq (HandSHeadRun.getT_eq s)
theorem run (w : World) : HandSHeadRun.RunEq RR qv hk ob 20000 loose w := by
  intro os
  kernel_rfl
end MP
set_option maxRecDepth 100000
set_option maxHeartbeats 4000000
set_option autoImplicit false
namespace MP
open PySem L2
inductive D where
  | non | bl (b : Bool) | int (i : Int) | str (s : List Nat) | tup (l : List D) | lst (l : List D) | dic (l : List (D × D)) | obj (n : Nat) | exc (c : Nat)
instance : Inhabited D := ⟨.non⟩
def tl (x : Str) : List Nat := x.cps.toList
abbrev S (s : List Nat) : Str := ⟨s.toArray⟩
theorem tl_S (s : List Nat) : tl (S s) = s := by simp [S, tl]
theorem S_tl (x : Str) : S (tl x) = x := by simp [S, tl]
theorem S_len (s : List Nat) : (S s).length = s.length := by simp [S, Str.length]
theorem S_inj {a b : List Nat} (h : S a = S b) : a = b := by rw [← tl_S a, h, tl_S]
mutual
def D.toPy : D → PyData
  | .non => .none
  | .bl b => .bool b
  | .int i => .int i
  | .str s => .str (S s)
  | .tup l => .tuple (D.toPys l)
  | .lst l => .list (D.toPys l)
  | .dic _ => .none
  | .obj _ => .none
  | .exc _ => .none
def D.toPys : List D → List PyData
  | [] => []
  | d :: ds => d.toPy :: D.toPys ds
end
mutual
def D.flat : D → Bool
  | .non | .bl _ | .int _ | .str _ => true
  | .tup l | .lst l => D.flats l
  | .dic _ | .obj _ | .exc _ => false
def D.flats : List D → Bool
  | [] => true
  | d :: ds => d.flat && D.flats ds
end
mutual
def D.hard : D → Bool
  | .non | .bl _ | .int _ | .str _ => true
  | .tup l => D.hards l
  | .lst _ | .dic _ | .obj _ | .exc _ => false
def D.hards : List D → Bool
  | [] => true
  | d :: ds => d.hard && D.hards ds
end
mutual
def D.dep : D → Nat
  | .tup l | .lst l => D.deps l + 1
  | .non | .bl _ | .int _ | .str _ | .dic _ | .obj _ | .exc _ => 0
def D.deps : List D → Nat
  | [] => 0
  | d :: ds => max d.dep (D.deps ds)
end
noncomputable def hide (B : Addr → Prop) (H : Hp) : Hp := open Classical in fun a => if B a then none else H a
theorem hide_some {B : Addr → Prop} {H : Hp} {a : Addr} {o : HO} (h : hide B H a = some o) : ¬ B a ∧ H a = some o := by
  unfold hide at h
  split at h
  · cases h
  · exact ⟨by assumption, h⟩
theorem hide_of {B : Addr → Prop} {H : Hp} {a : Addr} {o : HO} (b : ¬ B a) (h : H a = some o) : hide B H a = some o := by
  unfold hide
  rw [if_neg b]
  exact h
theorem hide_sub {B : Addr → Prop} {H : Hp} : Same (hide B H) H := fun a o h => (hide_some h).2
theorem hide_same {B B' : Addr → Prop} {H H' : Hp} (h : ∀ a o, ¬ B a → H a = some o → ¬ B' a ∧ H' a = some o) : Same (hide B H) (hide B' H') := fun a o e =>
  let ⟨n, q⟩ := hide_some e
  let ⟨n', q'⟩ := h a o n q
  hide_of n' q'
theorem Same.rd {H H' : Hp} {a : Addr} {u : HO} (s : Same H H') (h : Rd H a u) : Rd H' a u := by
  rcases h with h | ⟨o, h⟩
  · exact .inl (s _ _ h)
  · exact .inr ⟨o, s _ _ h⟩
theorem Same.sqL {K : PySem.W.Frag} {H H' : Hp} {a : Addr} {xs : List V} (s : Same H H') (h : SqL K H a xs) : SqL K H' a xs := h.elim (fun h => .inl (Same.rd s h)) .inr
theorem Same.sqT {K : PySem.W.Frag} {H H' : Hp} {a : Addr} {xs : List V} (s : Same H H') (h : SqT K H a xs) : SqT K H' a xs := h.elim (fun h => .inl (Same.rd s h)) .inr
def keyD : Key → D
  | .inl i => .int i
  | .inr x => .str (tl x)
def KeyZ : Key → Prop
  | .inl _ => True
  | .inr x => (tl x).length ≤ sizeLine
def exNames : List Str := ["LeafError", "NoKey", "NoValue", "NoCode", "NoRoom", "NoPage", "NoPlace", "NoVersion", "NoMark", "NoNode", "NoRow", "ValueError"]
def exName (k : Nat) : Str := exNames.getD k ""
def ClsOf (K : PySem.W.Frag) (k : Nat) (cv : Value) : Prop := PySem.W.nsIn K mainGlobals (exName k) = some (some cv)
def ExI (cv : Value) (a : Addr) : HO := .ext fun h => ∃ (oe : Obj) (vs : Array Value), h.get? a = some oe ∧ Zc cv none oe ∧ oe.data = .fields vs
mutual
inductive Rep (K : PySem.W.Frag) (A : Nat → Option Addr) (H : Hp) : V → D → Prop
  | non : Rep K A H .non .non
  | bl (b : Bool) : Rep K A H (.bl b) (.bl b)
  | int (i : Int) : Rep K A H (.int i) (.int i)
  | str (s : List Nat) : s.length ≤ sizeLine → Rep K A H (.str (S s)) (.str s)
  | tup {a : Addr} {vs : List V} {ds : List D} : SqT K H a vs → Reps K A H vs ds → ds.length ≤ sizeLine → Rep K A H (.ref a) (.tup ds)
  | lst {a : Addr} {vs : List V} {ds : List D} : SqL K H a vs → Reps K A H vs ds → ds.length ≤ sizeLine → Rep K A H (.ref a) (.lst ds)
  | dic {a : Addr} {kvs : List (Key × V)} {ds : List (D × D)} : Rd H a (.dK kvs) → Repk K A H kvs ds → ds.length ≤ sizeLine → Rep K A H (.ref a) (.dic ds)
  | obj {a : Addr} {n : Nat} : A n = some a → Rep K A H (.ref a) (.obj n)
  | exc {a : Addr} {k : Nat} {cv : Value} : ClsOf K k cv → H a = some (ExI cv a) → Rep K A H (.ref a) (.exc k)
inductive Reps (K : PySem.W.Frag) (A : Nat → Option Addr) (H : Hp) : List V → List D → Prop
  | nil : Reps K A H [] []
  | cons {v : V} {vs : List V} {d : D} {ds : List D} : Rep K A H v d → Reps K A H vs ds → Reps K A H (v :: vs) (d :: ds)
inductive Repk (K : PySem.W.Frag) (A : Nat → Option Addr) (H : Hp) : List (Key × V) → List (D × D) → Prop
  | nil : Repk K A H [] []
  | cons {k : Key} {v : V} {vs : List (Key × V)} {d : D} {ds : List (D × D)} : KeyZ k → Rep K A H v d → Repk K A H vs ds → Repk K A H ((k, v) :: vs) ((keyD k, d) :: ds)
end
section
variable {K : PySem.W.Frag} {A A' : Nat → Option Addr} {H H' : Hp}
mutual
theorem Rep.mono (s : Same H H') (a : ∀ n x, A n = some x → A' n = some x) : ∀ {v : V} {d : D}, Rep K A H v d → Rep K A' H' v d
  | _, _, .non => .non
  | _, _, .bl b => .bl b
  | _, _, .int i => .int i
  | _, _, .str s z => .str s z
  | _, _, .tup h r z => .tup (Same.sqT s h) (Reps.mono s a r) z
  | _, _, .lst h r z => .lst (Same.sqL s h) (Reps.mono s a r) z
  | _, _, .dic h r z => .dic (Same.rd s h) (Repk.mono s a r) z
  | _, _, .obj h => .obj (a _ _ h)
  | _, _, .exc q h => .exc q (s _ _ h)
theorem Reps.mono (s : Same H H') (a : ∀ n x, A n = some x → A' n = some x) : ∀ {v : List V} {d : List D}, Reps K A H v d → Reps K A' H' v d
  | _, _, .nil => .nil
  | _, _, .cons h r => .cons (Rep.mono s a h) (Reps.mono s a r)
theorem Repk.mono (s : Same H H') (a : ∀ n x, A n = some x → A' n = some x) : ∀ {v : List (Key × V)} {d : List (D × D)}, Repk K A H v d → Repk K A' H' v d
  | _, _, .nil => .nil
  | _, _, .cons z h r => .cons z (Rep.mono s a h) (Repk.mono s a r)
end
theorem Reps.length : ∀ {v : List V} {d : List D}, Reps K A H v d → v.length = d.length
  | _, _, .nil => rfl
  | _, _, .cons _ r => congrArg (· + 1) (Reps.length r)
theorem Reps.get : ∀ {vs : List V} {ds : List D} {i : Nat} {d : D}, Reps K A H vs ds → ds[i]? = some d → ∃ v, vs[i]? = some v ∧ Rep K A H v d
  | _, _, _, _, .nil, e => by simp at e
  | _, _, 0, _, .cons h _, e => by
    simp at e
    subst e
    exact ⟨_, rfl, h⟩
  | _, _, i + 1, _, .cons _ t, e => by
    obtain ⟨v, h1, h2⟩ := Reps.get (i := i) t (by simpa using e)
    exact ⟨v, by simpa using h1, h2⟩
theorem Reps.getV : ∀ {vs : List V} {ds : List D} {i : Nat} {v : V}, Reps K A H vs ds → vs[i]? = some v → ∃ d, ds[i]? = some d ∧ Rep K A H v d
  | _, _, _, _, .nil, e => by simp at e
  | _, _, 0, _, .cons h _, e => by
    simp at e
    subst e
    exact ⟨_, rfl, h⟩
  | _, _, i + 1, _, .cons _ t, e => by
    obtain ⟨v, h1, h2⟩ := Reps.getV (i := i) t (by simpa using e)
    exact ⟨v, by simpa using h1, h2⟩
theorem Reps.append : ∀ {vs ws : List V} {ds es : List D}, Reps K A H vs ds → Reps K A H ws es → Reps K A H (vs ++ ws) (ds ++ es)
  | _, _, _, _, .nil, s => s
  | _, _, _, _, .cons h t, s => .cons h (Reps.append t s)
theorem Reps.take : ∀ {vs : List V} {ds : List D} (n : Nat), Reps K A H vs ds → Reps K A H (vs.take n) (ds.take n)
  | _, _, 0, _ => .nil
  | _, _, _ + 1, .nil => .nil
  | _, _, n + 1, .cons h t => .cons h (Reps.take n t)
theorem Reps.drop : ∀ {vs : List V} {ds : List D} (n : Nat), Reps K A H vs ds → Reps K A H (vs.drop n) (ds.drop n)
  | _, _, 0, r => r
  | _, _, _ + 1, .nil => .nil
  | _, _, n + 1, .cons _ t => Reps.drop n t
theorem Reps.set {v : V} {d : D} (h : Rep K A H v d) : ∀ {vs : List V} {ds : List D} (i : Nat), Reps K A H vs ds → Reps K A H (vs.set i v) (ds.set i d)
  | _, _, _, .nil => .nil
  | _, _, 0, .cons _ t => .cons h t
  | _, _, i + 1, .cons q t => .cons q (Reps.set h i t)
theorem Reps.rev : ∀ {vs : List V} {ds : List D}, Reps K A H vs ds → Reps K A H vs.reverse ds.reverse
  | _, _, .nil => .nil
  | _, _, .cons h t => by
    rw [List.reverse_cons, List.reverse_cons]
    exact (Reps.rev t).append (.cons h .nil)
theorem Rep.dp (s : Same H H') : ∀ {v : V} {d : D}, d.flat = true → Rep K A H v d → Dp K H' v d.toPy := by
  exact fun f r => go r f
where
  go : ∀ {v : V} {d : D}, Rep K A H v d → d.flat = true → Dp K H' v d.toPy
  | _, _, .non, _ => .non
  | _, _, .bl b, _ => .bl b
  | _, _, .int i, _ => .int i
  | _, _, .str s z, _ => .str _
  | _, _, .tup h r z, f => .tup (Same.sqT s h) (gos r (by simpa [D.flat] using f))
  | _, _, .lst h r z, f => .lst (Same.sqL s h) (gos r (by simpa [D.flat] using f))
  | _, _, .dic h r z, f => by simp [D.flat] at f
  | _, _, .obj h, f => by simp [D.flat] at f
  | _, _, .exc q h, f => by simp [D.flat] at f
  gos : ∀ {v : List V} {d : List D}, Reps K A H v d → D.flats d = true → DpAll K H' v (D.toPys d)
  | _, _, .nil, _ => .nil
  | _, _, .cons h r, f => by
    simp [D.flats] at f
    exact .cons (go h f.1) (gos r f.2)
end
end MP
set_option maxRecDepth 100000
set_option maxHeartbeats 4000000
set_option autoImplicit false
namespace MP
open PySem L2
inductive BOp where | add | sub | mul | fdiv | mod | pow
inductive COp where | eq | ne | lt | le | gt | ge | isin | notin | isb | nisb
inductive BI where | len | sum | sorted | min | max | all | any | list | tuple | str | int | dict | divmod
inductive MT where | sjoin | sfind | sindex | sstarts | ssplit | lindex | dget | szfill | supper
inductive Ty where | int | bool | str | list | tuple | dict
inductive Tgt where | one (i : Nat) | many (l : List Nat)
inductive OpN where | fld (f : Nat) | get | pop | lpop | lindex | app | ext | upd | sdef | clear | rev | count
inductive NwN where | lst | dic | dict | fre
inductive Kd where | lst | keys | vals | items
mutual
inductive E where
  | var (i : Nat)
  | lit (d : D)
  | glob (x : Str) (d : D)
  | bin (o : BOp) (a b : E)
  | cmp (o : COp) (a b : E)
  | isN (neg : Bool) (a : E)
  | chain (o1 o2 : COp) (a b c : E)
  | and2 (a b : E) | or2 (a b : E) | not1 (a : E)
  | ifx (c a b : E)
  | idx (a b : E)
  | sl (a : E) (lo hi : OE)
  | slS (a : E) (lo : OE) (step : Int)
  | tup (l : Es) | lst (l : Es)
  | dic0
  | comp (tg : Tgt) (it : I) (c : OE) (e : E)
  | call (k : Nat) (l : Es)
  | bi (b : BI) (l : Es)
  | mth (m : MT) (r : E) (l : Es)
  | isi (ts : List Ty) (e : E)
  /-- isinstance of a class of one's own -/
  | isx (k : Nat) (e : E)
  /-- isinstance of a tuple of classes of one's own -/
  | isxT (ks : List Nat) (e : E)
  /-- tuple(zip(a, b)) -/
  | tzip (a b : E)
  /-- e.replace(y, z), of written texts -/
  | rep (y z : List Nat) (e : E)
  /-- r.o(l), r.f: an operation upon what changes -/
  | mop (o : OpN) (r : E) (l : Es)
  /-- r.extend(a), a new -/
  | ext (r a : E)
  /-- something new that changes -/
  | new (o : NwN) (l : Es)
  /-- r.nm(l), a method of an own class -/
  | meth (c nm : Nat) (r : E) (l : Es) (dv : List D)
  /-- C(l), an own class -/
  | make (c : Nat) (l : Es) (dv : List D)
  /-- f(l), the defaults dv behind -/
  | callD (k : Nat) (l : Es) (dv : List D)
  /-- [..] * e -/
  | lrep (l : Es) (e : E)
  /-- a + b, lists -/
  | cat (a b : E)
  /-- [e for tg in a if c], a told box, locked meanwhile -/
  | compL (kd : Kd) (a : E) (tg : Tgt) (c : OE) (e : E)
  /-- sorted(a, key=lambda pair: pair[0]) -/
  | sortK (a : E)
  /-- sorted(a.items()) -/
  | sortI (a : E)
inductive Es where | nil | cons (a : E) (l : Es)
inductive OE where | no | yes (a : E)
inductive I where | e (a : E) | rng1 (a : E) | rng2 (a b : E) | rng3 (a b c : E) | rev (a : E) | keys (a : E) | enum (a : E) | zip (a b : E) | items (a : E) | vals (a : E)
end
mutual
inductive St where
  | asg (tg : Tgt) (e : E)
  | own (i : Nat) (e : E)
  /-- x = e, what e gives is new: a list or dict -/
  | ownB (i : Nat) (e : E)
  | aug (i : Nat) (o : BOp) (e : E)
  | setx (i : Nat) (k e : E)
  | app (i : Nat) (e : E)
  | drop (e : E)
  | ret (e : E)
  | retN
  | ifs (c : E) (a b : Sts)
  | whl (c : E) (b : Sts)
  | fors (tg : Tgt) (it : I) (b : Sts)
  | rais (c : Nat)
  | tri (b : Sts) (cls : Nat) (slot : Option Nat) (s : Sts)
  /-- x = [e for tg in it], a step may raise -/
  | asgX (i : Nat) (tg : Tgt) (it : I) (e : E)
  /-- a, b = e, e a list that changes -/
  | asgU (l : List Nat) (e : E)
  | pas
  /-- what stands in these slots is not asked for any more -/
  | fgt (l : List Nat)
  /-- any statement; nothing is known of it -/
  | wall
  /-- r.f = e -/
  | sfld (f : Nat) (r e : E)
  /-- r.f o= e, e written -/
  | faug (f : Nat) (o : BOp) (r : E) (d : D)
  /-- r[k] = e, r a told box -/
  | ssub (r k e : E)
  | forsL (kd : Kd) (a : E) (tg : Tgt) (b : Sts)
inductive Sts where | nil | cons (a : St) (l : Sts)
end
inductive Ins where | ins (c : Nat) (fs : List (Nat × D)) | box (lk : Bool) (d : D)
  /-- the table of leaf_of's code -/
  | tab
abbrev Mu := List Ins
abbrev Env' := List (Option D)
inductive Res (α : Type) where | ok (a : α) (m : Mu) | err (c : Nat) (m : Mu) | stuck
def Res.bind {α β : Type} (r : Res α) (f : α → Mu → Res β) : Res β := match r with
  | .ok a m => f a m
  | .err c m => .err c m
  | .stuck => .stuck
@[simp] theorem Res.bind_ok {α β : Type} (a : α) (m : Mu) (f : α → Mu → Res β) : (Res.ok a m).bind f = f a m := rfl
def Res.opt {α : Type} (o : Option α) (m : Mu) : Res α := match o with
  | some a => .ok a m
  | none => .stuck
@[simp] theorem Res.opt_some {α : Type} (a : α) (m : Mu) : Res.opt (some a) m = .ok a m := rfl
def Res.calm {α : Type} (r : Res α) : Res α := match r with
  | .ok a m => .ok a m
  | _ => .stuck
@[simp] theorem Res.calm_ok {α : Type} (a : α) (m : Mu) : (Res.ok a m).calm = .ok a m := rfl
theorem Res.bind_eq_ok {α β : Type} {r : Res α} {f : α → Mu → Res β} {b : β} {m : Mu} (h : r.bind f = .ok b m) : ∃ a m', r = .ok a m' ∧ f a m' = .ok b m := by
  cases r with
  | ok a m' => exact ⟨a, m', rfl, h⟩
  | err c m' => cases h
  | stuck => cases h
inductive Fl where | nxt (ρ : Env') (m : Mu) | ret (d : D) (m : Mu) | err (c : Nat) (ρ : Env') (m : Mu) | stuck
structure Cfg where
  call : Nat → List D → Mu → Res D
  /-- is the class an heir of the other one -/
  sub : Nat → Nat → Option Bool
def sizeD : Nat := 16777216
def truth : D → Option Bool
  | .non => some false
  | .bl b => some b
  | .int i => some (i != 0)
  | .str s => some (!s.isEmpty)
  | .tup l => some (!l.isEmpty)
  | .lst l => some (!l.isEmpty)
  | _ => none
def mulOk (i j : Int) : Bool := decide (i.natAbs < 2 ^ 64) || decide (j.natAbs < 2 ^ 64) || decide (i.natAbs.log2 + j.natAbs.log2 < 1000000)
def binD : BOp → D → D → Option D
  | .add, .int i, .int j => some (.int (i + j))
  | .add, .str a, .str b => if a.length + b.length ≤ sizeD then some (.str (a ++ b)) else none
  | .add, .lst a, .lst b => if a.length + b.length ≤ sizeD then some (.lst (a ++ b)) else none
  | .add, .tup a, .tup b => if a.length + b.length ≤ sizeD then some (.tup (a ++ b)) else none
  | .sub, .int i, .int j => some (.int (i - j))
  | .mul, .int i, .int j => if mulOk i j then some (.int (i * j)) else none
  | .mul, .str a, .int k => if 0 ≤ k ∧ k < 2 ^ 62 ∧ a.length * k.toNat ≤ 10000 then some (.str ((List.replicate k.toNat a).flatten)) else none
  | .mul, .tup a, .int k => if a.isEmpty = false ∧ 0 ≤ k ∧ k ≤ 1000 ∧ a.length ≤ 1000 ∧ a.length * k.toNat ≤ 10000 then some (.tup (List.replicate k.toNat a).flatten) else none
  | .fdiv, .int i, .int j => if 0 < j ∧ j.natAbs.log2 < 9000 then some (.int (i / j)) else none
  | .mod, .int i, .int j => if 0 < j then some (.int (i % j)) else none
  | .pow, .int i, .int j => if 0 ≤ j ∧ j ≤ 1000 ∧ i.natAbs < 2 ^ 64 then some (.int (i ^ j.toNat)) else none
  | _, _, _ => none
def augD : BOp → D → D → Option D
  | .add, .int x, .int y => some (.int (x + y))
  | .sub, .int x, .int y => some (.int (x - y))
  | _, _, _ => none
mutual
def D.flat2 : D → Bool
  | .non | .bl _ | .int _ | .str _ => true
  | .tup l | .lst l => D.flat2s l
  | .dic l => l.isEmpty
  | .obj _ | .exc _ => false
def D.flat2s : List D → Bool
  | [] => true
  | d :: ds => d.flat2 && D.flat2s ds
end
mutual
def D.toPy2 : D → PyData
  | .non => .none
  | .bl b => .bool b
  | .int i => .int i
  | .str s => .str (S s)
  | .tup l => .tuple (D.toPy2s l)
  | .lst l => .list (D.toPy2s l)
  | .dic _ => .dict []
  | .obj _ => .none
  | .exc _ => .none
def D.toPy2s : List D → List PyData
  | [] => []
  | d :: ds => d.toPy2 :: D.toPy2s ds
end
def keyOf : D → Option Key
  | .int i => some (.inl i)
  | .str s => some (.inr (S s))
  | _ => none
def getKD (q : Key) : List (D × D) → Option D
  | [] => none
  | (k, v) :: r => if keyOf k = some q then some v else getKD q r
def okP (p : D × D) : Bool := p.2.flat && decide (p.2.dep ≤ 64)
def eqKD (la lb : List (D × D)) : Bool := la.all fun p => match keyOf p.1 with
  | some q => (match getKD q lb with
    | some e => PyData.eqv p.2.toPy e.toPy
    | none => false)
  | none => false
def eqDic : D → D → Option Bool
  | .dic la, .dic lb => if la.all okP = true ∧ lb.all okP = true then some (la.length == lb.length && eqKD la lb) else none
  | .lst (x :: l), .lst [] => if D.flat2s (x :: l) = true then some false else none
  | _, _ => none
mutual
def sameP : PyData → PyData → Bool
  | .none, .none => true
  | .bool a, .bool b => a == b
  | .int a, .int b => decide (a = b)
  | .str a, .str b => decide (a = b)
  | .list a, .list b => samePs a b
  | .tuple a, .tuple b => samePs a b
  | .dict [], .dict [] => true
  | _, _ => false
def samePs : List PyData → List PyData → Bool
  | [], [] => true
  | d :: ds, e :: es => sameP d e && samePs ds es
  | _, _ => false
end
mutual
def dpP : PyData → Nat
  | .list l => dpPs l + 1
  | .tuple l => dpPs l + 1
  | .dict _ => 1
  | _ => 0
def dpPs : List PyData → Nat
  | [] => 0
  | d :: ds => max (dpP d) (dpPs ds)
end
def isTupP : PyData → Bool
  | .tuple _ => true
  | _ => false
def eqD (a b : D) : Option Bool := if a.flat = true ∧ b.flat = true ∧ (a.dep ≤ 64 ∨ b.dep ≤ 64) then some (PyData.eqv a.toPy b.toPy) else
  if a.flat2 = true ∧ b.flat2 = true ∧ isTupP a.toPy2 = true ∧ sameP a.toPy2 b.toPy2 = true ∧ dpP a.toPy2 ≤ 60 then some true else eqDic a b
def ltS (a b : List Nat) : Bool := decide (a < b)
def subS (a b : List Nat) : Bool := !(Builtin.Str.occurrences (S b) (S a) 0 b.length 1).isEmpty
def isinD (x : D) : D → Option Bool
  | .lst l => if x.flat = true ∧ D.flats l = true ∧ x.dep ≤ 60 then some (l.any fun y => PyData.eqv y.toPy x.toPy) else none
  | .tup l => if x.flat = true ∧ D.flats l = true ∧ x.dep ≤ 60 then some (l.any fun y => PyData.eqv y.toPy x.toPy) else none
  | .str b => match x with
    | .str a => some (subS a b)
    | _ => none
  | .dic l => (keyOf x).map fun q => (getKD q l).isSome
  | _ => none
def cmpD : COp → D → D → Option Bool
  | .eq, a, b => eqD a b
  | .ne, a, b => (eqD a b).map (!·)
  | .lt, .int i, .int j => some (decide (i < j))
  | .le, .int i, .int j => some (decide (i ≤ j))
  | .gt, .int i, .int j => some (decide (j < i))
  | .ge, .int i, .int j => some (decide (j ≤ i))
  | .lt, .str i, .str j => some (ltS i j)
  | .le, .str i, .str j => some (!ltS j i)
  | .gt, .str i, .str j => some (ltS j i)
  | .ge, .str i, .str j => some (!ltS i j)
  | .isin, a, b => isinD a b
  | .notin, a, b => (isinD a b).map (!·)
  | .isb, .bl a, .bl b => some (decide (a = b))
  | .nisb, .bl a, .bl b => some (!decide (a = b))
  | _, _, _ => none
def placeD (n : Nat) (i : Int) : Option Nat := if 0 ≤ i then (if i < n then some i.toNat else none) else if -(n : Int) ≤ i then some (i + n).toNat else none
def idxD : D → D → Option D
  | .lst l, .int i => (placeD l.length i).bind (l[·]?)
  | .tup l, .int i => (placeD l.length i).bind (l[·]?)
  | .str s, .int i => ((placeD s.length i).bind (s[·]?)).map fun c => .str [c]
  | .dic l, k => (keyOf k).bind fun q => getKD q l
  | _, _ => none
def endD (n : Nat) (dflt : Nat) : Option Int → Nat
  | none => dflt
  | some i => if i < 0 then (i + n).toNat else min i.toNat n
def cutL {α : Type} (l : List α) (a b : Nat) : List α := (l.drop a).take (b - a)
def slD : D → Option Int → Option Int → Option D
  | .lst l, lo, hi => some (.lst (cutL l (endD l.length 0 lo) (endD l.length l.length hi)))
  | .tup l, lo, hi => some (.tup (cutL l (endD l.length 0 lo) (endD l.length l.length hi)))
  | .str l, lo, hi => some (.str (cutL l (endD l.length 0 lo) (endD l.length l.length hi)))
  | _, _, _ => none
def pickL {α : Type} (xs : List α) (lo : Option Int) (st : Int) : List α := (sliceRange (sliceBounds lo none (some st) xs.length).1 (sliceBounds lo none (some st) xs.length).2.1 (sliceBounds lo none (some st) xs.length).2.2).filterMap (xs[·]?)
def slSD : D → Option Int → Int → Option D
  | .lst l, lo, st => if 0 < st then some (.lst (pickL l lo st)) else if st = -1 ∧ lo = none then some (.lst l.reverse) else none
  | _, _, _ => none
def intsOf : List D → Option (List Int)
  | [] => some []
  | .int i :: r => (intsOf r).map (i :: ·)
  | _ => none
def strsOf : List D → Option (List (List Nat))
  | [] => some []
  | .str s :: r => (strsOf r).map (s :: ·)
  | _ => none
def blsOf : List D → Option (List Bool)
  | [] => some []
  | .bl s :: r => (blsOf r).map (s :: ·)
  | _ => none
def putIn {α : Type} (le : α → α → Bool) (x : α) : List α → List α
  | [] => [x]
  | y :: r => if le x y then x :: y :: r else y :: putIn le x r
def sortL {α : Type} (le : α → α → Bool) : List α → List α
  | [] => []
  | x :: r => putIn le x (sortL le r)
def leS (a b : List Nat) : Bool := !ltS b a
def numS (n : Nat) : List Nat := (Nat.toDigits 10 n).map Char.toNat
def minS : List Nat → List (List Nat) → List Nat
  | a, [] => a
  | a, y :: r => minS (if ltS y a then y else a) r
def maxS : List Nat → List (List Nat) → List Nat
  | a, [] => a
  | a, y :: r => maxS (if ltS a y then y else a) r
def minO : List (List Nat) → Option D
  | [] => none
  | x :: r => some (.str (minS x r))
def maxO : List (List Nat) → Option D
  | [] => none
  | x :: r => some (.str (maxS x r))
def minI : Int → List Int → Int
  | a, [] => a
  | a, y :: r => minI (if y < a then y else a) r
def maxI : Int → List Int → Int
  | a, [] => a
  | a, y :: r => maxI (if a < y then y else a) r
def minIO : List Int → Option D
  | [] => none
  | x :: r => some (.int (minI x r))
def maxIO : List Int → Option D
  | [] => none
  | x :: r => some (.int (maxI x r))
def orI (a b : Option D) : Option D := match a with
  | some x => some x
  | none => b
def siOf : List (D × D) → Option (List (List Nat × Int))
  | [] => some []
  | (.str s, .int i) :: r => (siOf r).map ((s, i) :: ·)
  | _ => none
def leSI (a b : List Nat × Int) : Bool := if decide (b.1 = a.1) = true then !decide (b.2 < a.2) else !decide (b.1 < a.1)
def siD1 (e : List Nat × Int) : D := .tup [.str e.1, .int e.2]
def sortID : D → Option D
  | .dic l => (siOf l).map fun ps => .lst ((ps.mergeSort leSI).map siD1)
  | _ => none
def pairsOf : List D → Option (List (Key × D))
  | [] => some []
  | .tup [k, v] :: r => match keyOf k with
    | some q => (pairsOf r).map ((q, v) :: ·)
    | none => none
  | _ => none
def kdD (l : List (Key × D)) : List (D × D) := l.map fun p => (keyD p.1, p.2)
def putDK (l : List (Key × D)) (k : Key) (v : D) : List (Key × D) :=
  if (l.any fun kv => decide (kv.1 = k)) = true then l.map (fun kv => if kv.1 = k then (kv.1, v) else kv) else l ++ [(k, v)]
def mergeDK (l more : List (Key × D)) : List (Key × D) := more.foldl (fun acc kv => putDK acc kv.1 kv.2) l
def keysI : List (D × D) → Option (List Int)
  | [] => some []
  | (.int i, _) :: r => (keysI r).map (i :: ·)
  | _ => none
def keysS : List (D × D) → Option (List (List Nat))
  | [] => some []
  | (.str s, _) :: r => (keysS r).map (s :: ·)
  | _ => none
def biD : BI → List D → Option D
  | .len, [.lst l] => some (.int l.length)
  | .len, [.tup l] => some (.int l.length)
  | .len, [.str l] => some (.int l.length)
  | .len, [.dic l] => some (.int l.length)
  | .sum, [.lst l] => (intsOf l).map fun ns => .int ns.sum
  | .sorted, [.lst l] => if l.length < 4096 then (match intsOf l, strsOf l with
      | some ns, _ => some (.lst ((sortL (fun a b => decide (a ≤ b)) ns).map D.int))
      | _, some ss => some (.lst ((sortL leS ss).map D.str))
      | _, _ => none) else none
  | .min, [.int i, .int j] => some (.int (if j < i then j else i))
  | .max, [.int i, .int j] => some (.int (if j > i then j else i))
  | .all, [.lst l] => (blsOf l).map fun bs => .bl (bs.all id)
  | .any, [.lst l] => (blsOf l).map fun bs => .bl (bs.any id)
  | .list, [.lst l] => some (.lst l)
  | .list, [.tup l] => some (.lst l)
  | .list, [.str s] => some (.lst (s.map fun c => .str [c]))
  | .int, [.int i] => some (.int i)
  | .int, [.bl b] => some (.int (if b then 1 else 0))
  | .int, [.str s] => if s.length ≤ 640 then (PySem.intText? (S s)).map D.int else none
  | .tuple, [.lst l] => some (.tup l)
  | .tuple, [.tup l] => some (.tup l)
  | .str, [.int i] => if 0 ≤ i ∧ i < 10 ^ 100 then some (.str (numS i.toNat)) else none
  | .min, [.str a, .str b] => some (.str (if ltS b a then b else a))
  | .max, [.str a, .str b] => some (.str (if ltS a b then b else a))
  | .min, [.lst l] => orI ((strsOf l).bind minO) ((intsOf l).bind minIO)
  | .min, [.tup l] => (strsOf l).bind minO
  | .max, [.lst l] => orI ((strsOf l).bind maxO) ((intsOf l).bind maxIO)
  | .max, [.tup l] => (strsOf l).bind maxO
  | .dict, [.lst l] => (pairsOf l).map fun ps => .dic (kdD (mergeDK [] ps))
  | .dict, [.dic l] => some (.dic l)
  | .sorted, [.dic l] => if l.length < 4096 then (match keysS l with
      | some ss => some (.lst ((sortL leS ss).map D.str))
      | none => if l.length < 64 then (keysI l).map fun ns => .lst ((sortL (fun a b => decide (a ≤ b)) ns).map D.int) else none) else none
  | .divmod, [.int i, .int j] => if 0 < j ∧ j.natAbs.log2 < 9000 then some (.tup [.int (i / j), .int (i % j)]) else none
  | _, _ => none
def mtTxt : MT → Bool
  | .lindex | .dget => false
  | _ => true
def mtOn (o : MT) : D → Bool
  | .str _ => mtTxt o
  | _ => false
def strD (s : Str) : Option D := if s.length ≤ sizeD then some (.str (tl s)) else none
def mtD : MT → D → List D → Option D
  | .sjoin, .str a, [.lst l] => (strsOf l).bind fun ys => if (ys.map List.length).sum + ys.length * a.length ≤ 16777216 then strD (Txt.join (S a) (ys.map S)) else none
  | .sfind, .str a, [.str b, .int i] => some (.int (Txt.find3 (S a) (S b) i))
  | .sfind, .str a, [.str b] => some (.int (Txt.find (S a) (S b)))
  | .sindex, .str a, [.str b] => (Txt.index0 (S a) (S b)).map fun k => .int (k : Nat)
  | .sindex, .str a, [.str b, .int i] => (Txt.indexFrom (S a) (S b) i).map fun k => .int (k : Nat)
  | .sstarts, .str a, [.str b] => some (.bl (Txt.startswith (S a) (S b)))
  | .ssplit, .str a, [.str b] => if ((S b).length == 0) = false ∧ a.length + 2 ≤ sizeD ∧ (Txt.split (S a) (S b)).length ≤ sizeD ∧ (∀ x ∈ Txt.split (S a) (S b), x.length ≤ sizeD) then some (.lst ((Txt.split (S a) (S b)).map fun x => .str (tl x))) else none
  | .szfill, .str a, [.int i] => if PadOk i = true then strD (Txt.zfill (S a) i) else none
  | .supper, .str a, [] => if a.all (· < 128) = true ∧ a.length ≤ 5592405 then some (.str (a.map PyProof.Rows.up1)) else none
  | _, _, _ => none
def tyD : Ty → D → Bool
  | .int, .int _ => true
  | .int, .bl _ => true
  | .bool, .bl _ => true
  | .str, .str _ => true
  | .list, .lst _ => true
  | .tuple, .tup _ => true
  | .dict, .dic _ => true
  | _, _ => false
def clsD : D → Option String
  | .non => some "NoneType" | .bl _ => some "bool" | .int _ => some "int" | .str _ => some "str" | .tup _ => some "tuple" | .lst _ => some "list" | .dic _ => some "dict"
  | _ => none
def isxD (sub : Nat → Nat → Option Bool) (k : Nat) : D → Option D
  | .non => some (.bl false)
  | .exc c => (sub c k).map D.bl
  | _ => none
def anySub (sub : Nat → Nat → Option Bool) (c : Nat) : List Nat → Option Bool
  | [] => some false
  | k :: ks => match sub c k with
    | some b => (anySub sub c ks).map (b || ·)
    | none => none
def isxTD (sub : Nat → Nat → Option Bool) (ks : List Nat) : D → Option D
  | .non => some (.bl false)
  | .exc c => (anySub sub c ks).map D.bl
  | _ => none
def bindT (tg : Tgt) (d : D) (ρ : Env') : Option Env' := match tg with
  | .one i => some (ρ.set i (some d))
  | .many l => match d with
    | .tup ds => if ds.length = l.length then some ((l.zip ds).foldl (fun ρ p => ρ.set p.1 (some p.2)) ρ) else none
    | .lst ds => if ds.length = l.length then some ((l.zip ds).foldl (fun ρ p => ρ.set p.1 (some p.2)) ρ) else none
    | _ => none
def Tgt.slots : Tgt → List Nat
  | .one i => [i]
  | .many l => l
def wipeE (ρ : Env') : List Nat → Env'
  | [] => ρ
  | v :: vs => (wipeE ρ vs).set v none
def turns (f : D → Mu → Res (Option D)) : List D → Mu → Res (List D)
  | [], m => .ok [] m
  | x :: xs, m => (f x m).bind fun o m1 => (turns f xs m1).bind fun r m2 => .ok (match o with | some y => y :: r | none => r) m2
def turnsX (f : D → Mu → Res D) : List D → Mu → Res (List D)
  | [], m => .ok [] m
  | x :: xs, m => (f x m).bind fun y m1 => (turnsX f xs m1).bind fun r m2 => .ok (y :: r) m2
def rngL (lo : Int) (n : Nat) : List D := (List.range n).map fun (k : Nat) => D.int (lo + (k : Int))
def rngOk (i : Int) : Bool := decide (-(2 ^ 62) ≤ i) && decide (i < 2 ^ 62)
def iterD : D → Option (List D)
  | .lst l => some l
  | .tup l => some l
  | .str s => some (s.map fun c => .str [c])
  | _ => none
def rng1D : D → Option (List D)
  | .int n => if rngOk n && decide (n.toNat ≤ sizeD) then some (rngL 0 n.toNat) else none
  | _ => none
def rng2D : D → D → Option (List D)
  | .int a, .int b => if rngOk a && rngOk b && decide ((b - a).toNat ≤ sizeD) then some (rngL a (b - a).toNat) else none
  | _, _ => none
def rngS (lo c : Int) (n : Nat) : List D := (List.range n).map fun (k : Nat) => D.int (lo + (k : Int) * c)
def rng3D : D → D → D → Option (List D)
  | .int a, .int b, .int c => if c ≠ 0 ∧ c.natAbs < 1073741824 ∧ Builtin.Range.small a b c = true ∧ 0 ≤ Builtin.Range.rangeSize a b c ∧ (Builtin.Range.rangeSize a b c).toNat ≤ sizeD then some (rngS a c (Builtin.Range.rangeSize a b c).toNat) else none
  | _, _, _ => none
def zipD : D → D → Option (List D)
  | .lst a, .lst b => some (List.zipWith (fun x y => .tup [x, y]) a b)
  | .tup a, .tup b => some (List.zipWith (fun x y => .tup [x, y]) a b)
  | _, _ => none
def enumD : D → Option (List D)
  | .lst l => some (l.zipIdx.map fun p => .tup [.int (p.2 : Nat), p.1])
  | .tup l => some (l.zipIdx.map fun p => .tup [.int (p.2 : Nat), p.1])
  | _ => none
def tzD : D → D → Option D
  | .lst a, .lst b => some (.tup (List.zipWith (fun x y => .tup [x, y]) a b))
  | _, _ => none
def repD (y z : List Nat) : D → Option D
  | .str a => if a.length + (a.length + 1) * z.length ≤ 16777216 then some (.str (tl (Txt.replace (S a) (S y) (S z)))) else none
  | _ => none
def revD : D → Option (List D)
  | .tup l => some l.reverse
  | .lst l => some l.reverse
  | _ => none
def dr (m : Mu) : D → D
  | .obj n => match m[n]? with
    | some (.box _ d) => d
    | _ => .obj n
  | d => d
def drs (m : Mu) : List D → List D
  | [] => []
  | d :: ds => dr m d :: drs m ds
def mnum (c nm : Nat) : Nat := 1000000 + 1000 * c + nm
def putN (f : Nat) (d : D) : List (Nat × D) → List (Nat × D)
  | [] => [(f, d)]
  | (g, e) :: r => if g = f then (g, d) :: r else (g, e) :: putN f d r
def getN (f : Nat) : List (Nat × D) → Option D
  | [] => none
  | (g, e) :: r => if g = f then some e else getN f r
def putKD (q : Key) (v : D) (l : List (D × D)) : List (D × D) :=
  if (l.any fun p => decide (keyOf p.1 = some q)) = true then l.map (fun p => if keyOf p.1 = some q then (p.1, v) else p) else l ++ [(keyD q, v)]
def dropKD (q : Key) (l : List (D × D)) : List (D × D) := l.filter fun p => decide (keyOf p.1 ≠ some q)
def mrgKD (l : List (D × D)) : List (D × D) → List (D × D)
  | [] => l
  | (k, v) :: r => match keyOf k with
    | some q => mrgKD (putKD q v l) r
    | none => mrgKD l r
def lkD (x : D) (m : Mu) : Option (Nat × D) := match x with
  | .obj n => match m[n]? with
    | some (.box false d) => some (n, d)
    | _ => none
  | _ => none
def rdD : OpN → D → List D → Option D
  | .get, .dic l, [k] => (keyOf k).map fun q => (getKD q l).getD .non
  | .get, .dic l, [k, y] => (keyOf k).map fun q => (getKD q l).getD y
  | .lindex, .lst l, [y] => if D.flats l = true ∧ y.flat = true ∧ l.length ≤ 60000 ∧ y.dep ≤ 60 ∧ D.deps l ≤ 60 then (l.findIdx? fun z => PyData.eqv z.toPy y.toPy).map fun i => .int (i : Nat) else none
  | _, _, _ => none
def wrD : OpN → D → List D → Option (D × D)
  | .pop, .dic l, [k] => (keyOf k).bind fun q => (getKD q l).map fun v => (v, .dic (dropKD q l))
  | .pop, .dic l, [k, y] => (keyOf k).map fun q => match getKD q l with
    | some v => (v, .dic (dropKD q l))
    | none => (y, .dic l)
  | .lpop, .lst l, [] => (l[l.length - 1]?).map fun v => (v, .lst l.dropLast)
  | .app, .lst l, [y] => if l.length < sizeD then some (.non, .lst (l ++ [y])) else none
  | .ext, .lst l, [.lst l2] => if l.length + l2.length ≤ sizeD then some (.non, .lst (l ++ l2)) else none
  | .rev, .lst l, [] => some (.non, .lst l.reverse)
  | .clear, .dic _, [] => some (.non, .dic [])
  | .upd, .dic l, [.dic l2] => if l.length + l2.length ≤ sizeD then some (.non, .dic (mrgKD l l2)) else none
  | _, _, _ => none
def isRd : OpN → Bool
  | .get | .lindex | .count => true
  | _ => false
def okR (o : OpN) (x : D) (m : Mu) : Bool := match o with
  | .fld _ => true
  | .get | .pop | .upd | .sdef | .clear => match lkD x m with
    | some (_, .dic _) => true
    | _ => false
  | .lpop | .lindex | .app | .ext | .rev | .count => match lkD x m with
    | some (_, .lst _) => true
    | _ => false
def opD (o : OpN) (x : D) (ds : List D) (m : Mu) : Res D := match o with
  | .fld f => (match x, ds with
    | .obj n, [] => (match m[n]? with
      | some (.ins _ fs) => .opt (getN f fs) m
      | _ => .stuck)
    | _, _ => .stuck)
  | o => (match lkD x m with
    | some (n, d) => if isRd o = true then .opt (rdD o d ds) m else (match wrD o d ds with
      | some (r, d') => .ok r (m.set n (.box false d'))
      | none => .stuck)
    | none => .stuck)
def clsF (k : Nat) : List Nat := [[0, 1], [2, 3, 4, 5, 6], [7, 8], [9], [10, 11, 12], [13, 2, 14, 15], [16, 17, 18, 19]].getD (k - 20) [0, 1]
def nwD (o : NwN) (ds : List D) (m : Mu) : Res D := match o, ds with
  | .lst, ds => .ok (.obj m.length) (m ++ [.box false (.lst ds)])
  | .dic, [] => .ok (.obj m.length) (m ++ [.box false (.dic [])])
  | .dict, [x] => (match dr m x with
    | .dic l => .ok (.obj m.length) (m ++ [.box false (.dic l)])
    | .lst l => (match pairsOf l with
      | some ps => .ok (.obj m.length) (m ++ [.box false (.dic (kdD (mergeDK [] ps)))])
      | none => .stuck)
    | _ => .stuck)
  | .fre, [.lst l] => .ok (.obj m.length) (m ++ [.box false (.lst l)])
  | .fre, [.dic l] => .ok (.obj m.length) (m ++ [.box false (.dic l)])
  | _, _ => .stuck
def catD : D → D → Option D
  | .lst a, .lst b => if a.length + b.length ≤ sizeD then some (.lst (a ++ b)) else none
  | _, _ => none
def lrepD (ds : List D) : D → Option D
  | .int k => if -(2 ^ 63) ≤ k ∧ k < 2 ^ 63 ∧ ds.length * k.toNat ≤ sizeD then some (.lst (List.replicate k.toNat ds).flatten) else none
  | _ => none
def isBoxD : D → Bool
  | .lst _ | .dic _ => true
  | _ => false
def walkD : Kd → D → Option (List D)
  | .lst, .lst l => some l
  | .keys, .dic l => some (l.map (·.1))
  | .vals, .dic l => some (l.map (·.2))
  | .items, .dic l => some (l.map fun p => .tup [p.1, p.2])
  | _, _ => none
def subW (d k v : D) : Option D := match d with
  | .dic l => (keyOf k).bind fun q => if l.length < sizeD then some (.dic (putKD q v l)) else none
  | .lst l => (match k with
    | .int i => if 0 ≤ i ∧ i < l.length then some (.lst (l.set i.toNat v)) else none
    | _ => none)
  | _ => none
def subD (x k v : D) (m : Mu) : Res D := match lkD x m with
  | some (n, d) => (match subW d k v with
    | some d' => .ok .non (m.set n (.box false d'))
    | none => .stuck)
  | none => .stuck
def fldD (f : Nat) (x v : D) (m : Mu) : Res D := match x with
  | .obj n => (match m[n]? with
    | some (.ins c fs) => if fs.length < 100 ∧ (clsF c).contains f = true then .ok .non (m.set n (.ins c (putN f v fs))) else .stuck
    | _ => .stuck)
  | _ => .stuck
def faugD (f : Nat) (o : BOp) (x d : D) (m : Mu) : Res D := match x with
  | .obj n => (match m[n]? with
    | some (.ins c fs) => (match getN f fs with
      | some y => (match augD o y d with
        | some z => if fs.length < 100 then .ok .non (m.set n (.ins c (putN f z fs))) else .stuck
        | none => .stuck)
      | none => .stuck)
    | _ => .stuck)
  | _ => .stuck
def begS : D → Bool
  | .tup (.str _ :: _) => true
  | _ => false
def fstS : D → List Nat
  | .tup (.str s :: _) => s
  | _ => []
def leKD (a b : D) : Bool := decide (fstS a ≤ fstS b)
def sortKD : D → Option D
  | .lst l => if l.all begS = true then some (.lst (l.mergeSort leKD)) else none
  | .tup l => if l.all begS = true then some (.lst (l.mergeSort leKD)) else none
  | _ => none
def tabAt (m : Mu) : Bool := match (m[0]? : Option Ins) with
  | some .tab => true
  | _ => false
def srtIL (x : D) (m1 : Mu) : Res D := match x with
  | .dic l => .opt (sortID (.dic l)) m1
  | x => match lkD x m1 with
    | some (_, d) => .opt (sortID d) m1
    | none => .stuck
def madeD (n : Nat) : D → Mu → Res D
  | .non, m => .ok (.obj n) m
  | _, _ => .stuck
mutual
def evE (C : Cfg) : E → Env' → Mu → Res D
  | .var i, ρ, m => match ρ[i]? with
    | some (some d) => .ok d m
    | _ => .stuck
  | .lit d, _, m => .ok d m
  | .glob _ d, _, m => .ok d m
  | .bin o a b, ρ, m => (evE C a ρ m).bind fun x m1 => (evE C b ρ m1).bind fun y m2 => .opt (binD o x y) m2
  | .cmp o a b, ρ, m => (evE C a ρ m).bind fun x m1 => (evE C b ρ m1).bind fun y m2 => .opt ((cmpD o (dr m2 x) (dr m2 y)).map D.bl) m2
  | .isN neg a, ρ, m => (evE C a ρ m).bind fun x m1 => .ok (.bl (match x with | .non => !neg | _ => neg)) m1
  | .chain o1 o2 a b c, ρ, m => (evE C a ρ m).bind fun x m1 => (evE C b ρ m1).bind fun y m2 => match cmpD o1 (dr m2 x) (dr m2 y) with
    | some true => (evE C c ρ m2).bind fun z m3 => .opt ((cmpD o2 (dr m3 y) (dr m3 z)).map D.bl) m3
    | some false => .ok (.bl false) m2
    | none => .stuck
  | .and2 a b, ρ, m => (evE C a ρ m).bind fun x m1 => match truth x with
    | some true => evE C b ρ m1
    | some false => .ok x m1
    | none => .stuck
  | .or2 a b, ρ, m => (evE C a ρ m).bind fun x m1 => match truth x with
    | some true => .ok x m1
    | some false => evE C b ρ m1
    | none => .stuck
  | .not1 a, ρ, m => (evE C a ρ m).bind fun x m1 => .opt ((truth x).map fun b => .bl (!b)) m1
  | .ifx c a b, ρ, m => (evE C c ρ m).bind fun x m1 => match truth x with
    | some true => evE C a ρ m1
    | some false => evE C b ρ m1
    | none => .stuck
  | .idx a b, ρ, m => (evE C a ρ m).bind fun x m1 => (evE C b ρ m1).bind fun y m2 => .opt (idxD (dr m2 x) y) m2
  | .sl a lo hi, ρ, m => (evE C a ρ m).bind fun x m1 => (evP C lo ρ m1).bind fun y m2 => (evP C hi ρ m2).bind fun z m3 => .opt (slD (dr m3 x) y z) m3
  | .slS a lo st, ρ, m => (evE C a ρ m).bind fun x m1 => (evP C lo ρ m1).bind fun y m2 => .opt (slSD x y st) m2
  | .tup l, ρ, m => (evEs C l ρ m).bind fun ds m1 => .ok (.tup ds) m1
  | .lst l, ρ, m => (evEs C l ρ m).bind fun ds m1 => .ok (.lst ds) m1
  | .dic0, _, m => .ok (.dic []) m
  | .comp tg it c e, ρ, m => (evI C it ρ m).bind fun xs m1 => (turns (fun x m2 => match bindT tg x (wipeE ρ tg.slots) with
    | some ρ' => (evK C c ρ' m2).bind fun t m3 => if t = true then (evE C e ρ' m3).bind fun y m4 => .ok (some y) m4 else .ok none m3
    | none => .stuck) xs m1).calm.bind fun ys m5 => .ok (.lst ys) m5
  | .call k l, ρ, m => (evEs C l ρ m).bind fun ds m1 => C.call k ds m1
  | .bi b l, ρ, m => (evEs C l ρ m).bind fun ds m1 => .opt (biD b (drs m1 ds)) m1
  | .mth o r l, ρ, m => (evE C r ρ m).bind fun x m1 => if mtOn o x = true then (evEs C l ρ m1).bind fun ds m2 => .opt (mtD o x ds) m2 else .stuck
  | .isi ts e, ρ, m => (evE C e ρ m).bind fun x m1 => .opt ((clsD (dr m1 x)).map fun _ => .bl (ts.any fun t => tyD t (dr m1 x))) m1
  | .isx k e, ρ, m => (evE C e ρ m).bind fun x m1 => .opt (isxD C.sub k x) m1
  | .isxT ks e, ρ, m => (evE C e ρ m).bind fun x m1 => .opt (isxTD C.sub ks x) m1
  | .tzip a b, ρ, m => (evE C a ρ m).bind fun x m1 => (evE C b ρ m1).bind fun y m2 => .opt (tzD x y) m2
  | .rep y z e, ρ, m => (evE C e ρ m).bind fun x m1 => .opt (repD y z x) m1
  | .mop o r l, ρ, m => (evE C r ρ m).bind fun x m1 => if okR o x m1 = true then (evEs C l ρ m1).bind fun ds m2 => opD o x ds m2 else .stuck
  | .ext r a, ρ, m => (evE C r ρ m).bind fun x m1 => if okR .ext x m1 = true then (evE C a ρ m1).bind fun y m2 => opD .ext x [y] m2 else .stuck
  | .new o l, ρ, m => (evEs C l ρ m).bind fun ds m1 => nwD o ds m1
  | .meth c nm r l dv, ρ, m => (evE C r ρ m).bind fun x m1 => match x with
    | .obj n => (match m1[n]? with
      | some (.ins k _) => if k = c then (evEs C l ρ m1).bind fun ds m2 => C.call (mnum c nm) (.obj n :: (ds ++ dv)) m2 else .stuck
      | _ => .stuck)
    | _ => .stuck
  | .lrep l e, ρ, m => (evEs C l ρ m).bind fun ds m1 => (evE C e ρ m1).bind fun y m2 => .opt (lrepD ds y) m2
  | .cat a b, ρ, m => (evE C a ρ m).bind fun x m1 => (evE C b ρ m1).bind fun y m2 => .opt (catD x y) m2
  | .callD k l dv, ρ, m => (evEs C l ρ m).bind fun ds m1 => C.call k (ds ++ dv) m1
  | .make c l dv, ρ, m => (evEs C l ρ m).bind fun ds m1 => (C.call (mnum c 0) (.obj m1.length :: (ds ++ dv)) (m1 ++ [.ins c []])).bind fun x m2 => madeD m1.length x m2
  | .compL kd a tg c e, ρ, m => (evE C a ρ m).bind fun x m1 => match lkD x m1 with
    | some (n, d) => (match walkD kd d with
      | some xs => (turns (fun x m2 => match bindT tg x (wipeE ρ tg.slots) with
        | some ρ' => (evK C c ρ' m2).bind fun t m3 => if t = true then (evE C e ρ' m3).bind fun y m4 => .ok (some y) m4 else .ok none m3
        | none => .stuck) xs (m1.set n (.box true d))).calm.bind fun ys m5 => .ok (.lst ys) (m5.set n (.box false d))
      | none => .stuck)
    | none => .stuck
  | .sortK a, ρ, m => (evE C a ρ m).bind fun x m1 => if tabAt m1 = true then .opt (sortKD (dr m1 x)) m1 else .stuck
  | .sortI a, ρ, m => (evE C a ρ m).bind fun x m1 => srtIL x m1
def evEs (C : Cfg) : Es → Env' → Mu → Res (List D)
  | .nil, _, m => .ok [] m
  | .cons a l, ρ, m => (evE C a ρ m).bind fun x m1 => (evEs C l ρ m1).bind fun xs m2 => .ok (x :: xs) m2
def evK (C : Cfg) : OE → Env' → Mu → Res Bool
  | .no, _, m => .ok true m
  | .yes a, ρ, m => (evE C a ρ m).bind fun x m1 => .opt (truth x) m1
def evP (C : Cfg) : OE → Env' → Mu → Res (Option Int)
  | .no, _, m => .ok none m
  | .yes a, ρ, m => (evE C a ρ m).bind fun x m1 => match x with
    | .int i => .ok (some i) m1
    | _ => .stuck
def evI (C : Cfg) : I → Env' → Mu → Res (List D)
  | .e a, ρ, m => (evE C a ρ m).bind fun x m1 => .opt (iterD x) m1
  | .rng1 a, ρ, m => (evE C a ρ m).bind fun x m1 => .opt (rng1D x) m1
  | .rng2 a b, ρ, m => (evE C a ρ m).bind fun x m1 => (evE C b ρ m1).bind fun y m2 => .opt (rng2D x y) m2
  | .rng3 a b c, ρ, m => (evE C a ρ m).bind fun x m1 => (evE C b ρ m1).bind fun y m2 => (evE C c ρ m2).bind fun z m3 => .opt (rng3D x y z) m3
  | .rev a, ρ, m => (evE C a ρ m).bind fun x m1 => .opt (revD x) m1
  | .zip a b, ρ, m => (evE C a ρ m).bind fun x m1 => (evE C b ρ m1).bind fun y m2 => .opt (zipD x y) m2
  | .enum a, ρ, m => (evE C a ρ m).bind fun x m1 => .opt (enumD x) m1
  | _, _, _ => .stuck
end
def whileGo (c : Env' → Mu → Res Bool) (b : Env' → Mu → Fl) : Nat → Env' → Mu → Fl
  | 0, _, _ => .stuck
  | n + 1, ρ, m => match c ρ m with
    | .ok true m1 => (match b ρ m1 with
      | .nxt ρ2 m2 => whileGo c b n ρ2 m2
      | r => r)
    | .ok false m1 => .nxt ρ m1
    | .err k m1 => .err k ρ m1
    | .stuck => .stuck
def forGo (tg : Tgt) (b : Env' → Mu → Fl) : List D → Env' → Mu → Fl
  | [], ρ, m => .nxt ρ m
  | x :: xs, ρ, m => match bindT tg x ρ with
    | some ρ1 => (match b ρ1 m with
      | .nxt ρ2 m2 => forGo tg b xs ρ2 m2
      | r => r)
    | none => .stuck
def Res.fl {α : Type} (r : Res α) (ρ : Env') (f : α → Mu → Fl) : Fl := match r with
  | .ok a m => f a m
  | .err c m => .err c ρ m
  | .stuck => .stuck
@[simp] theorem Res.fl_ok {α : Type} (a : α) (m : Mu) (ρ : Env') (f : α → Mu → Fl) : (Res.ok a m).fl ρ f = f a m := rfl
def stepX (C : Cfg) (tg : Tgt) (e : E) (ρ : Env') (x : D) (m : Mu) : Res D := match bindT tg x (wipeE ρ tg.slots) with
  | some ρ' => evE C e ρ' m
  | none => .stuck
def unlM (n : Nat) (m : Mu) : Option Mu := match m[n]? with
  | some (.box true d) => some (m.set n (.box false d))
  | _ => none
def unlk (n : Nat) : Fl → Fl
  | .nxt ρ m => match unlM n m with
    | some m' => .nxt ρ m'
    | none => .stuck
  | .ret x m => match unlM n m with
    | some m' => .ret x m'
    | none => .stuck
  | .err c ρ m => .err c ρ m
  | .stuck => .stuck
def evT (C : Cfg) (e : E) (ρ : Env') (m : Mu) : Res Bool := (evE C e ρ m).bind fun x m1 => .opt (truth x) m1
mutual
def evS (C : Cfg) : St → Env' → Mu → Fl
  | .asg tg e, ρ, m => (evE C e ρ m).fl ρ fun x m1 => match bindT tg x ρ with
    | some ρ1 => .nxt ρ1 m1
    | none => .stuck
  | .own i e, ρ, m => (evE C e ρ m).fl ρ fun x m1 => if i < ρ.length then .nxt (ρ.set i (some x)) m1 else .stuck
  | .ownB i e, ρ, m => (evE C e ρ m).fl ρ fun x m1 => if i < ρ.length ∧ isBoxD x = true then .nxt (ρ.set i (some x)) m1 else .stuck
  | .aug i o e, ρ, m => match ρ[i]? with
    | some (some x) => (evE C e ρ m).fl ρ fun y m1 => match augD o x y with
      | some z => .nxt (ρ.set i (some z)) m1
      | none => .stuck
    | _ => .stuck
  | .setx i k e, ρ, m => match ρ[i]? with
    | some (some (.lst l)) => (evE C e ρ m).fl ρ fun x m1 => (evE C k ρ m1).fl ρ fun y m2 => match y with
      | .int j => if 0 ≤ j ∧ j < l.length then .nxt (ρ.set i (some (.lst (l.set j.toNat x)))) m2 else .stuck
      | _ => .stuck
    | _ => .stuck
  | .sfld f r e, ρ, m => (evE C e ρ m).fl ρ fun y m1 => (evE C r ρ m1).fl ρ fun x m2 => (fldD f x y m2).fl ρ fun _ m3 => .nxt ρ m3
  | .faug f o r d, ρ, m => (evE C r ρ m).fl ρ fun x m1 => (faugD f o x d m1).fl ρ fun _ m2 => .nxt ρ m2
  | .ssub r k e, ρ, m => (evE C e ρ m).fl ρ fun v m1 => (evE C r ρ m1).fl ρ fun x m2 => (evE C k ρ m2).fl ρ fun y m3 => (subD x y v m3).fl ρ fun _ m4 => .nxt ρ m4
  | .forsL kd a tg b, ρ, m => (evE C a ρ m).fl ρ fun x m1 => match lkD x m1 with
    | some (n, d) => (match walkD kd d with
      | some xs => unlk n (forGo tg (fun ρ m => evSs C b ρ m) xs ρ (m1.set n (.box true d)))
      | none => .stuck)
    | none => .stuck
  | .app i e, ρ, m => match ρ[i]? with
    | some (some (.lst l)) => (evE C e ρ m).fl ρ fun x m1 => if l.length < sizeD then .nxt (ρ.set i (some (.lst (l ++ [x])))) m1 else .stuck
    | _ => .stuck
  | .drop e, ρ, m => (evE C e ρ m).fl ρ fun _ m1 => .nxt ρ m1
  | .ret e, ρ, m => (evE C e ρ m).fl ρ fun x m1 => .ret x m1
  | .retN, _, m => .ret .non m
  | .ifs c a b, ρ, m => (evT C c ρ m).fl ρ fun t m1 => if t then evSs C a ρ m1 else evSs C b ρ m1
  | .whl c b, ρ, m => whileGo (fun ρ m => evT C c ρ m) (fun ρ m => evSs C b ρ m) 100000 ρ m
  | .fors tg it b, ρ, m => (evI C it ρ m).fl ρ fun xs m1 => forGo tg (fun ρ m => evSs C b ρ m) xs ρ m1
  | .rais c, ρ, m => .err c ρ m
  | .tri b k sl s, ρ, m => match evSs C b ρ m with
    | .err c ρ1 m1 => (match C.sub c k with
      | some true => (match evSs C s (match sl with | some i => ρ1.set i (some (.exc c)) | none => ρ1) m1 with
        | .nxt ρ2 m2 => .nxt (match sl with | some i => ρ2.set i none | none => ρ2) m2
        | r => r)
      | some false => .err c ρ1 m1
      | none => .stuck)
    | r => r
  | .asgX i tg it e, ρ, m => (evI C it ρ m).fl ρ fun xs m1 => (turnsX (stepX C tg e ρ) xs m1).fl ρ fun ys m2 => if i < ρ.length then .nxt (ρ.set i (some (.lst ys))) m2 else .stuck
  | .asgU l e, ρ, m => (evE C e ρ m).fl ρ fun x m1 => match bindT (.many l) (dr m1 x) ρ with
    | some ρ1 => .nxt ρ1 m1
    | none => .stuck
  | .pas, ρ, m => .nxt ρ m
  | .fgt l, ρ, m => .nxt (wipeE ρ l) m
  | .wall, _, _ => .stuck
def evSs (C : Cfg) : Sts → Env' → Mu → Fl
  | .nil, ρ, m => .nxt ρ m
  | .cons a l, ρ, m => match evS C a ρ m with
    | .nxt ρ1 m1 => evSs C l ρ1 m1
    | r => r
end
def Fl.res : Fl → Res D
  | .nxt _ m => .ok .non m
  | .ret d m => .ok d m
  | .err c _ m => .err c m
  | .stuck => .stuck
structure Fn where
  par : Nat
  slots : Nat
  body : Sts
def callF (tbl : Nat → Option Fn) (sub : Nat → Nat → Option Bool) : Nat → Nat → List D → Mu → Res D
  | 0, _, _, _ => .stuck
  | n + 1, k, ds, m => match tbl k with
    | some f => if ds.length = f.par then (evSs ⟨callF tbl sub n, sub⟩ f.body (ds.map some ++ List.replicate (f.slots - f.par) none) m).res else .stuck
    | none => .stuck
section
variable {α : Type} {le : α → α → Bool}
theorem putIn_perm (x : α) : ∀ l : List α, (putIn le x l).Perm (x :: l)
  | [] => List.Perm.refl _
  | y :: r => by
    unfold putIn
    split
    · exact List.Perm.refl _
    · exact ((putIn_perm x r).cons y).trans (List.Perm.swap x y r)
theorem sortL_perm : ∀ l : List α, (sortL le l).Perm l
  | [] => List.Perm.refl _
  | x :: r => (putIn_perm x _).trans ((sortL_perm r).cons x)
theorem putIn_pw (tot : ∀ a b, le a b = false → le b a = true) (tr : ∀ a b c, le a b = true → le b c = true → le a c = true) (x : α) : ∀ l : List α, l.Pairwise (fun a b => le a b = true) → (putIn le x l).Pairwise (fun a b => le a b = true)
  | [], _ => List.pairwise_singleton _ _
  | y :: r, h => by
    rw [List.pairwise_cons] at h
    unfold putIn
    split
    · rename_i hxy
      refine List.pairwise_cons.mpr ⟨fun z hz => ?_, List.pairwise_cons.mpr h⟩
      rcases List.mem_cons.mp hz with hz | hz
      · rw [hz]; exact hxy
      · exact tr _ _ _ hxy (h.1 z hz)
    · rename_i hxy
      refine List.pairwise_cons.mpr ⟨fun z hz => ?_, putIn_pw tot tr x r h.2⟩
      rcases List.mem_cons.mp ((putIn_perm x r).mem_iff.mp hz) with hz | hz
      · rw [hz]; exact tot _ _ (by simpa using hxy)
      · exact h.1 z hz
theorem sortL_pw (tot : ∀ a b, le a b = false → le b a = true) (tr : ∀ a b c, le a b = true → le b c = true → le a c = true) : ∀ l : List α, (sortL le l).Pairwise (fun a b => le a b = true)
  | [] => .nil
  | x :: r => putIn_pw tot tr x _ (sortL_pw tot tr r)
theorem sortL_uniq (tot : ∀ a b, le a b = false → le b a = true) (tr : ∀ a b c, le a b = true → le b c = true → le a c = true) (anti : ∀ a b, le a b = true → le b a = true → a = b) {l ys : List α} (p : ys.Perm l) (h : ys.Pairwise (fun a b => le a b = true)) : ys = sortL le l :=
  List.Perm.eq_of_pairwise (fun a b _ _ h1 h2 => anti a b h1 h2) h (sortL_pw tot tr l) (p.trans (sortL_perm l).symm)
end
theorem leS_iff (a b : List Nat) : leS a b = true ↔ a ≤ b := by
  unfold leS ltS
  rw [Bool.not_eq_true', decide_eq_false_iff_not]
  exact List.not_lt
theorem leS_tot (a b : List Nat) (h : leS a b = false) : leS b a = true := by
  rw [leS_iff]
  rcases List.le_total a b with q | q
  · rw [(leS_iff a b).mpr q] at h; cases h
  · exact q
theorem leS_tr (a b c : List Nat) (h : leS a b = true) (h2 : leS b c = true) : leS a c = true := by
  rw [leS_iff] at *
  exact List.le_trans h h2
theorem leS_anti (a b : List Nat) (h : leS a b = true) (h2 : leS b a = true) : a = b := by
  rw [leS_iff] at *
  exact List.le_antisymm h h2
def sbOf (R E : List Nat) (c k : Nat) : Option Bool := if (R.contains c && E.contains k) = true then some (c == k || k == 0 || k == 11) else none
theorem sbOf_some {R E : List Nat} {c k : Nat} {b : Bool} (h : sbOf R E c k = some b) : c ∈ R ∧ k ∈ E ∧ (c == k || k == 0 || k == 11) = b := by
  unfold sbOf at h
  split at h
  · rename_i q
    rw [Bool.and_eq_true, List.contains_iff_mem, List.contains_iff_mem] at q
    cases h
    exact ⟨q.1, q.2, rfl⟩
  · cases h
theorem length_putDK (l : List (Key × D)) (k : Key) (v : D) : (putDK l k v).length ≤ l.length + 1 := by
  unfold putDK
  split
  · rw [List.length_map]; exact Nat.le_succ _
  · rw [List.length_append]; exact Nat.le_refl _
theorem length_mergeDK : ∀ (more l : List (Key × D)), (mergeDK l more).length ≤ l.length + more.length
  | [], l => Nat.le_refl _
  | p :: r, l => by
    have h1 := length_mergeDK r (putDK l p.1 p.2)
    have h2 := length_putDK l p.1 p.2
    have e : mergeDK l (p :: r) = mergeDK (putDK l p.1 p.2) r := rfl
    rw [e, List.length_cons]
    omega
theorem pairsOf_len : ∀ {l : List D} {ps : List (Key × D)}, pairsOf l = some ps → ps.length = l.length
  | [], _, h => by cases h; rfl
  | d :: l, ps, h => by
    unfold pairsOf at h
    split at h
    · rename_i e; cases e
    · rename_i k v r e
      cases e
      split at h
      · obtain ⟨ps', h', e⟩ := Option.map_eq_some_iff.mp h
        subst e
        rw [List.length_cons, List.length_cons, pairsOf_len h']
      · cases h
    · cases h
end MP
set_option maxRecDepth 100000
set_option maxHeartbeats 4000000
set_option autoImplicit false
namespace MP
open PySem L2
abbrev Lay := List Addr
def foot (L : Lay) (a : Addr) : Prop := a ∈ L
def AL (L : Lay) : Nat → Option Addr := fun n => L[n]?
def Bd (G : Addr → Prop) (L : Lay) (a : Addr) : Prop := G a ∨ foot L a
structure Stp (L L' : Lay) (H H' : Hp) : Prop where
  keep : ∀ a o, ¬ foot L a → H a = some o → H' a = some o
  new : ∀ a, foot L' a → foot L a ∨ H a = none
  stay : ∀ a o, H a = some o → ∃ u, H' a = some u
  al : ∀ n x, AL L n = some x → AL L' n = some x
  frz : ∀ a o u, H a = some (.frz o u) → H' a = some (.frz o u)
theorem Stp.refl (L : Lay) (H : Hp) : Stp L L H H := ⟨fun _ _ _ h => h, fun _ h => .inl h, fun _ o h => ⟨o, h⟩, fun _ _ h => h, fun _ _ _ h => h⟩
theorem Stp.trans {L L1 L2 : Lay} {H H1 H2 : Hp} (a : Stp L L1 H H1) (b : Stp L1 L2 H1 H2) : Stp L L2 H H2 where
  keep := fun x o n h => by
    refine b.keep x o (fun q => ?_) (a.keep x o n h)
    rcases a.new x q with q | q
    · exact n q
    · rw [h] at q; cases q
  new := fun x q => by
    rcases b.new x q with q | q
    · exact a.new x q
    · by_cases n : foot L x
      · exact .inl n
      · right
        cases h : H x with
        | none => rfl
        | some o => rw [a.keep x o n h] at q; cases q
  stay := fun x o h => let ⟨u, hu⟩ := a.stay x o h; b.stay x u hu
  al := fun n x h => b.al n x (a.al n x h)
  frz := fun x o u h => b.frz x o u (a.frz x o u h)
theorem Stp.same {L : Lay} {H H' : Hp} (s : Same H H') : Stp L L H H' := ⟨fun a o _ h => s a o h, fun _ h => .inl h, fun a o h => ⟨o, s a o h⟩, fun _ _ h => h, fun a o u h => s a _ h⟩
theorem Stp.upd {L : Lay} {H : Hp} {p : Addr} {o : HO} (h : H p = none) : Stp L L H (upd H p o) := Stp.same fun a u e => by rw [upd_ne (ne_of_none e h)]; exact e
theorem Stp.hid {G : Addr → Prop} {L L' : Lay} {H H' : Hp} (s : Stp L L' H H') : Same (hide (Bd G L) H) (hide (Bd G L') H') := hide_same fun a o n h => by
  have nf : ¬ foot L a := fun q => n (.inr q)
  refine ⟨fun q => ?_, s.keep a o nf h⟩
  rcases q with q | q
  · exact n (.inl q)
  · rcases s.new a q with q | q
    · exact nf q
    · rw [h] at q; cases q
inductive CR (K : PySem.W.Frag) (A : Nat → Option Addr) (Hk H : Hp) (a : Addr) : D → Prop
  | lst {vs : List V} {ds : List D} : H a = some (.lst vs) → Reps K A Hk vs ds → ds.length ≤ sizeLine → CR K A Hk H a (.lst ds)
  | dic {kvs : List (Key × V)} {ds : List (D × D)} : H a = some (.dK kvs) → Repk K A Hk kvs ds → ds.length ≤ sizeLine → CR K A Hk H a (.dic ds)
theorem CR.mono {K : PySem.W.Frag} {A A' : Nat → Option Addr} {Hk Hk' H H' : Hp} {a : Addr} {d : D} (s : Same Hk Hk') (al : ∀ n x, A n = some x → A' n = some x) (h : ∀ o, H a = some o → H' a = some o) (c : CR K A Hk H a d) : CR K A' Hk' H' a d := by
  cases c with
  | lst q r z => exact .lst (h _ q) (r.mono s al) z
  | dic q r z => exact .dic (h _ q) (r.mono s al) z
theorem nodup_inj {α : Type} {l : List α} (h : l.Nodup) {i j : Nat} (hi : i < l.length) (hj : j < l.length) (e : l[i] = l[j]) : i = j := by
  have p := List.pairwise_iff_getElem.mp h
  rcases Nat.lt_trichotomy i j with q | q | q
  · exact absurd e (p i j hi hj q)
  · exact q
  · exact absurd e.symm (p j i hj hi q)
def clNames : List Str := ["Pages", "House", "Cursor", "Disk", "Keeper", "Look", "Desk"]
def clName (k : Nat) : Str := clNames.getD (k - 20) "Pages"
def fNames : List Str := ["nodes", "told_many", "room", "sheets", "root", "number", "holds", "house", "code", "standing", "mine", "width", "rose", "pages", "seen", "deep", "keeper", "disk", "cursor", "halt"]
def fName (f : Nat) : Str := fNames.getD f ""
def mNames1 : List Str := ["__init__", "need_page", "put", "node_at", "lay", "free", "used", "looks", "sweep", "go_to", "the_room", "drop", "now", "hold", "is_held", "let_go", "held", "root_of", "ask", "count_all", "rank", "pick", "span", "used_pages", "store"]
def mNames2 : List Str := ["stand_at", "on", "back", "move_to", "where", "write", "write_some", "text_at", "places", "begin", "kept", "ahead_of", "strokes_of", "come_to", "size_word", "leaf_word", "branch_word", "wrong_at", "wrong_under", "say", "done", "let", "gone", "answered"]
def mNames : List Str := mNames1 ++ mNames2
def mName (k : Nat) : Str := mNames.getD k "__init__"
theorem fm_ne : (fNames.all fun f => mNames.all fun m => !decide (f = m)) = true := by decide +kernel
theorem ff_nd : fNames.Nodup := by decide +kernel
def ClsA (K : PySem.W.Frag) (c : Nat) (C : Addr) : Prop := PySem.W.nsIn K mainGlobals (clName c) = some (some (.ref C))
theorem ClsA.eq {K : PySem.W.Frag} {c : Nat} {C C' : Addr} (a : ClsA K c C) (b : ClsA K c C') : C = C' := by
  have := a.symm.trans b
  cases this
  rfl
inductive RepF (K : PySem.W.Frag) (A : Nat → Option Addr) (H : Hp) : List (Str × V) → List (Nat × D) → Prop
  | nil : RepF K A H [] []
  | cons {f : Nat} {v : V} {d : D} {vs : List (Str × V)} {ds : List (Nat × D)} : f < fNames.length → Rep K A H v d → RepF K A H vs ds → RepF K A H ((fName f, v) :: vs) ((f, d) :: ds)
inductive CU (K : PySem.W.Frag) (A : Nat → Option Addr) (Hk : Hp) : HO → D → Prop
  | lst {vs : List V} {ds : List D} : Reps K A Hk vs ds → ds.length ≤ sizeLine → CU K A Hk (.lst vs) (.lst ds)
  | dic {kvs : List (Key × V)} {ds : List (D × D)} : Repk K A Hk kvs ds → ds.length ≤ sizeLine → CU K A Hk (.dK kvs) (.dic ds)
theorem CU.cr {K : PySem.W.Frag} {A : Nat → Option Addr} {Hk H : Hp} {a : Addr} {u : HO} {d : D} (c : CU K A Hk u d) (h : H a = some u) : CR K A Hk H a d := by
  cases c with
  | lst r z => exact .lst h r z
  | dic r z => exact .dic h r z
theorem CR.cu {K : PySem.W.Frag} {A : Nat → Option Addr} {Hk H : Hp} {a : Addr} {d : D} (c : CR K A Hk H a d) : ∃ u, H a = some u ∧ CU K A Hk u d := by
  cases c with
  | lst h r z => exact ⟨_, h, .lst r z⟩
  | dic h r z => exact ⟨_, h, .dic r z⟩
structure TabZ (h : Hp) (q : Str) (ps : Array Value) : Prop where
  ok : TriplesOk ps.toList
  cd : ∀ (p : Pos) (v : Value), codeAmong p ps.toList = some v → ∃ c, v = .ref c ∧ h c = some (LamX.CodeO c q)
theorem TabZ.mono {h h' : Hp} {q : Str} {ps : Array Value} (z : TabZ h q ps) (s : Same h h') : TabZ h' q ps := ⟨z.ok, fun p v e => let ⟨c, h1, h2⟩ := z.cd p v e; ⟨c, h1, s _ _ h2⟩⟩
def lamQ : Str := "leaf_of.<locals>.<lambda>"
def TabA (K : PySem.W.Frag) (P : Addr) : Prop := ∃ c, PySem.W.tabIn K "leaf_of" = some (c, P)
theorem TabA.eq {K : PySem.W.Frag} {P P' : Addr} (a : TabA K P) (b : TabA K P') : P = P' := by
  obtain ⟨c, h⟩ := a
  obtain ⟨c', h'⟩ := b
  rw [h] at h'
  cases h'
  rfl
inductive IOk (K : PySem.W.Frag) (A : Nat → Option Addr) (Hk H : Hp) (a : Addr) : Ins → Prop
  | ins {c : Nat} {C dx : Addr} {vs : List (Str × V)} {fs : List (Nat × D)} : ClsA K c C → H a = some (.ins C dx vs) → RepF K A Hk vs fs → (fs.all fun p => (clsF c).contains p.1) = true → IOk K A Hk H a (.ins c fs)
  | box {d : D} {u : HO} : H a = some u → CU K A Hk u d → IOk K A Hk H a (.box false d)
  | lock {d : D} {o : Obj} {u : HO} : H a = some (.frz o u) → CU K A Hk u d → IOk K A Hk H a (.box true d)
  | tab {ps : Array Value} : TabA K a → H a = some (.tbl ps) → TabZ Hk lamQ ps → IOk K A Hk H a .tab
section
variable {K : PySem.W.Frag} {A A' : Nat → Option Addr} {Hk Hk' H H' : Hp} {a : Addr}
theorem RepF.mono (s : Same Hk Hk') (al : ∀ n x, A n = some x → A' n = some x) : ∀ {vs : List (Str × V)} {fs : List (Nat × D)}, RepF K A Hk vs fs → RepF K A' Hk' vs fs
  | _, _, .nil => .nil
  | _, _, .cons h r t => .cons h (r.mono s al) (RepF.mono s al t)
theorem CU.mono {u : HO} {d : D} (s : Same Hk Hk') (al : ∀ n x, A n = some x → A' n = some x) (c : CU K A Hk u d) : CU K A' Hk' u d := by
  cases c with
  | lst r z => exact .lst (r.mono s al) z
  | dic r z => exact .dic (r.mono s al) z
theorem IOk.mono {i : Ins} (s : Same Hk Hk') (al : ∀ n x, A n = some x → A' n = some x) (h : ∀ o, H a = some o → H' a = some o) (c : IOk K A Hk H a i) : IOk K A' Hk' H' a i := by
  cases c with
  | ins q e r w => exact .ins q (h _ e) (r.mono s al) w
  | box e r => exact .box (h _ e) (r.mono s al)
  | lock e r => exact .lock (h _ e) (r.mono s al)
  | tab t e z => exact .tab t (h _ e) (z.mono s)
theorem IOk.some {i : Ins} (c : IOk K A Hk H a i) : ∃ o, H a = some o := by
  cases c with
  | ins q e r w => exact ⟨_, e⟩
  | box e r => exact ⟨_, e⟩
  | lock e r => exact ⟨_, e⟩
  | tab t e z => exact ⟨_, e⟩
end
structure SOk (K : PySem.W.Frag) (G : Addr → Prop) (L : Lay) (m : Mu) (H : Hp) : Prop where
  len : L.length = m.length
  nd : L.Nodup
  dis : ∀ a, foot L a → ¬ G a
  ok : ∀ (n : Nat) (a : Addr) (i : Ins), L[n]? = some a → m[n]? = some i → IOk K (AL L) (hide (Bd G L) H) H a i
section
variable {K : PySem.W.Frag} {G G' : Addr → Prop} {L : Lay} {m : Mu} {H H' : Hp}
theorem SOk.at (h : SOk K G L m H) {n : Nat} {i : Ins} (e : m[n]? = some i) : ∃ a, L[n]? = some a ∧ IOk K (AL L) (hide (Bd G L) H) H a i := by
  have hn : n < m.length := (List.getElem?_eq_some_iff.mp e).1
  have hl : n < L.length := by rw [h.len]; exact hn
  exact ⟨L[n], List.getElem?_eq_getElem hl, h.ok n _ i (List.getElem?_eq_getElem hl) e⟩
theorem SOk.foot (h : SOk K G L m H) : ∀ a, foot L a → ∃ o, H a = some o := fun a ha => by
  obtain ⟨n, hn, e⟩ := List.mem_iff_getElem.mp ha
  have hm : n < m.length := by rw [← h.len]; exact hn
  exact (h.ok n a _ (by rw [List.getElem?_eq_getElem hn, e]) (List.getElem?_eq_getElem hm)).some
theorem SOk.same (h : SOk K G L m H) (s : Same H H') : SOk K G L m H' :=
  ⟨h.len, h.nd, h.dis, fun n a i e1 e2 => (h.ok n a i e1 e2).mono (Stp.same s).hid (fun _ _ h => h) fun o => s a o⟩
theorem SOk.upd {p : Addr} {o : HO} (h : SOk K G L m H) (n : H p = none) : SOk K G L m (L2.upd H p o) := h.same fun a u e => by rw [upd_ne (ne_of_none e n)]; exact e
theorem SOk.own (h : SOk K G L m H) (k : ∀ a o, ¬ G a → H a = some o → ¬ G' a ∧ H' a = some o) : SOk K G' L m H' := by
  have d : ∀ a, MP.foot L a → ¬ G' a ∧ ∀ o, H a = some o → H' a = some o := fun a fa => by
    obtain ⟨o, e⟩ := h.foot a fa
    exact ⟨(k a o (h.dis a fa) e).1, fun o e => (k a o (h.dis a fa) e).2⟩
  refine ⟨h.len, h.nd, fun a fa => (d a fa).1, fun n a i e1 e2 => (h.ok n a i e1 e2).mono (hide_same fun x o nb e => ?_) (fun _ _ h => h) (d a (List.mem_of_getElem? e1)).2⟩
  obtain ⟨q1, q2⟩ := k x o (fun g => nb (.inl g)) e
  exact ⟨fun b => b.elim q1 fun f => nb (.inr f), q2⟩
theorem SOk.new {p : Addr} {o : HO} {i : Ins} (h : SOk K G L m H) (n : H p = none) (ng : ¬ G p) (c : IOk K (AL (L ++ [p])) (hide (Bd G (L ++ [p])) (L2.upd H p o)) (L2.upd H p o) p i) : SOk K G (L ++ [p]) (m ++ [i]) (L2.upd H p o) ∧ Stp L (L ++ [p]) H (L2.upd H p o) := by
  have np : ¬ MP.foot L p := fun q => by
    obtain ⟨u, e⟩ := h.foot p q
    rw [n] at e; cases e
  have st : Stp L (L ++ [p]) H (L2.upd H p o) := by
    refine ⟨fun a u _ e => by rw [upd_ne (ne_of_none e n)]; exact e, fun a fa => ?_, fun a u e => ⟨u, by rw [upd_ne (ne_of_none e n)]; exact e⟩, fun j x e => ?_, fun a q u e => by rw [upd_ne (ne_of_none e n)]; exact e⟩
    · rcases List.mem_append.mp fa with q | q
      · exact .inl q
      · rw [List.mem_singleton.mp q]; exact .inr n
    · show (L ++ [p])[j]? = some x
      rw [List.getElem?_append_left (List.getElem?_eq_some_iff.mp e).1]
      exact e
  refine ⟨⟨by rw [List.length_append, List.length_append, h.len]; rfl, ?_, fun a fa => ?_, fun j a k e1 e2 => ?_⟩, st⟩
  · rw [List.nodup_append]
    exact ⟨h.nd, List.pairwise_singleton _ p, fun a ha b hb e => np (by rw [← List.mem_singleton.mp hb, ← e]; exact ha)⟩
  · rcases List.mem_append.mp fa with q | q
    · exact h.dis a q
    · rw [List.mem_singleton.mp q]; exact ng
  · by_cases hj : j < L.length
    · rw [List.getElem?_append_left hj] at e1
      rw [List.getElem?_append_left (by rw [← h.len]; exact hj)] at e2
      exact (h.ok j a k e1 e2).mono st.hid st.al fun u e => by rw [upd_ne (ne_of_none e n)]; exact e
    · rw [List.getElem?_append_right (Nat.le_of_not_lt hj)] at e1
      rw [List.getElem?_append_right (by rw [← h.len]; exact Nat.le_of_not_lt hj), ← h.len] at e2
      cases q : j - L.length with
      | zero =>
        rw [q] at e1 e2
        cases e1
        cases e2
        exact c
      | succ w => rw [q] at e1; cases e1
theorem SOk.set {a : Addr} {n : Nat} {o u : HO} {i : Ins} (h : SOk K G L m H) (e : L[n]? = some a) (hu : H a = some u) (nf : ∀ x y, u ≠ .frz x y) (c : IOk K (AL L) (hide (Bd G L) H) (L2.upd H a o) a i) : SOk K G L (m.set n i) (L2.upd H a o) ∧ Stp L L H (L2.upd H a o) := by
  have fa : MP.foot L a := List.mem_of_getElem? e
  have st : Stp L L H (L2.upd H a o) := by
    refine ⟨fun x v nx ex => ?_, fun _ h => .inl h, fun x v ex => ?_, fun _ _ h => h, fun x y v ex => ?_⟩
    · rw [upd_ne (fun q => nx (by rw [q]; exact fa))]; exact ex
    · by_cases q : x = a
      · subst q; exact ⟨o, upd_same⟩
      · exact ⟨v, by rw [upd_ne q]; exact ex⟩
    · rw [upd_ne (fun q => by rw [q, hu] at ex; cases ex; exact nf _ _ rfl)]; exact ex
  refine ⟨⟨by rw [List.length_set]; exact h.len, h.nd, h.dis, fun j b k e1 e2 => ?_⟩, st⟩
  by_cases hj : n = j
  · subst hj
    rw [e] at e1
    cases e1
    rw [List.getElem?_set_self (by rw [← h.len]; exact (List.getElem?_eq_some_iff.mp e).1)] at e2
    cases e2
    exact c.mono st.hid (fun _ _ h => h) fun _ h => h
  · rw [List.getElem?_set_ne hj] at e2
    have nb : b ≠ a := fun q => by
      subst q
      have hn := (List.getElem?_eq_some_iff.mp e)
      have hk := (List.getElem?_eq_some_iff.mp e1)
      exact hj (nodup_inj h.nd hn.1 hk.1 (hn.2.trans hk.2.symm))
    exact (h.ok j b k e1 e2).mono st.hid (fun _ _ h => h) fun u e => by rw [upd_ne nb]; exact e
end
def RB (K : PySem.W.Frag) (b : Bool) (G : Addr → Prop) (L : Lay) (H : Hp) (v : V) (d : D) : Prop :=
  Rep K (AL L) (hide (Bd G L) H) v d ∨ (b = true ∧ ∃ a, v = .ref a ∧ G a ∧ CR K (AL L) (hide (Bd G L) H) H a d)
structure ESt (K : PySem.W.Frag) (own : Nat → Bool) (G : Addr → Prop) (L : Lay) (m : Mu) (ρ : Env') (σ : L2.St) (H : Hp) : Prop where
  gok : ∀ a, G a → (∃ o, H a = some o) ∧ ¬ foot L a
  sok : SOk K G L m H
  len : ρ.length = σ.length
  slot : ∀ (i : Nat) (d : D), ρ[i]? = some (some d) → ∃ v, σ[i]? = some (some v) ∧ (own i = false → Rep K (AL L) (hide (Bd G L) H) v d) ∧ (own i = true → ∃ a, v = .ref a ∧ G a ∧ CR K (AL L) (hide (Bd G L) H) H a d)
section
variable {K : PySem.W.Frag} {own : Nat → Bool} {G : Addr → Prop} {L L' : Lay} {m m' : Mu} {ρ : Env'} {σ : L2.St} {H H' : Hp} {v : V} {d : D} {b : Bool}
theorem ESt.keepG (E : ESt K own G L m ρ σ H) (s : Stp L L' H H') {a : Addr} (g : G a) : ∀ o, H a = some o → H' a = some o := fun o h => s.keep a o (E.gok a g).2 h
theorem ESt.step (E : ESt K own G L m ρ σ H) (s : Stp L L' H H') (k : SOk K G L' m' H') : ESt K own G L' m' ρ σ H' where
  gok := fun a g => by
    obtain ⟨⟨o, h⟩, n⟩ := E.gok a g
    refine ⟨⟨o, s.keep a o n h⟩, fun q => ?_⟩
    rcases s.new a q with q | q
    · exact n q
    · rw [h] at q; cases q
  sok := k
  len := E.len
  slot := fun i d e => by
    obtain ⟨v, h1, h2, h3⟩ := E.slot i d e
    refine ⟨v, h1, fun q => (h2 q).mono s.hid s.al, fun q => ?_⟩
    obtain ⟨a, e, g, c⟩ := h3 q
    exact ⟨a, e, g, c.mono s.hid s.al (E.keepG s g)⟩
theorem RB.step (r : RB K b G L H v d) (E : ESt K own G L m ρ σ H) (s : Stp L L' H H') : RB K b G L' H' v d := by
  rcases r with r | ⟨hb, a, e, g, c⟩
  · exact .inl (r.mono s.hid s.al)
  · exact .inr ⟨hb, a, e, g, c.mono s.hid s.al (E.keepG s g)⟩
theorem RB.weak (r : RB K b G L H v d) : RB K true G L H v d := r.elim .inl fun ⟨_, q⟩ => .inr ⟨rfl, q⟩
theorem RB.rep (r : RB K false G L H v d) : Rep K (AL L) (hide (Bd G L) H) v d := r.elim id fun ⟨q, _⟩ => by cases q
theorem RB.lst {ds : List D} (r : RB K b G L H v (.lst ds)) : ∃ a vs, v = .ref a ∧ SqL K H a vs ∧ Reps K (AL L) (hide (Bd G L) H) vs ds ∧ ds.length ≤ sizeLine := by
  rcases r with r | ⟨hb, a, e, g, c⟩
  · cases r with
    | lst h r z => exact ⟨_, _, rfl, Same.sqL hide_sub h, r, z⟩
  · cases c with
    | lst h r z => exact ⟨a, _, e, .inl (.inl h), r, z⟩
theorem RB.tup {ds : List D} (r : RB K b G L H v (.tup ds)) : ∃ a vs, v = .ref a ∧ SqT K H a vs ∧ Reps K (AL L) (hide (Bd G L) H) vs ds ∧ ds.length ≤ sizeLine := by
  rcases r with r | ⟨hb, a, e, g, c⟩
  · cases r with
    | tup h r z => exact ⟨_, _, rfl, Same.sqT hide_sub h, r, z⟩
  · cases c
theorem RB.dic {ds : List (D × D)} (r : RB K b G L H v (.dic ds)) : ∃ a kvs, v = .ref a ∧ Rd H a (.dK kvs) ∧ Repk K (AL L) (hide (Bd G L) H) kvs ds ∧ ds.length ≤ sizeLine := by
  rcases r with r | ⟨hb, a, e, g, c⟩
  · cases r with
    | dic h r z => exact ⟨_, _, rfl, Same.rd hide_sub h, r, z⟩
  · cases c with
    | dic h r z => exact ⟨a, _, e, .inl h, r, z⟩
theorem RB.int {i : Int} (r : RB K b G L H v (.int i)) : v = .int i := by
  rcases r with r | ⟨hb, a, e, g, c⟩
  · cases r; rfl
  · cases c
theorem RB.bl {i : Bool} (r : RB K b G L H v (.bl i)) : v = .bl i := by
  rcases r with r | ⟨hb, a, e, g, c⟩
  · cases r; rfl
  · cases c
theorem RB.non (r : RB K b G L H v .non) : v = .non := by
  rcases r with r | ⟨hb, a, e, g, c⟩
  · cases r; rfl
  · cases c
theorem RB.str {s : List Nat} (r : RB K b G L H v (.str s)) : v = .str (S s) ∧ s.length ≤ sizeLine := by
  rcases r with r | ⟨hb, a, e, g, c⟩
  · cases r with
    | str _ z => exact ⟨rfl, z⟩
  · cases c
theorem RB.dp (r : RB K b G L H v d) (f : d.flat = true) : Dp K H v d.toPy := by
  rcases r with r | ⟨hb, a, e, g, c⟩
  · exact Rep.dp hide_sub f r
  · cases c with
    | lst h r z =>
      subst e
      exact .lst (.inl (.inl h)) (Rep.dp.gos hide_sub r (by simpa [D.flat] using f))
    | dic h r z => simp [D.flat] at f
theorem Rep.new {o : HO} {p : Addr} (h : H p = none) (ng : ¬ Bd G L p) : hide (Bd G L) (L2.upd H p o) p = some o := hide_of ng upd_same
end
def RD (K : PySem.W.Frag) (G : Addr → Prop) (L : Lay) (H : Hp) (v : V) (d : D) : Prop :=
  Rep K (AL L) (hide (Bd G L) H) v d ∨ ∃ a u, v = .ref a ∧ Rd H a u ∧ CU K (AL L) (hide (Bd G L) H) u d
section
variable {K : PySem.W.Frag} {G : Addr → Prop} {L : Lay} {m : Mu} {H : Hp} {v : V} {d : D} {b : Bool}
theorem RB.rd (r : RB K b G L H v d) : RD K G L H v d := r.imp id fun ⟨_, a, e, _, c⟩ => let ⟨u, h, q⟩ := c.cu; ⟨a, u, e, .inl h, q⟩
theorem RB.drd (r : RB K b G L H v d) (s : SOk K G L m H) : RD K G L H v (dr m d) := by
  cases d with
  | obj n =>
    have r' : Rep K (AL L) (hide (Bd G L) H) v (.obj n) := r.elim id fun ⟨_, a, e, g, c⟩ => by cases c
    unfold dr
    dsimp only
    cases e : m[n]? with
    | none => exact .inl r'
    | some i =>
      obtain ⟨a, e1, c⟩ := s.at e
      cases r' with
      | obj q =>
        rename_i a'
        have : a' = a := by
          have q' : L[n]? = some a' := q
          rw [e1] at q'
          exact (Option.some.inj q').symm
        subst this
        cases i with
        | ins k fs => exact .inl (.obj q)
        | tab => exact .inl (.obj q)
        | box lk d =>
          cases c with
          | box h cu => exact .inr ⟨_, _, rfl, .inl h, cu⟩
          | lock h cu => exact .inr ⟨_, _, rfl, .inr ⟨_, h⟩, cu⟩
  | _ => exact r.rd
theorem RD.lst {ds : List D} (r : RD K G L H v (.lst ds)) : ∃ a vs, v = .ref a ∧ SqL K H a vs ∧ Reps K (AL L) (hide (Bd G L) H) vs ds ∧ ds.length ≤ sizeLine := by
  rcases r with r | ⟨a, u, e, h, c⟩
  · cases r with
    | lst h r z => exact ⟨_, _, rfl, Same.sqL hide_sub h, r, z⟩
  · cases c with
    | lst r z => exact ⟨a, _, e, .inl h, r, z⟩
theorem RD.tup {ds : List D} (r : RD K G L H v (.tup ds)) : ∃ a vs, v = .ref a ∧ SqT K H a vs ∧ Reps K (AL L) (hide (Bd G L) H) vs ds ∧ ds.length ≤ sizeLine := by
  rcases r with r | ⟨a, u, e, h, c⟩
  · cases r with
    | tup h r z => exact ⟨_, _, rfl, Same.sqT hide_sub h, r, z⟩
  · cases c
theorem RD.dic {ds : List (D × D)} (r : RD K G L H v (.dic ds)) : ∃ a kvs, v = .ref a ∧ Rd H a (.dK kvs) ∧ Repk K (AL L) (hide (Bd G L) H) kvs ds ∧ ds.length ≤ sizeLine := by
  rcases r with r | ⟨a, u, e, h, c⟩
  · cases r with
    | dic h r z => exact ⟨_, _, rfl, Same.rd hide_sub h, r, z⟩
  · cases c with
    | dic r z => exact ⟨a, _, e, h, r, z⟩
theorem RD.int {i : Int} (r : RD K G L H v (.int i)) : v = .int i := by
  rcases r with r | ⟨a, u, e, h, c⟩
  · cases r; rfl
  · cases c
theorem RD.bl {i : Bool} (r : RD K G L H v (.bl i)) : v = .bl i := by
  rcases r with r | ⟨a, u, e, h, c⟩
  · cases r; rfl
  · cases c
theorem RD.non (r : RD K G L H v .non) : v = .non := by
  rcases r with r | ⟨a, u, e, h, c⟩
  · cases r; rfl
  · cases c
theorem RD.str {s : List Nat} (r : RD K G L H v (.str s)) : v = .str (S s) ∧ s.length ≤ sizeLine := by
  rcases r with r | ⟨a, u, e, h, c⟩
  · cases r with
    | str _ z => exact ⟨rfl, z⟩
  · cases c
theorem RD.obj {n : Nat} (r : RD K G L H v (.obj n)) : ∃ a, v = .ref a ∧ L[n]? = some a := by
  rcases r with r | ⟨a, u, e, h, c⟩
  · cases r with
    | obj q => exact ⟨_, rfl, q⟩
  · cases c
theorem RD.tupR {ds : List D} (r : RD K G L H v (.tup ds)) : Rep K (AL L) (hide (Bd G L) H) v (.tup ds) := by
  rcases r with r | ⟨a, u, e, h, c⟩
  · exact r
  · cases c
theorem RD.dp (r : RD K G L H v d) (f : d.flat = true) : Dp K H v d.toPy := by
  rcases r with r | ⟨a, u, e, h, c⟩
  · exact Rep.dp hide_sub f r
  · cases c with
    | lst r z =>
      subst e
      exact .lst (.inl h) (Rep.dp.gos hide_sub r (by simpa [D.flat] using f))
    | dic r z => simp [D.flat] at f
end
inductive RDs (K : PySem.W.Frag) (G : Addr → Prop) (L : Lay) (H : Hp) : List V → List D → Prop
  | nil : RDs K G L H [] []
  | cons {v : V} {vs : List V} {d : D} {ds : List D} : RD K G L H v d → RDs K G L H vs ds → RDs K G L H (v :: vs) (d :: ds)
theorem keyOf_D (k : Key) : keyOf (keyD k) = some k := by
  cases k with
  | inl i => rfl
  | inr x => show some (Sum.inr (S (tl x))) = _; rw [S_tl]
section
variable {K : PySem.W.Frag} {A : Nat → Option Addr} {H : Hp}
theorem Repk.length : ∀ {v : List (Key × V)} {d : List (D × D)}, Repk K A H v d → v.length = d.length
  | _, _, .nil => rfl
  | _, _, .cons _ _ r => congrArg (· + 1) (Repk.length r)
theorem Repk.get (q : Key) : ∀ {kvs : List (Key × V)} {ds : List (D × D)}, Repk K A H kvs ds → (valV kvs q = none ∧ getKD q ds = none) ∨ ∃ v d, valV kvs q = some v ∧ getKD q ds = some d ∧ Rep K A H v d
  | _, _, .nil => .inl ⟨rfl, rfl⟩
  | _, _, .cons (k := k) (v := v) (d := d) z h r => by
    by_cases e : k = q
    · subst e
      exact .inr ⟨v, d, valV_pos rfl, by rw [getKD, keyOf_D, if_pos rfl], h⟩
    · have ne : ¬ keyOf (keyD k) = some q := by rw [keyOf_D]; exact fun x => e (Option.some.inj x)
      rw [valV_neg e, getKD, if_neg ne]
      exact Repk.get q r
theorem Repk.isSome (q : Key) {kvs : List (Key × V)} {ds : List (D × D)} (r : Repk K A H kvs ds) : (valV kvs q).isSome = (getKD q ds).isSome := by
  rcases r.get q with ⟨h1, h2⟩ | ⟨v, d, h1, h2, _⟩ <;> rw [h1, h2] <;> rfl
theorem Repk.any (q : Key) : ∀ {kvs : List (Key × V)} {ds : List (D × D)}, Repk K A H kvs ds → (kvs.any fun kv => decide (kv.1 = q)) = (ds.any fun p => decide (keyOf p.1 = some q))
  | _, _, .nil => rfl
  | _, _, .cons (k := k) z h r => by
    rw [List.any_cons, List.any_cons, Repk.any q r]
    congr 1
    show decide (k = q) = decide (keyOf (keyD k) = some q)
    rw [keyOf_D]
    exact decide_eq_decide.mpr ⟨fun e => by rw [e], fun e => Option.some.inj e⟩
theorem Repk.rmap (q : Key) {v : V} {d : D} (h : Rep K A H v d) : ∀ {kvs : List (Key × V)} {ds : List (D × D)}, Repk K A H kvs ds → Repk K A H (kvs.map fun kv => if kv.1 = q then (kv.1, v) else kv) (ds.map fun p => if keyOf p.1 = some q then (p.1, d) else p)
  | _, _, .nil => .nil
  | _, _, .cons (k := k) (v := w) (d := e) z g r => by
    rw [List.map_cons, List.map_cons]
    by_cases hk : k = q
    · have hk' : keyOf (keyD k) = some q := by rw [keyOf_D, hk]
      simp only [hk, hk', if_true]
      rw [← hk]
      simp only [keyOf_D, if_true]
      rw [hk]
      exact .cons (by rw [← hk]; exact z) h (Repk.rmap q h r)
    · have hk' : ¬ keyOf (keyD k) = some q := by rw [keyOf_D]; exact fun x => hk (Option.some.inj x)
      simp only [hk, hk', if_false]
      exact .cons z g (Repk.rmap q h r)
theorem Repk.snoc {q : Key} {v : V} {d : D} (z : KeyZ q) (h : Rep K A H v d) : ∀ {kvs : List (Key × V)} {ds : List (D × D)}, Repk K A H kvs ds → Repk K A H (kvs ++ [(q, v)]) (ds ++ [(keyD q, d)])
  | _, _, .nil => .cons z h .nil
  | _, _, .cons z' g r => .cons z' g (Repk.snoc z h r)
theorem Repk.put (q : Key) {v : V} {d : D} (z : KeyZ q) (h : Rep K A H v d) {kvs : List (Key × V)} {ds : List (D × D)} (r : Repk K A H kvs ds) : Repk K A H (putK kvs q v) (putKD q d ds) := by
  unfold putK putKD
  rw [← r.any q]
  split
  · exact r.rmap q h
  · exact r.snoc z h
theorem Repk.drop (q : Key) : ∀ {kvs : List (Key × V)} {ds : List (D × D)}, Repk K A H kvs ds → Repk K A H (dropK kvs q) (dropKD q ds)
  | _, _, .nil => .nil
  | _, _, .cons (k := k) (d := d) (v := v) z g r => by
    have ih := Repk.drop q r
    unfold dropK dropKD at ih ⊢
    rw [List.filter_cons, List.filter_cons]
    by_cases hk : k = q
    · have hk' : keyOf (keyD k) = some q := by rw [keyOf_D, hk]
      rw [if_neg (by simpa using hk), if_neg (by simpa using hk')]
      exact ih
    · have hk' : ¬ keyOf (keyD k) = some q := by rw [keyOf_D]; exact fun x => hk (Option.some.inj x)
      rw [if_pos (by simpa using hk), if_pos (by simpa using hk')]
      exact .cons z g ih
end
theorem putKD_len (q : Key) (v : D) (l : List (D × D)) : (putKD q v l).length ≤ l.length + 1 := by
  unfold putKD
  split
  · rw [List.length_map]; omega
  · rw [List.length_append]; exact Nat.le_refl _
theorem dropKD_len (q : Key) (l : List (D × D)) : (dropKD q l).length ≤ l.length := List.length_filter_le _ _
theorem RD.key {K : PySem.W.Frag} {G : Addr → Prop} {L : Lay} {H : Hp} {v : V} {d : D} {q : Key} (r : RD K G L H v d) (h : keyOf d = some q) : v = kV q ∧ KeyZ q := by
  cases d with
  | int i => cases h; exact ⟨r.int, True.intro⟩
  | str s =>
    cases h
    exact ⟨r.str.1, by show (tl (S s)).length ≤ sizeLine; rw [tl_S]; exact r.str.2⟩
  | _ => cases h
def OutQ (K : PySem.W.Frag) (fr : Bool) (G : Addr → Prop) (H0 : Hp) (L' : Lay) (m' : Mu) (H' : Hp) (d : D) (v : V) : Prop :=
  if fr = true ∧ isBoxD d = true then ∃ a, v = .ref a ∧ H0 a = none ∧ ¬ G a ∧ SOk K (fun x => G x ∨ x = a) L' m' H' ∧ CR K (AL L') (hide (Bd (fun x => G x ∨ x = a) L') H') H' a d
  else SOk K G L' m' H' ∧ Rep K (AL L') (hide (Bd G L') H') v d
theorem OutQ.of {K : PySem.W.Frag} {fr : Bool} {G : Addr → Prop} {H0 : Hp} {L' : Lay} {m' : Mu} {H' : Hp} {d : D} {v : V} (h : fr = false ∨ isBoxD d = false) (s : SOk K G L' m' H') (r : Rep K (AL L') (hide (Bd G L') H') v d) : OutQ K fr G H0 L' m' H' d v := by
  unfold OutQ
  rw [if_neg (by rintro ⟨a, b⟩; rcases h with h | h <;> simp_all)]
  exact ⟨s, r⟩
theorem hid_less {G : Addr → Prop} {L : Lay} {H : Hp} {a : Addr} : Same (hide (Bd (fun x => G x ∨ x = a) L) H) (hide (Bd G L) H) := hide_same fun x o nb h => ⟨fun z => nb (z.elim (fun g => .inl (.inl g)) .inr), h⟩
theorem OutQ.weak {K : PySem.W.Frag} {fr : Bool} {G : Addr → Prop} {H0 : Hp} {L' : Lay} {m' : Mu} {H' : Hp} {d : D} {v : V} (h : OutQ K fr G H0 L' m' H' d v) : SOk K G L' m' H' ∧ Rep K (AL L') (hide (Bd G L') H') v d := by
  unfold OutQ at h
  split at h
  · obtain ⟨a, e, _, ng, s, c⟩ := h
    subst e
    refine ⟨s.own fun x o n h => ⟨fun g => n (.inl g), h⟩, ?_⟩
    have nb : ¬ Bd G L' a := fun z => z.elim ng fun f => s.dis a f (.inr rfl)
    cases c with
    | lst h r z => exact .lst (.inl (.inl (hide_of nb h))) (r.mono hid_less fun _ _ h => h) z
    | dic h r z => exact .dic (.inl (hide_of nb h)) (r.mono hid_less fun _ _ h => h) z
  · exact h
structure Cn where
  K : PySem.W.Frag
  cfg : Cfg
  own : Nat → Bool
  /-- the class of a number -/
  cls : Nat → Value
def PstG {α : Type} (c : Cn) (W : WX) (G : Addr → Prop) (L : Lay) (σ : L2.St) (H : Hp) (q : α → Mu → Hp → Lay → Prop) (r : Res α) : Prop := match r with
  | .ok d m' => ∀ H' L', Stp L L' H H' → SOk c.K G L' m' H' → q d m' H' L'
  | .err k m' => ∀ H' L', Stp L L' H H' → SOk c.K G L' m' H' → W (c.cls k) none σ H'
  | .stuck => False
abbrev Pst (c : Cn) (W : WX) (b : Bool) (G : Addr → Prop) (L : Lay) (σ : L2.St) (H : Hp) (Q : VK) (r : Res D) : Prop := PstG c W G L σ H (fun d _ H' L' => ∀ v, RB c.K b G L' H' v d → Q v H') r
abbrev PstT (c : Cn) (W : WX) (G : Addr → Prop) (L : Lay) (σ : L2.St) (H : Hp) (Q : Bool → Hp → Prop) (r : Res Bool) : Prop := PstG c W G L σ H (fun d _ H' _ => Q d H') r
inductive RBs (K : PySem.W.Frag) (b : Bool) (G : Addr → Prop) (L : Lay) (H : Hp) : List V → List D → Prop
  | nil : RBs K b G L H [] []
  | cons {v : V} {vs : List V} {d : D} {ds : List D} : RB K b G L H v d → RBs K b G L H vs ds → RBs K b G L H (v :: vs) (d :: ds)
theorem RBs.step {K : PySem.W.Frag} {own : Nat → Bool} {b : Bool} {G : Addr → Prop} {L L' : Lay} {m : Mu} {ρ : Env'} {σ : L2.St} {H H' : Hp} (E : ESt K own G L m ρ σ H) (s : Stp L L' H H') : ∀ {vs : List V} {ds : List D}, RBs K b G L H vs ds → RBs K b G L' H' vs ds
  | _, _, .nil => .nil
  | _, _, .cons h r => .cons (h.step E s) (RBs.step E s r)
theorem RBs.reps {K : PySem.W.Frag} {G : Addr → Prop} {L : Lay} {H : Hp} : ∀ {vs : List V} {ds : List D}, RBs K false G L H vs ds → Reps K (AL L) (hide (Bd G L) H) vs ds
  | _, _, .nil => .nil
  | _, _, .cons h r => .cons h.rep (RBs.reps r)
theorem RBs.rds {K : PySem.W.Frag} {b : Bool} {G : Addr → Prop} {L : Lay} {m : Mu} {H : Hp} (s : SOk K G L m H) : ∀ {vs : List V} {ds : List D}, RBs K b G L H vs ds → RDs K G L H vs (drs m ds)
  | _, _, .nil => .nil
  | _, _, .cons h r => .cons (h.drd s) (RBs.rds s r)
theorem RBs.length {K : PySem.W.Frag} {b : Bool} {G : Addr → Prop} {L : Lay} {H : Hp} : ∀ {vs : List V} {ds : List D}, RBs K b G L H vs ds → vs.length = ds.length
  | _, _, .nil => rfl
  | _, _, .cons _ r => congrArg (· + 1) (RBs.length r)
abbrev PstL (c : Cn) (W : WX) (b : Bool) (G : Addr → Prop) (L : Lay) (σ : L2.St) (H : Hp) (Q : List V → Hp → Prop) (r : Res (List D)) : Prop := PstG c W G L σ H (fun ds _ H' L' => ∀ vs, RBs c.K b G L' H' vs ds → Q vs H') r
def TEr (c : Cn) (W : WX) (b : Bool) (e : E) : TE := fun σ H Q => ∃ G L m ρ, ESt c.K c.own G L m ρ σ H ∧ Pst c W b G L σ H Q (evE c.cfg e ρ m)
def TTr (c : Cn) (W : WX) (e : E) : TT := fun σ H Q => ∃ G L m ρ, ESt c.K c.own G L m ρ σ H ∧ PstT c W G L σ H Q (evT c.cfg e ρ m)
def TAr (c : Cn) (W : WX) (b : Bool) (es : Es) : TA := fun σ H Q => ∃ G L m ρ, ESt c.K c.own G L m ρ σ H ∧ PstL c W b G L σ H Q (evEs c.cfg es ρ m)
section
variable {c : Cn} {W : WX} {G : Addr → Prop} {L L' : Lay} {m m' : Mu} {ρ : Env'} {σ : L2.St} {H H' : Hp} {b : Bool}
theorem PstG.step {α : Type} {q : α → Mu → Hp → Lay → Prop} {r : Res α} (h : PstG c W G L σ H q r) (s : Stp L L' H H') : PstG c W G L' σ H' q r := by
  cases r with
  | ok d m => exact fun H2 L2 s2 k => h H2 L2 (s.trans s2) k
  | err k m => exact fun H2 L2 s2 k => h H2 L2 (s.trans s2) k
  | stuck => exact h
theorem PstG.imp {α : Type} {q q' : α → Mu → Hp → Lay → Prop} {r : Res α} (h : PstG c W G L σ H q r) (i : ∀ d m H' L', r = .ok d m → Stp L L' H H' → SOk c.K G L' m H' → q d m H' L' → q' d m H' L') : PstG c W G L σ H q' r := by
  cases r with
  | ok d m => exact fun H2 L2 s2 k => i d m H2 L2 rfl s2 k (h H2 L2 s2 k)
  | err k m => exact h
  | stuck => exact h
theorem PstG.bind {α β : Type} {q : β → Mu → Hp → Lay → Prop} {r : Res α} {f : α → Mu → Res β} (h : PstG c W G L σ H q (r.bind f)) : PstG c W G L σ H (fun d m' H' L' => PstG c W G L' σ H' q (f d m')) r := by
  cases r with
  | ok d m => exact fun H2 L2 s2 k => h.step s2
  | err k m => exact h
  | stuck => exact h
theorem TEr.bind {e : E} {f : D → Mu → Res D} {Q Q' : VK} {b' : Bool} (E : ESt c.K c.own G L m ρ σ H) (h : Pst c W b' G L σ H Q ((evE c.cfg e ρ m).bind f))
    (k : ∀ d m' v H' L', evE c.cfg e ρ m = .ok d m' → Stp L L' H H' → ESt c.K c.own G L' m' ρ σ H' → RB c.K b G L' H' v d → Pst c W b' G L' σ H' Q (f d m') → Q' v H') : TEr c W b e σ H Q' :=
  ⟨G, L, m, ρ, E, (PstG.bind h).imp fun d m H' L' e s ok q v r => k d m v H' L' e s (E.step s ok) r q⟩
theorem TAr.bind {es : Es} {f : List D → Mu → Res D} {Q : VK} {Q' : List V → Hp → Prop} {b' : Bool} (E : ESt c.K c.own G L m ρ σ H) (h : Pst c W b' G L σ H Q ((evEs c.cfg es ρ m).bind f))
    (k : ∀ d m' v H' L', evEs c.cfg es ρ m = .ok d m' → Stp L L' H H' → ESt c.K c.own G L' m' ρ σ H' → RBs c.K b G L' H' v d → Pst c W b' G L' σ H' Q (f d m') → Q' v H') : TAr c W b es σ H Q' :=
  ⟨G, L, m, ρ, E, (PstG.bind h).imp fun d m H' L' e s ok q v r => k d m v H' L' e s (E.step s ok) r q⟩
theorem Pst.val {Q : VK} {d : D} {v : V} (E : ESt c.K c.own G L m ρ σ H) (h : Pst c W b G L σ H Q (.ok d m)) (r : RB c.K b G L H v d) : Q v H := h H L (Stp.refl _ _) E.sok v r
theorem ESt.nb {K : PySem.W.Frag} {own : Nat → Bool} {p : Addr} (E : ESt K own G L m ρ σ H) (hf : ∀ a, foot L a → ∃ o, H a = some o) (n : H p = none) : ¬ Bd G L p := fun q => by
  rcases q with q | q
  · obtain ⟨⟨o, h⟩, _⟩ := E.gok p q
    rw [n] at h; cases h
  · obtain ⟨o, h⟩ := hf p q
    rw [n] at h; cases h
end
section
variable {c : Cn} {W : WX} {G : Addr → Prop} {L : Lay} {m : Mu} {ρ : Env'} {σ : L2.St} {H : Hp} {b : Bool} {Q : VK}
theorem Pst.tup {ds : List D} {vs : List V} {p : Addr} (E : ESt c.K c.own G L m ρ σ H) (h : Pst c W b G L σ H Q (.ok (.tup ds) m)) (r : Reps c.K (AL L) (hide (Bd G L) H) vs ds) (z : ds.length ≤ sizeLine) (n : H p = none) : Q (.ref p) (L2.upd H p (.tup vs)) := by
  have nb := E.nb E.sok.foot n
  refine h _ L (Stp.upd n) (E.sok.upd n) _ (.inl (.tup (.inl (.inl (Rep.new n nb))) ?_ z))
  exact r.mono (Stp.upd n).hid fun _ _ h => h
theorem Pst.lst {ds : List D} {vs : List V} {p : Addr} (E : ESt c.K c.own G L m ρ σ H) (h : Pst c W b G L σ H Q (.ok (.lst ds) m)) (r : Reps c.K (AL L) (hide (Bd G L) H) vs ds) (z : ds.length ≤ sizeLine) (n : H p = none) : Q (.ref p) (L2.upd H p (.lst vs)) := by
  have nb := E.nb E.sok.foot n
  refine h _ L (Stp.upd n) (E.sok.upd n) _ (.inl (.lst (.inl (.inl (Rep.new n nb))) ?_ z))
  exact r.mono (Stp.upd n).hid fun _ _ h => h
end
end MP
set_option maxRecDepth 100000
set_option maxHeartbeats 4000000
set_option autoImplicit false
namespace MP
open PySem PySem.W PySem.Calls PyProof.Rows
section
variable {prog : Program} {w : World} {A : Around} {E : Value → Shared → Prop} {s : Shared}
theorem lam_turn {f t c' : Addr} {q a : Str} {params : Arguments} {scope : Scope} {pm ctv : Value} {items : Array Value} {x : Str} {tk : Tok} {p1 p2 p3 : Pos} {j : Nat} (hroom : A.depth < recursionLimit) (lim : s.heap.NoLimit)
    (of_ : s.heap.get? f = some (kla_obj "<lambda>" q params (.Subscript (.Name a p1) (.Constant (.int 0) j p2) p3) scope [] pm c' ctv)) (hcd : s.heap.CodeRec (.ref c') q)
    (hk : scope.kind = .function) (hco : scope.isCoroutine = false) (hgen : scope.isGenerator = false) (hcell : ∀ y ∈ scope.names, y.2 ≠ .cell) (hl : scope.names.lookup a = some .local) (ha : (a == ("__debug__" : Str)) = false)
    (hbind : ∀ v, bindArgs (kla_fn "<lambda>" q params (.Subscript (.Name a p1) (.Constant (.int 0) j p2) p3) scope [] pm (.ref c') ctv) ⟨[v], []⟩ = pure [(a, v)])
    (ht : IsTup s.heap t items) (hi : items[0]? = some (.str x tk)) (E : Value → Shared → Prop) :
    wpAny (model prog w) A (call (.ref f) [.ref t]) (KeyPure (.str x) s) E s := by
  have told : codeAny (model prog w) A (.call (.ref f) ⟨[.ref t], []⟩) (fun r s' => ∃ v, r = .ok (.ret v) ∧ KeyPure (.str x) s v s') s := by
    refine kla_callFunE hroom of_ rfl hco hgen rfl hcd ?_
    rw [hbind]
    have par : ∀ y ∈ [(a, Value.ref t)], scope.names.lookup y.1 = some .local := fun y hy => by rw [List.mem_singleton.mp hy]; exact hl
    refine wpAny_pure (wpAny_newFunctionEnv hcell par (fun g ns same => ⟨lim.fresh _ same, ?_⟩) hk)
    have grown : ∀ b o, s.heap.get? b = some o → g.get? b = some o := fun b o z => (same.2 b (Nat.ne_of_lt (Heap.lt_size z))).trans (Heap.get?_push_of_some _ z)
    have tup : IsTup g t items := ht.keeps grown
    have many : 0 < items.size := (Array.getElem?_eq_some_iff.mp hi).1
    refine kla_codeExpr (PyProof.Rows.Subscript_ (wpAny_Name (wpAny_loadName_local (v := .ref t) hk hl ns (by show List.lookup a [(a, Value.ref t)] = _; simp [List.lookup]) (wpAny_Constant_int ?_)) ha))
    refine subscriptTail_builtinR (x := .str x tk) tup.typeIs PySem.F.slot_tuple_getitem.lookup (getItem_tuple (j := 0) tup (by decide) (by decide) (by unfold seqIndex?; simp [many]) hi ⟨rfl, _, rfl, _, _, rfl, grown, Reads.str x tk⟩) (by rfl)
  refine wpAny_call (codeAny_mono told fun r s' z => ?_)
  obtain ⟨v, rfl, z⟩ := z
  exact z
end
open L2 LamX
section
variable {X : Cx} {pins : List (Addr × Obj)} {σ : L2.St} {H : Hp} {s : Shared}
theorem lam_made {c P : Addr} {ps : Array Value} {params : Arguments} {body : Expr} {scope : Scope} {pos : Pos} {E : Value → Shared → Prop} {Q : Value → Shared → Prop} (I : Inv X pins σ H s) (TB : TabB X.base X.mg c P) (hcode : X.env.code = .ref c)
    (hP : H P = some (.tbl ps)) (Z : TabZ H (X.env.qual ++ "<lambda>") ps) (hdef : defaultsOf params X.env = ([], [])) (hfree : ∀ y ∈ scope.names, y.2 = .free → ∃ c, X.env.cells.lookup y.1 = some c)
    (h : ∀ (f d : Addr) (pm ctv : Value) (H1 : Hp) (s1 : Shared), Inv X pins σ H1 s1 → (H1 = H ∨ ∃ more, H d = none ∧ P ≠ d ∧ H1 = L2.upd (L2.upd H P (.tbl (ps ++ more))) d (CodeO d (X.env.qual ++ "<lambda>")) ∧ TabZ H1 (X.env.qual ++ "<lambda>") (ps ++ more) ∧ (∀ (p : Pos) (v : Value), codeAmong p (ps ++ more).toList = some v → codeAmong p ps.toList = some v ∨ v = .ref d)) →
      s1.heap.get? f = some (kla_obj "<lambda>" (X.env.qual ++ "<lambda>") params body scope (cloFrom X.env.cells scope.names []) pm d ctv) → H1 d = some (CodeO d (X.env.qual ++ "<lambda>")) → Q (.ref f) s1) :
    wpAny (model X.prog X.w) X.A (eval (.Lambda params body scope pos) X.env) Q E s := by
  have hb : s.heap.BuiltinsAt X.mg P := TB.bm.keeps I.bk
  have ho : s.heap.get? P = some { cls := .none, data := .fields ps } := I.hok P _ hP
  refine kla_eval hdef ?_
  rcases q : codeAmong pos ps.toList with _ | v
  · refine kla_makeFunction (mg := X.mg) (c := c) (P := P) (ps := ps) (closure_ok hfree) I.ok.glob (I.mod.glob.keeps I.bk) hcode (TB.code.keeps I.bk) ho Z.ok q TB.gP hb fun d ctv g tk ext above below rec tab => ?_
    obtain ⟨d2, oc, vs, t, e, e1, e2, e3⟩ := rec
    cases e
    have nd : H d = none := I.hok.fresh above
    have nPd : P ≠ d := ne_of_none hP nd
    have J := inv_table (q := X.env.qual ++ "<lambda>") (t' := tk) (more := #[rawInt pos.line, rawInt pos.col, .ref d]) (h' := g.push (kla_obj "<lambda>" (X.env.qual ++ "<lambda>") params body scope (cloFrom X.env.cells scope.names []) ((X.mg "__name__").getD .none) d ctv)) I hP
      (fun b u n z => Heap.get?_push_of_some _ (ext b u n z)) (Heap.get?_push_of_some _ tab) above ⟨oc, vs, t, Heap.get?_push_of_some _ e1, e2, e3⟩
    have lst : (ps ++ #[rawInt pos.line, rawInt pos.col, Value.ref d]).toList = ps.toList ++ [rawInt pos.line, rawInt pos.col, .ref d] := by simp
    have old : ∀ (p : Pos) (v : Value), codeAmong p (ps ++ #[rawInt pos.line, rawInt pos.col, Value.ref d]).toList = some v → codeAmong p ps.toList = some v ∨ v = .ref d := fun p v z => among_app _ Z.ok (by rw [lst] at z; exact z)
    refine h _ d _ ctv _ _ J (.inr ⟨_, nd, nPd, rfl, ⟨by rw [lst]; exact PySem.TriplesOk_snoc _ _ _ _ Z.ok, fun p v z => ?_⟩, old⟩) (Heap.get?_push_size _ rfl) L2.upd_same
    rcases old p v z with z | z
    · obtain ⟨k, k1, k2⟩ := Z.cd p v z
      have kd : k ≠ d := ne_of_none k2 nd
      have kP : k ≠ P := fun w => by rw [w, hP] at k2; exact codeO_ne _ (Option.some.inj k2).symm
      exact ⟨k, k1, by rw [L2.upd_ne kd, L2.upd_ne kP]; exact k2⟩
    · exact ⟨d, z, L2.upd_same⟩
  · obtain ⟨d, rfl, k⟩ := Z.cd pos v q
    refine kla_makeFunctionHit (mg := X.mg) (c := c) (P := P) (ps := ps) (closure_ok hfree) I.ok.glob (I.mod.glob.keeps I.bk) hcode (TB.code.keeps I.bk) ho Z.ok q hb fun ctv g tk ext above => ?_
    exact h _ d _ ctv H _ (I.kept fun b o z => Heap.get?_push_of_some _ (ext b o z)) (.inl rfl) (Heap.get?_push_size _ rfl) k
end
end MP
set_option maxRecDepth 100000
set_option maxHeartbeats 4000000
set_option autoImplicit false
namespace MP.TupKey
open PySem PySem.W PySem.Calls PyProof.Rows
section
variable {prog : Program} {w : World} {A : Around} {E : Value → Shared → Prop} {s : Shared} {l : Addr} {vs : List Value}
abbrev took (s : Shared) (vs : List Value) : Heap := (s.heap.push (seqObj "list" #[] 0)).update s.heap.objs.size (Obj.mapSeq (· ++ vs.toArray))
theorem took_at (s : Shared) (vs : List Value) : ∃ n, (took s vs).get? s.heap.objs.size = some (seqObj "list" ((#[] : Array Value) ++ vs.toArray) n) := ⟨_, get?_update_seq (Heap.get?_push_size _ rfl) _⟩
theorem col_tup {Q : List Value → Shared → Prop} (hl : s.heap.IsTuple l vs.toArray) (hz : vs.length ≤ sizeLine) (q : Q vs { s with heap := took s vs }) : wpAny (model prog w) A (collect (.ref l)) Q E s := by
  obtain ⟨o, ho, hc, n, hd⟩ := hl
  have old : (s.heap.push (seqObj "list" #[] 0)).get? l = some o := Heap.get?_push_of_some _ ho
  have new : (s.heap.push (seqObj "list" #[] 0)).get? s.heap.objs.size = some (seqObj "list" #[] 0) := Heap.get?_push_size _ rfl
  have big : (#[] ++ vs.toArray).size ≤ sizeLine + 1 := by simp only [Array.size_append, List.size_toArray, List.length_nil]; omega
  have tt : ((Value.type "tuple") == (Value.type "tuple")) = true := by rfl
  have ext : ∀ (A' : Around) (E' : Value → Shared → Prop), wpAny (model prog w) A' (Builtin.List.listExtendWith (.ref s.heap.objs.size) (.ref l) (.ref s.heap.objs.size)) (fun f s' => f = .done (.ret (.ref s.heap.objs.size)) ∧ s' = { s with heap := took s vs }) E' { s with heap := s.heap.push (seqObj "list" #[] 0) } := by
    intro A' E'
    unfold Builtin.List.listExtendWith
    refine wpAny_bind (wpAny_typeOf (T := "tuple") ⟨o, old, hc⟩ ?_)
    rw [tt, Bool.or_true, if_pos rfl]
    refine wpAny_bind (listItems_at old hd (wpAny_bind (listItems_at (n := 0) new rfl ?_)))
    rw [if_neg (by simp)]
    exact wpAny_bind (listUpdate_at (n := 0) new rfl (wpAny_pure ⟨rfl, rfl⟩) (Nat.zero_le _) big)
  unfold collect
  refine wpAny_bind (wpAny_runValue (codeAny_builtin entry_proto_collect' ?_))
  refine wpAny_bind (wpAny_newList (wpAny_pure ⟨Code.quiet_builtin _ (by decide +kernel), codeAny_builtin entry_list_iadd' ?_⟩))
  refine wpAny_mono (ext _ _) (fun f s' hf => ?_) fun _ _ e => e
  obtain ⟨rfl, rfl⟩ := hf
  obtain ⟨k, hk⟩ := took_at s vs
  refine wpAny_bind (wpAny_load hk ?_)
  refine wpAny_pure ?_
  have e : ((#[] : Array Value) ++ vs.toArray).toList = vs := by simp
  show Q ((#[] : Array Value) ++ vs.toArray).toList _
  rw [e]
  exact q
variable {β : Type} {bs : List β} {R : Value → β → Prop}
theorem sorted_key_tup {f : Value} {kw : List (Str × Value)} {b : Bool} {Q : Value → Shared → Prop} (k : β → PyData) (hl : s.heap.IsTuple l vs.toArray) (e : EachIs R vs bs) (hal : AllAlike (bs.map k)) (hk : Sortable (bs.map k)) (hL : bs.length ≤ sizeLine)
    (hu : ∀ x, x ∈ bs → A.units + 2 + (k x).depth < cLine) (ha1 : argsOk "sorted" ⟨[.ref l], kw⟩) (ha2 : ∀ x, argsOk "list.sort" ⟨[.ref x], kw⟩) (ht : ∀ x, Builtin.«list.sort» ⟨[.ref x], kw⟩ = ksk_tree x f b)
    (turn : ∀ (v : Value) (x : β), R v x → x ∈ bs → ∀ (h : Heap) (tk : Nat), (∀ b o, s.heap.get? b = some o → h.get? b = some o) →
      wpAny (model prog w) A.in1.in1 (call f [v]) (KeyPure (k x) { s with heap := h, toks := tk }) (fun _ _ => False) { s with heap := h, toks := tk })
    (fin : ∀ out c h' tk, (∀ b o, s.heap.get? b = some o → h'.get? b = some o) → s.heap.get? (s.heap.objs.size + 1) = none → h'.get? (s.heap.objs.size + 1) = some (seqObj "list" (List.toArray out) c) → out.length = bs.length → EachIs R out (bs.mergeSort (dataLe b k)) →
      Q (.ref (s.heap.objs.size + 1)) { s with heap := h', toks := tk }) :
    wpAny (model prog w) A (call (.builtin "sorted") [.ref l] kw) Q E s := by
  have z : vs.length ≤ sizeLine := by rw [e.length]; exact hL
  have one : (took s vs).objs.size = s.heap.objs.size + 1 := by rw [Heap.size_update, size_push']
  have body : ∀ E' : Value → Shared → Prop, wpAny (model prog w) A.in1.in1 (Builtin.«list.sort» ⟨[.ref (s.heap.objs.size + 1)], kw⟩) (fun r s' => r = .done (.ret .none) ∧ Q (.ref (s.heap.objs.size + 1)) s') E' { s with heap := copyHeap s.heap vs } := fun E' => by
    rw [ht]
    have stays : ∀ {g : Heap}, KeepsBut (s.heap.objs.size + 1) (copyHeap s.heap vs) g → ∀ b o, s.heap.get? b = some o → g.get? b = some o := fun {g} kp b o h0 => by
      have lt := Heap.lt_size h0
      refine kp b o (fun x => ?_) (copyHeap_old h0)
      rw [x] at lt
      exact absurd lt (Nat.not_lt.mpr (Nat.le_succ _))
    have same : (bs.map k).length = vs.length := by rw [List.length_map, e.length]
    refine keyH_tree (kz := bs.map k) (s := { s with heap := copyHeap s.heap vs }) (copyHeap_at s.heap vs) same z hal hk ?_ (keyH_turns (s := { s with heap := copyHeap s.heap vs }) e fun v x r hx h tk kp => turn v x r hx h tk (stays kp)) fun h' tk out c kp hD ko => ⟨rfl, ?_⟩
    · intro d hd
      obtain ⟨x, hx, rfl⟩ := List.mem_map.mp hd
      exact hu x hx
    · exact fin out c h' tk (stays kp) (Heap.get?_none_of_le (Nat.le_succ _)) hD ((ko.length same).trans e.length) (keyedOut_each k ko e)
  refine call_function_entry_kw kind_sorted plain_sorted entry_sorted ha1 ?_
  unfold Builtin.«sorted»
  refine wpAny_bind (m := checkCount "sorted" 1 1 _) (wpAny_pure (wpAny_bind (col_tup hl z (wpAny_bind (wpAny_newList ?_ z)))))
  show wpAny _ _ _ _ _ { s with heap := copyHeap s.heap vs }
  rw [one]
  refine wpAny_bind (wpAny_holding (wpAny_call_entry_kw slot_list_sort ⟨_, copyHeap_at s.heap vs, rfl⟩ entry_list_sort (wpAny_mono (body _) (fun r s' hr => ?_) fun _ _ x => x) (ha2 _)))
  obtain ⟨rfl, hq⟩ := hr
  exact ⟨_, rfl, wpAny_pure ⟨_, rfl, hq⟩⟩
end
end MP.TupKey
set_option maxRecDepth 100000
set_option maxHeartbeats 4000000
set_option autoImplicit false
namespace MP
open PySem PySem.W PySem.Calls PyProof.Rows L2 LamX
def leB (a b : V × Str) : Bool := decide (tl a.2 ≤ tl b.2)
def Grew (P : Addr) (q : Str) (ps : Array Value) (H H1 : Hp) : Prop := H1 = H ∨ ∃ d more, H d = none ∧ P ≠ d ∧ H1 = L2.upd (L2.upd H P (.tbl (ps ++ more))) d (CodeO d q) ∧ TabZ H1 q (ps ++ more) ∧ ∀ (p : Pos) (v : Value), codeAmong p (ps ++ more).toList = some v → codeAmong p ps.toList = some v ∨ v = .ref d
theorem Grew.ext {P : Addr} {q : Str} {ps : Array Value} {H H1 : Hp} (g : Grew P q ps H H1) (hP : H P = some (.tbl ps)) : ExtN H H1 := by
  rcases g with rfl | ⟨d, more, nd, _, rfl, _⟩
  · exact ExtN.refl _
  · intro b o e n
    have b1 : b ≠ d := ne_of_none e nd
    have b2 : b ≠ P := fun z => by rw [z, hP] at e; exact n ps (Option.some.inj e).symm
    rw [L2.upd_ne b1, L2.upd_ne b2]
    exact e
def tSK (K : PySem.W.Frag) (P : Addr) (q : Str) (te : TE) : TE := fun σ H Q => te σ H fun v H1 => ∃ ps, H1 P = some (.tbl ps) ∧ TabZ H1 q ps ∧ ∃ (l : Addr) (bs : List (V × Str)), v = .ref l ∧ (SqL K H1 l (bs.map (·.1)) ∨ SqT K H1 l (bs.map (·.1))) ∧ (∀ b ∈ bs, ∃ t us, b.1 = .ref t ∧ SqT K H1 t (.str b.2 :: us)) ∧
  ∀ H2 p, Grew P q ps H1 H2 → H2 p = none → Q (.ref p) (L2.upd H2 p (.lst ((bs.mergeSort leB).map (·.1))))
theorem vals_each : ∀ {bs : List (V × Str)} {us : List Value}, Vals (bs.map (·.1)) us → EachIs (fun v (b : V × Str) => RelV b.1 v) us bs
  | [], _, h => by cases h; exact .nil
  | _ :: _, _, h => by
    cases h with
    | cons h t => exact .cons h (vals_each t)
theorem each_vals : ∀ {bs : List (V × Str)} {us : List Value}, EachIs (fun v (b : V × Str) => RelV b.1 v) us bs → Vals (bs.map (·.1)) us
  | _, _, .nil => .nil
  | _, _, .cons h t => .cons h (each_vals t)
theorem ext_sqT {K : PySem.W.Frag} {H H' : Hp} (e : ExtN H H') {a : Addr} {xs : List V} (h : SqT K H a xs) : SqT K H' a xs := by
  rcases h with (h | ⟨o, h⟩) | h
  · exact .inl (.inl (e _ _ h (fun ps q => by cases q)))
  · exact .inl (.inr ⟨o, e _ _ h (fun ps q => by cases q)⟩)
  · exact .inr h
theorem ext_sqL {K : PySem.W.Frag} {H H' : Hp} (e : ExtN H H') {a : Addr} {xs : List V} (h : SqL K H a xs) : SqL K H' a xs := by
  rcases h with (h | ⟨o, h⟩) | h
  · exact .inl (.inl (e _ _ h (fun ps q => by cases q)))
  · exact .inl (.inr ⟨o, e _ _ h (fun ps q => by cases q)⟩)
  · exact .inr h
theorem boot_sorted : bootBuiltins "sorted" = some (.builtin "sorted") := by decide +kernel
theorem lam_bind {q : Str} {an : Option Expr} {ps : Pos} {body : Expr} {scope : Scope} {pm cv ctv v : Value} : bindArgs (kla_fn "<lambda>" q ⟨[], [⟨"pair", an, ps⟩], none, [], [], none, []⟩ body scope [] pm cv ctv) ⟨[v], []⟩ = pure [(("pair" : Str), v)] := by first | rfl | kernel_rfl
section
variable {X : Cx}
theorem pe_sortkey {c P : Addr} {e : Expr} {te : TE} {a : Str} {an : Option Expr} {ap : Pos} {scope : Scope} {j : Nat} {p p1 p2 p3 lpos kpos pos : Pos} (hg : Gl X "sorted") (hm : X.mg "sorted" = none) (he : PE X e te) (hstar : starEach [e] X.env = (false, eval e X.env) :: starEach [] X.env)
    (TB : TabB X.base X.mg c P) (hcode : X.env.code = .ref c) (hr : Room 1 X.A) (hk : scope.kind = .function) (hco : scope.isCoroutine = false) (hgen : scope.isGenerator = false) (hns : scope.names = [(a, .local)]) (ha : a = "pair") :
    PE X (.Call (.Name "sorted" p) [e] [⟨some "key", .Lambda ⟨[], [⟨a, an, ap⟩], none, [], [], none, []⟩ (.Subscript (.Name a p1) (.Constant (.int 0) j p2) p3) scope lpos, kpos⟩] pos) (tSK X.K P (X.env.qual ++ "<lambda>") te) := by
  subst ha
  refine ⟨fun pins s σ H Q I h => ?_⟩
  have hclo : ∀ cells : List (Str × Addr), cloFrom cells scope.names [] = [] := fun cells => by rw [hns]; rfl
  have loc : ∀ y ∈ scope.names, y.2 = .local := fun y hy => by
    rw [hns] at hy
    rw [List.mem_singleton.mp hy]
  refine wpAny_Call_Name_kw (ld_blt I hg hm boot_sorted ?_ (by decide) (by decide))
  refine PyProof.Rows.callWith_kw ?_ (by rw [hstar]; rfl) (by rw [hstar]; rfl) (by rfl) (by rfl)
  rw [hstar]
  show wpAny _ _ (spliced ((false, eval e X.env) :: backTo pos (starEach [] X.env))) _ _ s
  refine Calls.spliced_cons (thn (he.run pins s σ H _ I h) fun u s1 ⟨v, H1, I1, r1, q1⟩ => Calls.spliced_nil ?_)
  obtain ⟨ps, hP, Z, l, bs, rfl, hl, hx, q1⟩ := q1
  obtain rfl : u = Value.ref l := r1
  show wpAny _ _ (evalAll [(do let v ← eval (.Lambda _ (.Subscript (.Name "pair" p1) (.Constant (.int 0) j p2) p3) scope lpos) X.env; standAt pos; pure v)]) _ _ s1
  refine wpAny_evalAll_cons (wpAny_bind (lam_made I1 TB hcode hP Z rfl (fun y hy e => by rw [loc y hy] at e; cases e) fun f d pm ctv H2 s2 I2 gr hf hd => wpAny_bind (wpAny_standAt (wpAny_pure (wpAny_evalAll_nil ?_)))))
  show wpAny _ _ (call (.builtin "sorted") [.ref l] [(Str.ofString "key", .ref f)]) _ _ s2
  have gr' : Grew P (X.env.qual ++ "<lambda>") ps H1 H2 := gr.imp id fun ⟨more, a1, a2, a3, a4, a5⟩ => ⟨d, more, a1, a2, a3, a4, a5⟩
  have eN := gr'.ext hP
  rw [hclo] at hf
  obtain ⟨⟨oc, ws, tq, hoc, hdc, hvc⟩, _, _⟩ := I2.hok d _ hd
  have turn : ∀ (v : Value) (b : V × Str), RelV b.1 v → b ∈ bs → ∀ (h : Heap) (tk : Nat), (∀ b o, s2.heap.get? b = some o → h.get? b = some o) →
      wpAny (model X.prog X.w) X.A.in1.in1 (call (.ref f) [v]) (KeyPure (PyData.str b.2) { s2 with heap := h, toks := tk }) (fun _ _ => False) { s2 with heap := h, toks := tk } := fun v b hR hxm h tk kp => by
    obtain ⟨t, us, e1, hs⟩ := hx b hxm
    rw [e1] at hR
    obtain rfl : v = Value.ref t := hR
    obtain ⟨ws, r2, pt, _⟩ := I2.tuple (ext_sqT eN hs)
    cases r2 with
    | cons h1 h2 =>
      obtain ⟨tk0, rfl⟩ := h1
      exact lam_turn (tk := tk0) (items := (Value.str b.2 tk0 :: _).toArray) (s := { s2 with heap := h, toks := tk }) (by have := hr.dp; show X.A.depth < _; omega) (I2.nolimit.keeps kp) (kp _ _ hf) ⟨d, oc, _, tq, rfl, kp _ _ hoc, hdc, hvc⟩ hk hco hgen (fun y hy e => by rw [loc y hy] at e; cases e) (by rw [hns]; simp [List.lookup]) (by decide) (fun v => lam_bind) (pt.keeps kp) (by simp) _
  have alk : AllAlike (bs.map fun b => PyData.str b.2) := AllAlike.of fun _ _ => by simp [alike]
  have srt : Sortable (bs.map fun b => PyData.str b.2) := .inr fun z hz' => by
    obtain ⟨x, _, rfl⟩ := List.mem_map.mp hz'
    exact ⟨(fun z => by cases z), fun xs z => by cases z⟩
  have un : ∀ x, x ∈ bs → X.A.units + 2 + (PyData.str x.2).depth < cLine := fun x _ => by
    have := hr.un
    show X.A.units + 2 + 0 < cLine
    omega
  rcases hl with hl | hl
  · obtain ⟨its, rv, pl, hz⟩ := I2.list (ext_sqL eN hl)
    rw [List.length_map] at hz
    refine sorted_key_data (b := false) (R := fun v (b : V × Str) => RelV b.1 v) (bs := bs) (fun b => PyData.str b.2) pl.isList (vals_each rv) alk srt hz un (ksk_s1 _ _) (fun _ => ksk_l1 _ _) (fun _ => ksk_t1 _ _) turn fun out cc h' tk kp _ hD hlen eo => ?_
    rw [dataLe_str] at eo
    have hz2 : ((bs.mergeSort leB).map (·.1)).length ≤ sizeLine := by rw [List.length_map, List.length_mergeSort]; exact hz
    exact ⟨.ref _, L2.upd H2 (s2.heap.objs.size + 1) (.lst ((bs.mergeSort leB).map (·.1))), I2.laid (t' := tk) kp (Nat.le_succ _) ⟨hz2, out, cc, each_vals eo, hD⟩, rfl, q1 H2 _ gr' (I2.hok.fresh (Nat.le_succ _))⟩
  · obtain ⟨its, rv, pt, hz⟩ := I2.tuple (ext_sqT eN hl)
    rw [List.length_map] at hz
    refine TupKey.sorted_key_tup (b := false) (R := fun v (b : V × Str) => RelV b.1 v) (bs := bs) (fun b => PyData.str b.2) pt (vals_each rv) alk srt hz un (ksk_s1 _ _) (fun _ => ksk_l1 _ _) (fun _ => ksk_t1 _ _) turn fun out cc h' tk kp _ hD hlen eo => ?_
    rw [dataLe_str] at eo
    have hz2 : ((bs.mergeSort leB).map (·.1)).length ≤ sizeLine := by rw [List.length_map, List.length_mergeSort]; exact hz
    exact ⟨.ref _, L2.upd H2 (s2.heap.objs.size + 1) (.lst ((bs.mergeSort leB).map (·.1))), I2.laid (t' := tk) kp (Nat.le_succ _) ⟨hz2, out, cc, each_vals eo, hD⟩, rfl, q1 H2 _ gr' (I2.hok.fresh (Nat.le_succ _))⟩
end
end MP
set_option maxRecDepth 100000
set_option maxHeartbeats 4000000
set_option autoImplicit false
namespace L2
open PySem PySem.Spec PyProof.Rows
open AutoSeq1 (wpAny_loadPart')
theorem tuple_mul1 (l : Addr) (items : Array Value) (n : Nat) (sl : Array (Option Value)) (dd : Option Addr) (u : Tok) :
    Meets (Builtin.«tuple.__mul__» ⟨[.ref l, .int 1 u], []⟩) (fun _ R s => s.heap.get? l = some { cls := .type "tuple", dict := dd, data := .seq items n, slots := sl } ∧
      R (.ok (.ret (.ref l))) s) :=
  .of_wp fun prog w A R s h => by
    obtain ⟨hp, g, d, tk, os⟩ := s
    obtain ⟨hl, h⟩ := h
    have f1 := AutoSeq1.idx_int
    wp_walk using wpAny_loadPart' hl
    cases items.isEmpty <;> wp_walk using wpAny_loadPart' hl <;> exact ⟨_, rfl, h⟩
theorem tuple_mul0 (l : Addr) (items : Array Value) (n : Nat) (sl : Array (Option Value)) (dd : Option Addr) (u : Tok) (c1 : (items.isEmpty || (0 : Int) == 1) = false) :
    Meets (Builtin.«tuple.__mul__» ⟨[.ref l, .int 0 u], []⟩) (fun _ R s => s.heap.get? l = some { cls := .type "tuple", dict := dd, data := .seq items n, slots := sl } ∧
      R (.ok (.ret (Value.ref s.heap.objs.size))) { s with heap := s.heap.push { cls := Value.type "tuple", data := Data.seq #[] }, toks := s.toks }) :=
  .of_wp fun prog w A R s h => by
    obtain ⟨hp, g, d, tk, os⟩ := s
    obtain ⟨hl, h⟩ := h
    have f1 := AutoSeq1.idx_int
    wp_walk using wpAny_loadPart' hl
    repeat (first
      | (refine wpAny_ite_false (decide_eq_false (by rw [c1]; exact Bool.false_ne_true)) ?_; wp_walk using wpAny_loadPart' hl))
    exact ⟨_, rfl, h⟩
def rRep1 (K : PySem.W.Frag) : R2 := fun x y H Q => ∃ l xs, x = .ref l ∧ y = .int 1 ∧ SqT K H l xs ∧ Q (.ref l) H
def rRep0 (K : PySem.W.Frag) : R2 := fun x y H Q => ∃ l xs, x = .ref l ∧ y = .int 0 ∧ SqT K H l xs ∧ xs ≠ [] ∧ ∀ p, H p = none → Q (.ref p) (upd H p (.tup []))
section
variable {X : Cx}
theorem op_rep1 : OpR X (binaryOp .Mult) (rRep1 X.K) := by
  intro pins s σ H x y v u Q I rx ry h
  obtain ⟨l, xs, rfl, rfl, hT, q⟩ := h
  cases rx
  obtain ⟨t, rfl⟩ := ry
  obtain ⟨its, r, ⟨⟨cls, dd, data, sl⟩, ho, hc, n, hd⟩, hs⟩ := I.tuple hT
  simp only at hc hd
  subst hc hd
  exact wpAny_binaryOp_repeat_ref (T := "tuple") (U := "int") (by decide) ⟨_, ho, rfl⟩ (fun s' => typeIs_int s' 1 t) noFill_tuple_mul F.fills_int_mul F.slot_int_rmul repeat_tuple F.slot_int_index.lookup
    (call_meets F.slot_int_rmul (typeIs_int s 1 t) F.entry_int_rmul (F.args_int_rmul_2 _ _) (int_rmul_tuple 1 t l its.toArray n dd sl)
      ⟨ho, rfl, ⟨_, ho, rfl⟩, call_meets F.slot_tuple_mul ⟨_, ho, rfl⟩ F.entry_tuple_mul (F.args_tuple_mul_2 _ _) (tuple_mul1 l its.toArray n sl dd t) ⟨ho, ⟨.ref l, H, I, rfl, q⟩⟩⟩)
theorem op_rep0 : OpR X (binaryOp .Mult) (rRep0 X.K) := by
  intro pins s σ H x y v u Q I rx ry h
  obtain ⟨l, xs, rfl, rfl, hT, hne, q⟩ := h
  cases rx
  obtain ⟨t, rfl⟩ := ry
  obtain ⟨its, r, ⟨⟨cls, dd, data, sl⟩, ho, hc, n, hd⟩, hs⟩ := I.tuple hT
  simp only at hc hd
  subst hc hd
  have hle : its.length = xs.length := r.length.symm
  have hi : its.toArray.isEmpty = false := by
    cases its with
    | nil => exact absurd (List.eq_nil_of_length_eq_zero hle.symm) hne
    | cons a b => rfl
  have c1 : (its.toArray.isEmpty || (0 : Int) == 1) = false := by rw [hi]; rfl
  refine wpAny_binaryOp_repeat_ref (T := "tuple") (U := "int") (by decide) ⟨_, ho, rfl⟩ (fun s' => typeIs_int s' 0 t) noFill_tuple_mul F.fills_int_mul F.slot_int_rmul repeat_tuple F.slot_int_index.lookup
    (call_meets F.slot_int_rmul (typeIs_int s 0 t) F.entry_int_rmul (F.args_int_rmul_2 _ _) (int_rmul_tuple 0 t l its.toArray n dd sl)
      ⟨ho, rfl, ⟨_, ho, rfl⟩, call_meets F.slot_tuple_mul ⟨_, ho, rfl⟩ F.entry_tuple_mul (F.args_tuple_mul_2 _ _) (tuple_mul0 l its.toArray n sl dd t c1) ⟨ho, ?_⟩⟩)
  refine ⟨.ref s.heap.objs.size, _, I.laid (t' := s.toks) (o := .tup []) (fun b ob q => Heap.get?_push_of_some _ q) (Nat.le_refl _) ?_, rfl, q _ (I.hok.fresh (Nat.le_refl _))⟩
  exact ⟨Nat.zero_le _, [], .nil, IsTup.new _ _⟩
end
mutual
inductive Dp2 (K : PySem.W.Frag) (H : Hp) : V → PyData → Prop
  | non : Dp2 K H .non .none
  | bl (b : Bool) : Dp2 K H (.bl b) (.bool b)
  | int (i : Int) : Dp2 K H (.int i) (.int i)
  | str (x : Str) : Dp2 K H (.str x) (.str x)
  | lst {a : Addr} {xs : List V} {ds : List PyData} : SqL K H a xs → Dp2All K H xs ds → Dp2 K H (.ref a) (.list ds)
  | tup {a : Addr} {xs : List V} {ds : List PyData} : SqT K H a xs → Dp2All K H xs ds → Dp2 K H (.ref a) (.tuple ds)
  | dic {a : Addr} : Rd H a (.dK []) → Dp2 K H (.ref a) (.dict [])
inductive Dp2All (K : PySem.W.Frag) (H : Hp) : List V → List PyData → Prop
  | nil : Dp2All K H [] []
  | cons {v : V} {vs : List V} {d : PyData} {ds : List PyData} : Dp2 K H v d → Dp2All K H vs ds → Dp2All K H (v :: vs) (d :: ds)
end
section
variable {X : Cx} {pins : List (Addr × Obj)} {σ : St} {H : Hp} {s : Shared}
mutual
theorem Dp2.reads (I : Inv X pins σ H s) : ∀ (d : PyData) (v : V) (u : Value), Dp2 X.K H v d → RelV v u → ∃ as, Reads s.heap u d as
  | .none, _, _, h, r => by
    cases h
    cases r
    exact ⟨_, Reads.none⟩
  | .bool b, _, _, h, r => by
    cases h
    cases r
    exact ⟨_, Reads.bool b⟩
  | .int i, _, _, h, r => by
    cases h
    obtain ⟨t, rfl⟩ := r
    exact ⟨_, Reads.int i t⟩
  | .str x, _, _, h, r => by
    cases h
    obtain ⟨t, rfl⟩ := r
    exact ⟨_, Reads.str x t⟩
  | .list ds, _, _, h, r => by
    cases h with
    | lst hs ha =>
      cases r
      obtain ⟨its, rv, ⟨o, n, ho, hc, _, hd⟩, _⟩ := I.list hs
      obtain ⟨as, hr⟩ := Dp2.readsAll I ds _ its ha rv
      exact ⟨_, Reads.list ho hc hd hr⟩
  | .tuple ds, _, _, h, r => by
    cases h with
    | tup hs ha =>
      cases r
      obtain ⟨its, rv, ⟨o, ho, hc, n, hd⟩, _⟩ := I.tuple hs
      obtain ⟨as, hr⟩ := Dp2.readsAll I ds _ its ha rv
      exact ⟨_, Reads.tuple ho hc hd hr⟩
  | .dict [], _, _, h, r => by
    cases h with
    | dic hd =>
      cases r
      obtain ⟨_, _, vs, kv, o, es, ep, ho, hx, hdat, _, hp, _⟩ := dk_rd I.hok hd
      have hv : vs = [] := by
        have := kv.length
        exact List.eq_nil_of_length_eq_zero this.symm
      subst hv
      have hes : es.toList = [] := List.eq_nil_of_length_eq_zero (by rw [hp.length]; rfl)
      refine ⟨_, Reads.dict (kvs := []) (as := []) (bs := []) ho hx.1 hdat ?_ ?_⟩
      · rw [hes]; exact ReadsAll.nil
      · rw [hes]; exact ReadsAll.nil
  | .dict (_ :: _), _, _, h, _ => by cases h
theorem Dp2.readsAll (I : Inv X pins σ H s) : ∀ (ds : List PyData) (vs : List V) (us : List Value), Dp2All X.K H vs ds → Vals vs us → ∃ as, ReadsAll s.heap us ds as
  | [], _, _, h, r => by
    cases h
    cases r
    exact ⟨_, ReadsAll.nil⟩
  | d :: ds, _, _, h, r => by
    cases h with
    | cons h1 h2 =>
      cases r with
      | cons r1 r2 =>
        obtain ⟨as, q1⟩ := Dp2.reads I d _ _ h1 r1
        obtain ⟨bs, q2⟩ := Dp2.readsAll I ds _ _ h2 r2
        exact ⟨_, ReadsAll.cons q1 q2⟩
end
end
open PySem.SeqAt (EqIn) in
theorem tuple_neIn {prog : Program} {w : World} (l b : Addr) (items items2 : Array Value) (n n2 : Nat) (dd dd2 : Option Addr) (sl sl2 : Array (Option Value)) (e : Nat → Bool) :
    MeetsIn prog w (Builtin.«tuple.__ne__» ⟨[.ref l, .ref b], []⟩)
      (fun A R s => s.heap.get? l = some { cls := .type "tuple", dict := dd, data := .seq items n, slots := sl } ∧ s.heap.get? b = some { cls := .type "tuple", dict := dd2, data := .seq items2 n2, slots := sl2 } ∧
        (∀ j (h1 : j < items.size) (h2 : j < items2.size), EqIn prog w A.in1 s items[j] items2[j] (e j)) ∧
        R (.ok (.ret (.bool (!((List.range (min items.size items2.size)).all e && items.size == items2.size))))) s) :=
  .of_wp fun A R s h => by
    obtain ⟨hp, g, d, tk, os⟩ := s; obtain ⟨hl, hb, he, h⟩ := h
    have f2 := AutoSeq1.sub_tuple_tuple
    have hZ : (items.toList.zip items2.toList).length = min items.size items2.size := by simp
    wp_walk using wpAny_loadPart' hl, wpAny_loadPart' hb, wpAny_forIn_list _ (fun rest b s' => b.1 = none ∧ s' = ⟨hp, g, d, tk, os⟩ ∧ ∃ i, rest = (items.toList.zip items2.toList).drop i ∧
      R (.ok (.ret (.bool (!(((List.range (min items.size items2.size)).drop i).all e && items.size == items2.size))))) ⟨hp, g, d, tk, os⟩) _
    case turn =>
      rintro ⟨y, x⟩ rest b s' ⟨hb', rfl, i, hz, hR⟩
      have hlt : i < (items.toList.zip items2.toList).length := by
        rcases Nat.lt_or_ge i (items.toList.zip items2.toList).length with h' | h'
        · exact h'
        · rw [List.drop_of_length_le h'] at hz; cases hz
      have hm : i < min items.size items2.size := hZ ▸ hlt
      have h1 : i < items.size := Nat.lt_of_lt_of_le hm (Nat.min_le_left _ _)
      have h2 : i < items2.size := Nat.lt_of_lt_of_le hm (Nat.min_le_right _ _)
      rw [List.drop_eq_getElem_cons hlt] at hz
      injection hz with hyx hrest
      have hy : y = items[i] := by have := congrArg Prod.fst hyx; simpa using this
      have hx : x = items2[i] := by have := congrArg Prod.snd hyx; simpa using this
      subst hy hx
      have hd : (List.range (min items.size items2.size)).drop i = i :: (List.range (min items.size items2.size)).drop (i + 1) := by simp [List.drop_eq_getElem_cons, hm]
      rw [hd, List.all_cons] at hR
      refine wpAny_bind (he i h1 h2 _ _ ?_)
      cases hy : e i with
      | true =>
        rw [hy] at hR
        wp_walk
        exact ⟨rfl, rfl, i + 1, hrest, by simpa using hR⟩
      | false =>
        rw [hy] at hR
        wp_walk
        exact ⟨_, rfl, by simpa using hR⟩
    case fin =>
      rintro ⟨b1, b2⟩ s' ⟨hb', rfl, i, hz, hR⟩
      simp only at hb'
      subst hb'
      have hge : min items.size items2.size ≤ i := by
        rcases Nat.lt_or_ge i (items.toList.zip items2.toList).length with h' | h'
        · rw [List.drop_eq_getElem_cons h'] at hz; cases hz
        · exact hZ ▸ h'
      rw [List.drop_of_length_le (by simpa using hge)] at hR
      wp_walk
      exact ⟨_, rfl, by simpa [Builtin.Tuple.tupleCompareSizes, bne] using hR⟩
    case h =>
      exact ⟨rfl, rfl, 0, rfl, by simpa using h⟩
open PySem.SeqAt (EqIn) in
theorem rcNeIn_tuples {prog : Program} {w : World} {A : Around} {E : Value → Shared → Prop} {s : Shared} {l b : Addr} {items items2 : Array Value} {e : Nat → Bool} {Q : Value → Shared → Prop} (hl : s.heap.IsTuple l items) (hb : s.heap.IsTuple b items2) (hu : A.units < cLine)
    (he : ∀ j (h1 : j < items.size) (h2 : j < items2.size), EqIn prog w A.in1 s items[j] items2[j] (e j)) (h : Q (.bool (!((List.range (min items.size items2.size)).all e && items.size == items2.size))) s) :
    wpAny (model prog w) A (richCompare .NotEq (.ref l) (.ref b)) Q E s := by
  obtain ⟨⟨cls, dd, data, sl⟩, ho, hc, n, hd⟩ := id hl
  obtain ⟨⟨cls2, dd2, data2, sl2⟩, ho2, hc2, n2, hd2⟩ := id hb
  simp only at hc hd hc2 hd2
  subst hc hd hc2 hd2
  exact wpAny_richCompare_same_room (T := "tuple") (op := .NotEq) ⟨_, ho, rfl⟩ ⟨_, ho2, rfl⟩ F.slot_tuple_ne (call_meetsIn F.slot_tuple_ne ⟨_, ho, rfl⟩ F.entry_tuple_ne (F.args_tuple_ne_2 _ _) (tuple_neIn l b items items2 n n2 dd dd2 sl sl2 e)
    ⟨ho, ho2, he, show Value.bool (!((List.range (min items.size items2.size)).all e && items.size == items2.size)) ≠ Value.notImplemented ∧ Q (.bool (!((List.range (min items.size items2.size)).all e && items.size == items2.size))) s from ⟨(fun x => nomatch x), h⟩⟩) hu
section
variable {X : Cx} {pins : List (Addr × Obj)} {σ : St} {H : Hp} {s : Shared}
theorem samePs_len : ∀ {ds es : List PyData}, MP.samePs ds es = true → ds.length = es.length
  | [], [], _ => rfl
  | [], _ :: _, h => by simp [MP.samePs] at h
  | _ :: _, [], h => by simp [MP.samePs] at h
  | d :: ds, e :: es, h => by
    have h2 : MP.sameP d e = true ∧ MP.samePs ds es = true := by simpa [MP.samePs] using h
    simp [samePs_len h2.2]
theorem Dp2All.len {K : PySem.W.Frag} {H : Hp} : ∀ {ds : List PyData} {vs : List V}, Dp2All K H vs ds → vs.length = ds.length
  | [], _, h => by cases h; rfl
  | _ :: ds, _, h => by
    cases h with
    | cons _ t => simp [t.len]
theorem all_true {n : Nat} {f : Nat → Bool} (h : ∀ j, f j = true) : (List.range n).all f = true := by simp [h]
mutual
theorem same_tree (I : Inv X pins σ H s) : ∀ (d e : PyData) (v y : V) (u z : Value) (n : Nat), MP.sameP d e = true → MP.dpP d ≤ n → Dp2 X.K H v d → Dp2 X.K H y e → RelV v u → RelV y z → PySem.W.EqTree X.prog X.w s n u z true
  | .none, e, v, y, u, z, n, h, hn, h1, h2, r1, r2 => by
    cases e <;> first | (simp [MP.sameP] at h; done) | skip
    cases h1; cases h2; cases r1; cases r2
    exact .same
  | .bool a, e, v, y, u, z, n, h, hn, h1, h2, r1, r2 => by
    cases e <;> first | (simp [MP.sameP] at h; done) | skip
    rename_i b
    have e1 : a = b := by simpa [MP.sameP] using h
    subst e1
    cases h1; cases h2; cases r1; cases r2
    exact .same
  | .int a, e, v, y, u, z, n, h, hn, h1, h2, r1, r2 => by
    cases e <;> first | (simp [MP.sameP] at h; done) | skip
    rename_i b
    have e1 : a = b := by simpa [MP.sameP] using h
    subst e1
    obtain ⟨as, q1⟩ := Dp2.reads I _ _ _ h1 r1
    obtain ⟨bs, q2⟩ := Dp2.reads I _ _ _ h2 r2
    refine .leaf fun A hu => ?_
    have q := PySem.SeqAt.eqAt_reads (.int a) (.int a) A s u z _ _ q1 q2 rfl rfl (by simp [PyData.depth]; omega)
    simpa [PyData.eqv] using q
  | .str a, e, v, y, u, z, n, h, hn, h1, h2, r1, r2 => by
    cases e <;> first | (simp [MP.sameP] at h; done) | skip
    rename_i b
    have e1 : a = b := by simpa [MP.sameP] using h
    subst e1
    cases h1
    cases h2
    obtain ⟨t1, rfl⟩ := r1
    obtain ⟨t2, rfl⟩ := r2
    refine .leaf fun A hu => ?_
    have q := PySem.SeqAt.EqAt.str_str (A := A) (s := s) a t1 a t2
    simpa using q
  | .list ds, e, v, y, u, z, n, h, hn, h1, h2, r1, r2 => by
    cases e <;> first | (simp [MP.sameP] at h; done) | skip
    rename_i es
    have hs : MP.samePs ds es = true := by simpa [MP.sameP] using h
    cases h1 with
    | @lst x1 _ _ s1 a1 =>
      cases h2 with
      | @lst x3 _ _ s2 a2 =>
        cases r1
        cases r2
        obtain ⟨i1, v1, t1, _⟩ := I.list s1
        obtain ⟨i2, v2, t2, _⟩ := I.list s2
        obtain ⟨m, rfl⟩ : ∃ m, n = m + 1 := ⟨n - 1, by simp [MP.dpP] at hn; omega⟩
        have hsz : i1.length = i2.length := by rw [← v1.length, ← v2.length, a1.len, a2.len, samePs_len hs]
        by_cases hne : x1 = x3
        · subst hne; exact .same
        · have q := PySem.W.EqTree.lists (prog := X.prog) (w := X.w) (n := m) (e := fun _ => true) hne (let ⟨o, n, g1, g2, _, g3⟩ := t1; ⟨o, g1, g2, n, g3⟩) (let ⟨o, n, g1, g2, _, g3⟩ := t2; ⟨o, g1, g2, n, g3⟩) (by simpa using hsz) (fun j j1 j2 => same_trees I ds es _ _ i1 i2 m hs (by simp [MP.dpP] at hn; omega) a1 a2 v1 v2 j (by simpa using j1) (by simpa using j2))
          rw [all_true (fun _ => rfl)] at q
          exact q
  | .tuple ds, e, v, y, u, z, n, h, hn, h1, h2, r1, r2 => by
    cases e <;> first | (simp [MP.sameP] at h; done) | skip
    rename_i es
    have hs : MP.samePs ds es = true := by simpa [MP.sameP] using h
    cases h1 with
    | @tup x1 _ _ s1 a1 =>
      cases h2 with
      | @tup x3 _ _ s2 a2 =>
        cases r1
        cases r2
        obtain ⟨i1, v1, t1, _⟩ := I.tuple s1
        obtain ⟨i2, v2, t2, _⟩ := I.tuple s2
        obtain ⟨m, rfl⟩ : ∃ m, n = m + 1 := ⟨n - 1, by simp [MP.dpP] at hn; omega⟩
        have hsz : i1.length = i2.length := by rw [← v1.length, ← v2.length, a1.len, a2.len, samePs_len hs]
        by_cases hne : x1 = x3
        · subst hne; exact .same
        · have q := PySem.W.EqTree.tuples (prog := X.prog) (w := X.w) (n := m) (e := fun _ => true) hne t1 t2 (fun j j1 j2 => same_trees I ds es _ _ i1 i2 m hs (by simp [MP.dpP] at hn; omega) a1 a2 v1 v2 j (by simpa using j1) (by simpa using j2))
          rw [all_true (fun _ => rfl)] at q
          simpa [hsz] using q
  | .dict [], e, v, y, u, z, n, h, hn, h1, h2, r1, r2 => by
    cases e <;> first | (simp [MP.sameP] at h; done) | skip
    rename_i es
    cases es with
    | cons _ _ => simp [MP.sameP] at h
    | nil =>
      cases h1 with
      | @dic x1 d1 =>
        cases h2 with
        | @dic x2 d2 =>
          cases r1
          cases r2
          obtain ⟨_, la, va, ra, da⟩ := dk_rd I.hok d1
          obtain ⟨_, lb, vb, rb, db⟩ := dk_rd I.hok d2
          have ea : va = [] := List.eq_nil_of_length_eq_zero ra.length.symm
          have eb : vb = [] := List.eq_nil_of_length_eq_zero rb.length.symm
          subst ea eb
          obtain ⟨m, rfl⟩ : ∃ m, n = m + 1 := ⟨n - 1, by simp [MP.dpP] at hn; omega⟩
          by_cases hne : x1 = x2
          · subst hne; exact .same
          · exact PySem.W.EqTree.dicts (prog := X.prog) (w := X.w) (n := m) (e := fun _ => true) hne la lb da db (fun k v y hm => by cases hm)
  | .dict (_ :: _), e, v, y, u, z, n, h, hn, h1, h2, r1, r2 => by cases h1
theorem same_trees (I : Inv X pins σ H s) : ∀ (ds es : List PyData) (vs ys : List V) (us zs : List Value) (n : Nat), MP.samePs ds es = true → MP.dpPs ds ≤ n → Dp2All X.K H vs ds → Dp2All X.K H ys es → Vals vs us → Vals ys zs →
    ∀ (j : Nat) (j1 : j < us.length) (j2 : j < zs.length), PySem.W.EqTree X.prog X.w s n us[j] zs[j] true
  | [], _, _, _, _, _, n, h, hn, h1, h2, r1, r2, j, j1, j2 => by
    cases h1
    cases r1
    simp at j1
  | d :: ds, es, vs, ys, us, zs, n, h, hn, h1, h2, r1, r2, j, j1, j2 => by
    cases es with
    | nil => simp [MP.samePs] at h
    | cons e es =>
      have hs : MP.sameP d e = true ∧ MP.samePs ds es = true := by simpa [MP.samePs] using h
      have hd : MP.dpP d ≤ n ∧ MP.dpPs ds ≤ n := by simp [MP.dpPs] at hn; omega
      cases h1 with
      | cons a1 b1 =>
        cases h2 with
        | cons a2 b2 =>
          cases r1 with
          | cons p1 q1 =>
            cases r2 with
            | cons p2 q2 =>
              cases j with
              | zero => exact same_tree I d e _ _ _ _ n hs.1 hd.1 a1 a2 p1 p2
              | succ j => exact same_trees I ds es _ _ _ _ n hs.2 hd.2 b1 b2 q1 q2 j (by simpa using j1) (by simpa using j2)
end
end
section
variable {X : Cx}
def rEqD2 (K : PySem.W.Frag) : R2 := fun x y H Q => ∃ d e, Dp2 K H x d ∧ Dp2 K H y e ∧ MP.isTupP d = true ∧ MP.sameP d e = true ∧ MP.dpP d ≤ 60 ∧ Q (.bl true) H
def rNeD2 (K : PySem.W.Frag) : R2 := fun x y H Q => ∃ d e, Dp2 K H x d ∧ Dp2 K H y e ∧ MP.isTupP d = true ∧ MP.sameP d e = true ∧ MP.dpP d ≤ 60 ∧ Q (.bl false) H
theorem tup_two {K : PySem.W.Frag} {H : Hp} {x y : V} {d e : PyData} (t : MP.isTupP d = true) (h : MP.sameP d e = true) (h1 : Dp2 K H x d) (h2 : Dp2 K H y e) :
    ∃ (a b : Addr) (xs ys : List V) (ds es : List PyData), x = .ref a ∧ y = .ref b ∧ d = .tuple ds ∧ e = .tuple es ∧ SqT K H a xs ∧ SqT K H b ys ∧ Dp2All K H xs ds ∧ Dp2All K H ys es ∧ MP.samePs ds es = true := by
  cases h1 with
  | tup s1 a1 =>
    cases e <;> first | (simp [MP.sameP] at h; done) | skip
    cases h2 with
    | tup s2 a2 => exact ⟨_, _, _, _, _, _, rfl, rfl, rfl, rfl, s1, s2, a1, a2, by simpa [MP.sameP] using h⟩
  | _ => cases t
theorem op_eqD2 (hu : X.A.units + 64 < cLine) : OpR X (compareOp .Eq) (rEqD2 X.K) := by
  intro pins s σ H x y v u Q I rx ry h
  obtain ⟨d, e, hd, he, ht, hs, hp, q⟩ := h
  obtain ⟨a, b, xs, ys, ds, es, rfl, rfl, rfl, rfl, s1, s2, a1, a2, hss⟩ := tup_two ht hs hd he
  cases rx
  cases ry
  obtain ⟨i1, v1, t1, _⟩ := I.tuple s1
  obtain ⟨i2, v2, t2, _⟩ := I.tuple s2
  have hsz : i1.length = i2.length := by rw [← v1.length, ← v2.length, a1.len, a2.len, samePs_len hss]
  refine PySem.W.eq_tuplesT (n := 60) (e := fun _ => true) t1 t2 (fun j j1 j2 => same_trees I ds es _ _ i1 i2 60 hss (by simp [MP.dpP] at hp; omega) a1 a2 v1 v2 j (by simpa using j1) (by simpa using j2)) (by omega) ?_
  rw [all_true (fun _ => rfl)]
  refine ⟨.bl _, H, I, rfl, ?_⟩
  simpa [hsz] using q
theorem op_neD2 (hu : X.A.units + 64 < cLine) : OpR X (compareOp .NotEq) (rNeD2 X.K) := by
  intro pins s σ H x y v u Q I rx ry h
  obtain ⟨d, e, hd, he, ht, hs, hp, q⟩ := h
  obtain ⟨a, b, xs, ys, ds, es, rfl, rfl, rfl, rfl, s1, s2, a1, a2, hss⟩ := tup_two ht hs hd he
  cases rx
  cases ry
  obtain ⟨i1, v1, t1, _⟩ := I.tuple s1
  obtain ⟨i2, v2, t2, _⟩ := I.tuple s2
  have hsz : i1.length = i2.length := by rw [← v1.length, ← v2.length, a1.len, a2.len, samePs_len hss]
  refine rcNeIn_tuples (prog := X.prog) (w := X.w) (e := fun _ => true) t1 t2 (by omega) (fun j j1 j2 => (same_trees I ds es _ _ i1 i2 60 hss (by simp [MP.dpP] at hp; omega) a1 a2 v1 v2 j (by simpa using j1) (by simpa using j2)).at X.A.in1 (by show X.A.units + 1 + _ < cLine; omega)) ?_
  rw [all_true (fun _ => rfl)]
  refine ⟨.bl _, H, I, rfl, ?_⟩
  simpa [hsz] using q
end
section
variable {X : Cx}
def rEqL0 (K : PySem.W.Frag) (r : Bool) : R2 := fun x y H Q => ∃ d ds, Dp2 K H x (.list (d :: ds)) ∧ Dp2 K H y (.list []) ∧ Q (.bl r) H
theorem op_eqL0 (hu : X.A.units < cLine) : OpR X (compareOp .Eq) (rEqL0 X.K false) := by
  intro pins s σ H x y v u Q I rx ry h
  obtain ⟨d, ds, h1, h2, q⟩ := h
  cases h1 with
  | lst s1 a1 =>
    cases h2 with
    | lst s2 a2 =>
      cases rx
      cases ry
      obtain ⟨i1, v1, ⟨o1, n1, g1, g2, _, g3⟩, _⟩ := I.list s1
      obtain ⟨i2, v2, ⟨o2, n2, k1, k2, _, k3⟩, _⟩ := I.list s2
      have e1 : i1.length = (d :: ds).length := by rw [← v1.length, a1.len]
      have e2 : i2.length = 0 := by rw [← v2.length, a2.len]; rfl
      refine PySem.SeqAt.RcAt.lists_lengths (A := X.A) (s := s) ⟨o1, g1, g2, n1, g3⟩ ⟨o2, k1, k2, n2, k3⟩ (by simp only [List.size_toArray, e1, e2]; rfl) hu _ _ _ _ ⟨.bl _, H, I, rfl, q⟩
theorem op_neL0 (hu : X.A.units < cLine) : OpR X (compareOp .NotEq) (rEqL0 X.K true) := by
  intro pins s σ H x y v u Q I rx ry h
  obtain ⟨d, ds, h1, h2, q⟩ := h
  cases h1 with
  | lst s1 a1 =>
    cases h2 with
    | lst s2 a2 =>
      cases rx
      cases ry
      obtain ⟨i1, v1, ⟨o1, n1, g1, g2, _, g3⟩, _⟩ := I.list s1
      obtain ⟨i2, v2, ⟨o2, n2, k1, k2, _, k3⟩, _⟩ := I.list s2
      have e1 : i1.length = (d :: ds).length := by rw [← v1.length, a1.len]
      have e2 : i2.length = 0 := by rw [← v2.length, a2.len]; rfl
      refine PySem.SeqAt.RcNeAt.lists_lengths (A := X.A) (s := s) ⟨o1, g1, g2, n1, g3⟩ ⟨o2, k1, k2, n2, k3⟩ (by simp only [List.size_toArray, e1, e2]; rfl) hu _ _ _ _ ⟨.bl _, H, I, rfl, q⟩
end
section
variable {X : Cx} {pins : List (Addr × Obj)} {σ : St} {H : Hp} {s : Shared} {a : Addr}
theorem vals_set {v : V} {r : Value} (rv : RelV v r) : ∀ {xs : List V} {us : List Value} (i : Nat), Vals xs us → Vals (xs.set i v) (us.set i r)
  | _, _, _, .nil => .nil
  | _, _, 0, .cons _ t => .cons rv t
  | _, _, i + 1, .cons q t => .cons q (vals_set rv i t)
theorem l_setItem {xs : List V} {i : Nat} {t : Tok} {v : V} {r : Value} {Q : Unit → Shared → Prop} (I : Inv X pins σ H s) (e : H a = some (.lst xs)) (hi : i < xs.length) (rv : RelV v r) (h : ∀ s', Inv X pins σ (upd H a (.lst (xs.set i v))) s' → Q () s') :
    wpAny (model X.prog X.w) X.A (setItem (.ref a) (.int (i : Nat) t) r) Q X.xe s := by
  obtain ⟨hz, its, n, rs, ho⟩ := (show ObjOk X.prog X.w H s.heap a (.lst xs) from I.hok a _ e)
  have hl := rs.length
  have hb : (i : Int) < 2 ^ 63 := by
    have : (sizeLine : Nat) = 16777216 := by decide
    omega
  refine PySem.W.ki_setAt (n := n) (items := its.toArray) ho (by omega) hb (by rw [List.size_toArray]; omega) (h _ ?_)
  have hs : Heap.SameBut a s.heap (s.heap.update a (Obj.mapSeq (·.setIfInBounds ((i : Nat) : Int).toNat r))) := Heap.SameBut.update ..
  have hu := PySem.IsL.update (items := its.toArray) (n := n) ho (·.setIfInBounds ((i : Nat) : Int).toNat r)
  have ea : its.toArray.setIfInBounds ((i : Nat) : Int).toNat r = (its.set i r).toArray := by
    rw [Int.toNat_natCast]; simp
  rw [ea] at hu
  refine I.write (t' := s.toks) (x := a) (e := a) (by rw [e]; trivial) (.inl rfl) (fun b q hb z => (hs.2 b hb).trans z) ⟨_, hu⟩ ?_
  exact ⟨by rw [List.length_set]; exact hz, its.set i r, _, vals_set rv i rs, hu⟩
def sLPut (td ty tv : TE) : TS := fun D σ H => tv σ H fun v H1 => td σ H1 fun x H2 => ty σ H2 fun y H3 => ∃ (a : Addr) (xs : List V) (i : Nat), x = .ref a ∧ y = .int (i : Int) ∧ H3 a = some (.lst xs) ∧ i < xs.length ∧ D.nx σ (upd H3 a (.lst (xs.set i v)))
theorem ps_lput {o i value : Expr} {pos pos' : Pos} {td ty tv : TE} (ho : PE X o td) (hi : PE X i ty) (hv : PE X value tv) (hs : swapsWith value (some (.Subscript o i pos')) pos.line X.env = pure false) :
    PS X (.Assign [.Subscript o i pos'] value pos) (sLPut td ty tv) := by
  refine ⟨fun pins s σ H D I h => ?_⟩
  refine wpAny_Assign_Subscript (thn (hv.run pins s σ H _ I h) fun r s1 ⟨v, H1, I1, rv, q1⟩ => thn (ho.run pins s1 σ H1 _ I1 q1) fun u s2 ⟨x, H2, I2, rx, q2⟩ => thn (hi.run pins s2 σ H2 _ I2 q2) fun iv s3 ⟨y, H3, I3, ry, a, xs, k, ex, ey, g, hk, q3⟩ => ?_) hs
  subst ex ey
  obtain rfl : u = Value.ref a := rx
  obtain ⟨t, rfl⟩ := ry
  exact l_setItem I3 g hk rv fun s4 I4 => ⟨σ, _, I4, q3⟩
end
end L2
set_option maxRecDepth 100000
set_option maxHeartbeats 4000000
set_option autoImplicit false
namespace MP
open PySem L2
section
variable {X : Cx}
theorem pe_imp {e : Expr} {t t' : TE} (h : PE X e t) (i : ∀ σ H Q, t' σ H Q → t σ H Q) : PE X e t' := ⟨fun pins s σ H Q I q => h.run pins s σ H Q I (i σ H Q q)⟩
theorem pt_imp {e : Expr} {t t' : TT} (h : PT X e t) (i : ∀ σ H Q, t' σ H Q → t σ H Q) : PT X e t' := ⟨fun pins s σ H Q I q => h.run pins s σ H Q I (i σ H Q q)⟩
theorem opF {f : Value → Value → Sem Value} : OpR X f (fun _ _ _ _ => False) := fun _ _ _ _ _ _ _ _ _ _ _ _ h => h.elim
theorem S_app (a b : List Nat) : S a ++ S b = S (a ++ b) := by
  have e : tl (S a ++ S b) = a ++ b := by
    show (S a ++ S b).cps.toList = _
    show ((S a).cps ++ (S b).cps).toList = _
    simp [S]
  rw [← S_tl (S a ++ S b), e]
theorem toPy_plain : ∀ (d : D), d.flat = true → d.toPy.plain = true := fun d h => go d h
where
  go : ∀ (d : D), d.flat = true → d.toPy.plain = true
  | .non, _ => rfl
  | .bl _, _ => rfl
  | .int _, _ => rfl
  | .str _, _ => rfl
  | .tup l, h => by
    rw [D.toPy, PyData.plain]
    exact gos l (by simpa [D.flat] using h)
  | .lst l, h => by
    rw [D.toPy, PyData.plain]
    exact gos l (by simpa [D.flat] using h)
  | .dic _, h => by simp [D.flat] at h
  | .obj _, h => by simp [D.flat] at h
  | .exc _, h => by simp [D.flat] at h
  gos : ∀ (l : List D), D.flats l = true → PyData.plainAll (D.toPys l) = true
  | [], _ => rfl
  | d :: l, h => by
    simp [D.flats] at h
    rw [D.toPys, PyData.plainAll, go d h.1, gos l h.2]
    rfl
theorem toPy_dep : ∀ (d : D), d.toPy.depth = d.dep := fun d => go d
where
  go : ∀ (d : D), d.toPy.depth = d.dep
  | .non => rfl
  | .bl _ => rfl
  | .int _ => rfl
  | .str _ => rfl
  | .tup l => by rw [D.toPy, PyData.depth, gos l, D.dep]
  | .lst l => by rw [D.toPy, PyData.depth, gos l, D.dep]
  | .dic _ => rfl
  | .obj _ => rfl
  | .exc _ => rfl
  gos : ∀ (l : List D), PyData.depthAll (D.toPys l) = D.deps l
  | [] => rfl
  | d :: l => by rw [D.toPys, PyData.depthAll, go d, gos l, D.deps]
theorem toPys_map : ∀ l : List D, D.toPys l = l.map D.toPy
  | [] => rfl
  | d :: l => by rw [D.toPys, toPys_map l]; rfl
theorem addS (l : Addr) (items : Array Value) (n : Nat) (sl : Array (Option Value)) (b : Addr) (items2 : Array Value) (n2 : Nat) (sl2 : Array (Option Value)) (hc0 : items.size + items2.size ≤ sizeLine) :
    Meets (Builtin.«list.__add__» ⟨[.ref l, .ref b], []⟩) (fun _ R s => s.heap.get? l = some { cls := .type "list", dict := none, data := .seq items n, slots := sl } ∧ s.heap.get? b = some { cls := .type "list", dict := none, data := .seq items2 n2, slots := sl2 } ∧ R (.ok (.ret (Value.ref s.heap.objs.size))) { s with heap := s.heap.push { cls := Value.type "list", data := Data.seq (items ++ items2) }, toks := s.toks }) :=
  .of_wp fun prog w A R s h => by obtain ⟨hp, g, d, tk, os⟩ := s; obtain ⟨hl, hb, h⟩ := h; have f1 := AutoSeq1.idx_int; have f2 := AutoSeq1.sub_tuple_tuple; have f3 := AutoSeq1.sub_list_list; have f4 := AutoSeq1.sub_tuple_list; have f5 := AutoSeq1.sub_list_tuple; wp_walk using AutoSeq1.wpAny_loadPart' hl, AutoSeq1.wpAny_loadPart' hb; exact ⟨_, rfl, h⟩
section
variable {prog : Program} {w : World} {A : Around} {s : Shared} {E : Value → Shared → Prop} {l b : Addr} {items items2 : Array Value} {n n2 : Nat} {sl sl2 : Array (Option Value)}
theorem add_listS {Q : Value → Shared → Prop} (hl : s.heap.get? l = some { cls := .type "list", dict := none, data := .seq items n, slots := sl }) (hb : s.heap.get? b = some { cls := .type "list", dict := none, data := .seq items2 n2, slots := sl2 })
    (h : Q (.ref s.heap.objs.size) { s with heap := s.heap.push { cls := .type "list", data := .seq (items ++ items2) } }) (hsz : items.size + items2.size ≤ sizeLine) : wpAny (model prog w) A (binaryOp .Add (.ref l) (.ref b)) Q E s :=
  PySem.concat_meets ⟨_, hl, rfl⟩ ⟨_, hb, rfl⟩ PySem.noFill_list_add PySem.seq_list_add PySem.F.slot_list_add PySem.F.entry_list_add (PySem.F.args_list_add_2 _ _) (addS l items n sl b items2 n2 sl2 hsz) ⟨hl, hb, h⟩
end
def rCatL (K : PySem.W.Frag) : R2 := fun x y H Q => ∃ l b xs zs, x = .ref l ∧ y = .ref b ∧ SqL K H l xs ∧ SqL K H b zs ∧ xs.length + zs.length ≤ sizeLine ∧ ∀ p, H p = none → Q (.ref p) (upd H p (.lst (xs ++ zs)))
theorem op_catL : OpR X (binaryOp .Add) (rCatL X.K) := by
  intro pins s σ H x y v u Q I rx ry h
  obtain ⟨l, b, xs, zs, rfl, rfl, hH, hB, hz, q⟩ := h
  cases rx
  cases ry
  obtain ⟨its, r, ⟨⟨oc, od, oda, osl⟩, n, e, c1, c2, c3⟩, z⟩ := I.list hH
  obtain ⟨its2, r2, ⟨⟨oc2, od2, oda2, osl2⟩, n2, e2, d1, d2, d3⟩, z2⟩ := I.list hB
  cases c1
  cases c2
  cases c3
  cases d1
  cases d2
  cases d3
  refine add_listS e e2 ?_ (by rw [List.size_toArray, List.size_toArray]; have := r.length; have := r2.length; omega)
  have ea : its.toArray ++ its2.toArray = (its ++ its2).toArray := by simp
  rw [ea]
  exact ⟨.ref _, _, I.lnew (t' := s.toks) (r.append r2) (by rw [List.length_append]; omega), rfl, q _ I.fresh⟩
theorem fold_app (x : Array Nat) : ∀ (n : Nat) (a : Array Nat), ((List.replicate n x).foldl (· ++ ·) a).toList = a.toList ++ (List.replicate n x.toList).flatten
  | 0, a => by simp
  | n + 1, a => by
    rw [List.replicate_succ, List.foldl_cons, fold_app x n, Array.toList_append, List.replicate_succ, List.flatten_cons, List.append_assoc]
theorem tl_mul (a : List Nat) (k : Int) (hk : 0 ≤ k) : Txt.mul (S a) k = S ((List.replicate k.toNat a).flatten) := by
  have ext : ∀ x y : Str, tl x = tl y → x = y := fun x y h => by rw [← S_tl x, ← S_tl y, h]
  apply ext
  unfold Txt.mul
  split
  · have e : k.toNat = 0 := by omega
    rw [e]
    rfl
  · split
    · rename_i h1 h2
      rw [tl_S, tl_S]
      simp only [Bool.or_eq_true, beq_iff_eq] at h2
      rcases h2 with h2 | h2
      · rw [h2]; simp
      · rw [S_len] at h2
        have : a = [] := List.eq_nil_of_length_eq_zero h2
        subst this
        have : ∀ n : Nat, (List.replicate n ([] : List Nat)).flatten = [] := fun n => by
          induction n with
          | zero => rfl
          | succ n ih => rw [List.replicate_succ, List.flatten_cons, ih]; rfl
        rw [this]
    · show (Array.toList _) = _
      have := fold_app (S a).cps k.toNat #[]
      rw [tl_S]
      simpa [S] using this
def rMulS : R2 := fun x y H Q => ∃ a k, x = .str (S a) ∧ y = .int k ∧ 0 ≤ k ∧ k < 2 ^ 62 ∧ a.length * k.toNat ≤ 10000 ∧ Q (.str (S ((List.replicate k.toNat a).flatten))) H
theorem op_mulS : OpR X (binaryOp .Mult) rMulS := by
  intro pins s σ H x y v u Q I rx ry h
  obtain ⟨a, k, rfl, rfl, hk, hk2, hz, q⟩ := h
  obtain ⟨t, rfl⟩ := rx
  obtain ⟨t', rfl⟩ := ry
  have ok : MulOk (S a) k := by
    refine ⟨?_, fun h1 h2 => ?_, fun h1 h2 => ?_⟩
    · rw [Bool.or_eq_false_iff]
      exact ⟨decide_eq_false (by omega), decide_eq_false (by omega)⟩
    · rw [S_len]
      have h3 : (a.length : Int) * k ≤ 10000 := by
        have : ((a.length * k.toNat : Nat) : Int) ≤ 10000 := by omega
        rw [Int.natCast_mul, Int.toNat_of_nonneg hk] at this
        exact this
      intro h4
      have h5 : (2 ^ 63 - 1) / k < (a.length : Int) := h4
      have h6 := (Int.ediv_lt_iff_lt_mul (by omega)).mp h5
      omega
    · rw [S_len]
      unfold Builtin.Str.tooLong
      have : sizeLine = 16777216 := by decide
      exact decide_eq_false (by omega)
  refine PySem.SB.mul ok fun t2 k2 => ?_
  rw [tl_mul a k hk]
  exact ⟨.str _, H, { I.tok k2 with }, ⟨_, rfl⟩, q⟩
def opOf : BOp → Operator
  | .add => .Add | .sub => .Sub | .mul => .Mult | .fdiv => .FloorDiv | .mod => .Mod | .pow => .Pow
end
section
variable {X : Cx} {c : Cn} {W : WX} {ba bb : Bool} {ea eb : E} {x y : Expr} {pos : Pos}
theorem sd {n : Nat} (h : n ≤ sizeD) : n ≤ sizeLine := h
theorem pe_op2 {op : Operator} {e : E} {f : D → D → Option D} (he : ∀ ρ m, evE c.cfg e ρ m = (evE c.cfg ea ρ m).bind fun x m1 => (evE c.cfg eb ρ m1).bind fun y m2 => .opt (f x y) m2) (ha : PE X x (TEr c W ba ea)) (hb : PE X y (TEr c W bb eb))
    (rule : ∀ a b z, f a b = some z → ∃ r : R2, OpR X (binaryOp op) r ∧ ∀ (G : Addr → Prop) (L : Lay) (m : Mu) (ρ : Env') (σ : L2.St) (H : Hp) (Q : VK) (v w : V), ESt c.K c.own G L m ρ σ H → RB c.K ba G L H v a → RB c.K bb G L H w b → Pst c W false G L σ H Q (.ok z m) → r v w H Q) :
    PE X (.BinOp x op y pos) (TEr c W false e) := by
  refine ⟨fun pins s σ H Q I h => ?_⟩
  obtain ⟨G, L, m, ρ, E, h⟩ := h
  rw [he] at h
  by_cases hz : ∃ a m1 b m2 z, evE c.cfg ea ρ m = .ok a m1 ∧ evE c.cfg eb ρ m1 = .ok b m2 ∧ f a b = some z
  · obtain ⟨a, m1, b, m2, z, e1, e2, e3⟩ := hz
    obtain ⟨r, hr, k⟩ := rule a b z e3
    refine (pe_op hr ha hb).run pins s σ H Q I ?_
    refine TEr.bind E h fun a' m1' v H1 L1 q1 s1 E1 r1 h1 => ?_
    rw [e1] at q1
    cases q1
    refine TEr.bind E1 h1 fun b' m2' w H2 L2 q2 s2 E2 r2 h2 => ?_
    rw [e2] at q2
    cases q2
    rw [e3] at h2
    exact k G L2 _ ρ σ H2 Q v w E2 (r1.step E1 s2) r2 h2
  · refine (pe_op opF ha hb).run pins s σ H Q I ?_
    refine TEr.bind E h fun a' m1' v H1 L1 q1 s1 E1 r1 h1 => ?_
    refine TEr.bind E1 h1 fun b' m2' w H2 L2 q2 s2 E2 r2 h2 => ?_
    cases e3 : f a' b' with
    | none => rw [e3] at h2; exact h2
    | some z => exact hz ⟨_, _, _, _, _, q1, q2, e3⟩
theorem mulOk_or {i j : Int} (h : mulOk i j = true) : CMul i j ∨ CMulW i j := by
  unfold mulOk at h
  simp only [Bool.or_eq_true, decide_eq_true_eq] at h
  rcases h with (h | h) | h
  · exact .inl (.inl ⟨by omega, by omega⟩)
  · exact .inl (.inr ⟨by omega, by omega⟩)
  · exact .inr h
theorem reps_rep {K : PySem.W.Frag} {A : Nat → Option Addr} {H : Hp} {vs : List V} {ds : List D} (r : Reps K A H vs ds) : ∀ n : Nat, Reps K A H (List.replicate n vs).flatten (List.replicate n ds).flatten
  | 0 => .nil
  | n + 1 => by
    rw [List.replicate_succ, List.replicate_succ, List.flatten_cons, List.flatten_cons]
    exact r.append (reps_rep r n)
theorem rep_flat {α : Type} (a : List α) : ∀ n : Nat, (List.replicate n a).flatten.length = a.length * n
  | 0 => rfl
  | n + 1 => by rw [List.replicate_succ, List.flatten_cons, List.length_append, rep_flat a n, Nat.mul_succ, Nat.add_comm]
theorem bin_rule (o : BOp) (a b z : D) (h : binD o a b = some z) : ∃ r : R2, OpR X (binaryOp (opOf o)) r ∧ ∀ (G : Addr → Prop) (L : Lay) (m : Mu) (ρ : Env') (σ : L2.St) (H : Hp) (Q : VK) (v w : V), ESt X.K c.own G L m ρ σ H → RB X.K ba G L H v a → RB X.K bb G L H w b → Pst c W false G L σ H Q (.ok z m) → (hK : c.K = X.K) → r v w H Q := by
  unfold binD at h
  split at h
  · cases h
    exact ⟨_, op_add, fun G L m ρ σ H Q v w E r1 r2 q hK => ⟨_, _, r1.int, r2.int, q H L (Stp.refl _ _) (hK ▸ E.sok) _ (.inl (.int _))⟩⟩
  · split at h
    · rename_i z
      cases h
      exact ⟨_, op_add_str, fun G L m ρ σ H Q v w E r1 r2 q hK => ⟨_, _, r1.str.1, r2.str.1, by rw [S_len, S_len]; exact sd z, by rw [S_app]; exact q H L (Stp.refl _ _) (hK ▸ E.sok) _ (.inl (.str _ (by rw [List.length_append]; exact sd z)))⟩⟩
    · cases h
  · split at h
    · rename_i z
      cases h
      refine ⟨_, op_catL, fun G L m ρ σ H Q v w E r1 r2 q hK => ?_⟩
      obtain ⟨a1, vs1, e1, h1, p1, z1⟩ := r1.lst
      obtain ⟨a2, vs2, e2, h2, p2, z2⟩ := r2.lst
      refine ⟨a1, a2, vs1, vs2, e1, e2, hK ▸ h1, hK ▸ h2, by rw [p1.length, p2.length]; exact sd z, fun p n => ?_⟩
      exact Pst.lst (c := c) (hK ▸ E) q (hK ▸ p1.append p2) (by rw [List.length_append]; exact sd z) n
    · cases h
  · split at h
    · rename_i z
      cases h
      refine ⟨_, op_catA, fun G L m ρ σ H Q v w E r1 r2 q hK => ?_⟩
      obtain ⟨a1, vs1, e1, h1, p1, z1⟩ := r1.tup
      obtain ⟨a2, vs2, e2, h2, p2, z2⟩ := r2.tup
      have E' : ESt c.K c.own G L m ρ σ H := hK ▸ E
      refine ⟨a1, a2, vs1, vs2, e1, e2, h1, h2, by rw [p1.length, p2.length]; exact sd z, fun en => ?_, fun _ en => ?_, fun _ _ p n => ?_⟩
      · subst en
        cases p1
        subst e2
        exact Pst.val E' q (by rw [hK, List.nil_append]; exact .inl (r2.elim id fun ⟨_, a, e, g, cr⟩ => by cases cr))
      · subst en
        cases p2
        subst e1
        exact Pst.val E' q (by rw [hK, List.append_nil]; exact .inl (r1.elim id fun ⟨_, a, e, g, cr⟩ => by cases cr))
      · exact Pst.tup E' q (hK ▸ p1.append p2) (by rw [List.length_append]; exact sd z) n
    · cases h
  · cases h
    exact ⟨_, op_sub, fun G L m ρ σ H Q v w E r1 r2 q hK => ⟨_, _, r1.int, r2.int, q H L (Stp.refl _ _) (hK ▸ E.sok) _ (.inl (.int _))⟩⟩
  · split at h
    · rename_i z
      cases h
      rcases mulOk_or z with z | z
      · exact ⟨_, op_mul, fun G L m ρ σ H Q v w E r1 r2 q hK => ⟨_, _, r1.int, r2.int, z, q H L (Stp.refl _ _) (hK ▸ E.sok) _ (.inl (.int _))⟩⟩
      · exact ⟨_, op_mulW, fun G L m ρ σ H Q v w E r1 r2 q hK => ⟨_, _, r1.int, r2.int, z, q H L (Stp.refl _ _) (hK ▸ E.sok) _ (.inl (.int _))⟩⟩
    · cases h
  · split at h
    · rename_i z
      cases h
      exact ⟨_, op_mulS, fun G L m ρ σ H Q v w E r1 r2 q hK => ⟨_, _, r1.str.1, r2.int, z.1, z.2.1, z.2.2, q H L (Stp.refl _ _) (hK ▸ E.sok) _ (.inl (.str _ (by
        have e : ∀ (n : Nat) (a : List Nat), (List.replicate n a).flatten.length = a.length * n := fun n a => by
          induction n with
          | zero => rfl
          | succ n ih => rw [List.replicate_succ, List.flatten_cons, List.length_append, ih, Nat.mul_succ, Nat.add_comm]
        rw [e]
        have : sizeLine = 16777216 := by decide
        omega)))⟩⟩
    · cases h
  · rename_i a k
    split at h
    · rename_i z
      cases h
      by_cases k0 : k = 0
      · subst k0
        refine ⟨_, op_rep0, fun G L m ρ σ H Q v w E r1 r2 q hK => ?_⟩
        obtain ⟨a1, vs1, e1, h1, p1, z1⟩ := r1.tup
        have E' : ESt c.K c.own G L m ρ σ H := hK ▸ E
        refine ⟨a1, vs1, e1, r2.int, h1, fun en => ?_, fun p n => ?_⟩
        · subst en
          cases p1
          cases z.1
        · exact Pst.tup (vs := []) E' q .nil (Nat.zero_le _) n
      · by_cases k1 : k = 1
        · subst k1
          refine ⟨_, op_rep1, fun G L m ρ σ H Q v w E r1 r2 q hK => ?_⟩
          obtain ⟨a1, vs1, e1, h1, p1, z1⟩ := r1.tup
          have E' : ESt c.K c.own G L m ρ σ H := hK ▸ E
          refine ⟨a1, vs1, e1, r2.int, h1, ?_⟩
          subst e1
          have ea : (List.replicate (1 : Int).toNat a).flatten = a := by
            show (List.replicate 1 a).flatten = a
            simp
          rw [ea] at q
          exact Pst.val E' q (by rw [hK]; exact .inl (r1.elim id fun ⟨_, a, e, g, cr⟩ => by cases cr))
        · refine ⟨_, op_repT, fun G L m ρ σ H Q v w E r1 r2 q hK => ?_⟩
          obtain ⟨a1, vs1, e1, h1, p1, z1⟩ := r1.tup
          have E' : ESt c.K c.own G L m ρ σ H := hK ▸ E
          refine ⟨a1, k, vs1, e1, r2.int, h1, fun en => ?_, by omega, z.2.2.1, by rw [p1.length]; exact z.2.2.2.1, fun p n => ?_⟩
          · subst en
            cases p1
            cases z.1
          · exact Pst.tup E' q (hK ▸ reps_rep p1 _) (by rw [rep_flat]; have : sizeLine = 16777216 := by decide
                                                        omega) n
    · cases h
  · split at h
    · rename_i z
      cases h
      exact ⟨_, op_fdivW, fun G L m ρ σ H Q v w E r1 r2 q hK => ⟨_, _, r1.int, r2.int, z, q H L (Stp.refl _ _) (hK ▸ E.sok) _ (.inl (.int _))⟩⟩
    · cases h
  · split at h
    · rename_i z
      cases h
      exact ⟨_, op_mod, fun G L m ρ σ H Q v w E r1 r2 q hK => ⟨_, _, r1.int, r2.int, z, q H L (Stp.refl _ _) (hK ▸ E.sok) _ (.inl (.int _))⟩⟩
    · cases h
  · split at h
    · rename_i z
      cases h
      exact ⟨_, op_pow, fun G L m ρ σ H Q v w E r1 r2 q hK => ⟨_, _, r1.int, r2.int, ⟨z.1, by omega, z.2.2⟩, q H L (Stp.refl _ _) (hK ▸ E.sok) _ (.inl (.int _))⟩⟩
    · cases h
  · cases h
theorem s_bin (o : BOp) (hK : c.K = X.K) (ha : PE X x (TEr c W ba ea)) (hb : PE X y (TEr c W bb eb)) : PE X (.BinOp x (opOf o) y pos) (TEr c W false (.bin o ea eb)) := by
  refine pe_op2 (f := binD o) (fun ρ m => by rw [evE]) ha hb fun a b z h => ?_
  obtain ⟨r, hr, k⟩ := bin_rule (X := X) (c := c) (W := W) (ba := ba) (bb := bb) o a b z h
  exact ⟨r, hr, fun G L m ρ σ H Q v w E r1 r2 q => k G L m ρ σ H Q v w (hK ▸ E) (hK ▸ r1) (hK ▸ r2) q hK⟩
end
end MP
set_option maxRecDepth 100000
set_option maxHeartbeats 8000000
set_option autoImplicit false
namespace MP
open PySem L2
section
variable {K : PySem.W.Frag} {A : Nat → Option Addr} {H H' : Hp}
theorem Rep.dp2 (s : Same H H') : ∀ {v : V} {d : D}, d.flat2 = true → Rep K A H v d → Dp2 K H' v d.toPy2 := by
  exact fun f r => go r f
where
  go : ∀ {v : V} {d : D}, Rep K A H v d → d.flat2 = true → Dp2 K H' v d.toPy2
  | _, _, .non, _ => .non
  | _, _, .bl b, _ => .bl b
  | _, _, .int i, _ => .int i
  | _, _, .str s z, _ => .str _
  | _, _, .tup h r z, f => .tup (Same.sqT s h) (gos r (by simpa [D.flat2] using f))
  | _, _, .lst h r z, f => .lst (Same.sqL s h) (gos r (by simpa [D.flat2] using f))
  | _, _, .dic h r z, f => by
    cases r with
    | nil => exact .dic (Same.rd s h)
    | cons _ _ _ => simp [D.flat2] at f
  | _, _, .obj h, f => by simp [D.flat2] at f
  | _, _, .exc q h, f => by simp [D.flat2] at f
  gos : ∀ {v : List V} {d : List D}, Reps K A H v d → D.flat2s d = true → Dp2All K H' v (D.toPy2s d)
  | _, _, .nil, _ => .nil
  | _, _, .cons h r, f => by
    simp [D.flat2s] at f
    exact .cons (go h f.1) (gos r f.2)
theorem RD.dp2 {G : Addr → Prop} {L : Lay} {v : V} {d : D} (r : RD K G L H v d) (f : d.flat2 = true) : Dp2 K H v d.toPy2 := by
  rcases r with r | ⟨a, u, e, h, c⟩
  · exact Rep.dp2 hide_sub f r
  · cases c with
    | lst r z =>
      subst e
      exact .lst (.inl h) (Rep.dp2.gos hide_sub r (by simpa [D.flat2] using f))
    | dic r z =>
      subst e
      cases r with
      | nil => exact .dic h
      | cons _ _ _ => simp [D.flat2] at f
end
end MP
set_option maxRecDepth 100000
set_option maxHeartbeats 8000000
set_option autoImplicit false
namespace MP
open PySem L2
inductive HitsV (K : PySem.W.Frag) (H : Hp) (kb : List (Key × V)) : List (Key × V) → Bool → Prop
  | nil : HitsV K H kb [] true
  | miss {k : Key} {v : V} {r : List (Key × V)} : valV kb k = none → HitsV K H kb ((k, v) :: r) false
  | hit {k : Key} {v y : V} {r : List (Key × V)} {d e : PyData} {b : Bool} : valV kb k = some y → Dp K H v d → Dp K H y e → (d.plain = true ∧ d.depth ≤ 64) → e.plain = true → HitsV K H kb r b → HitsV K H kb ((k, v) :: r) (PyData.eqv d e && b)
section
variable {X : Cx} {pins : List (Addr × Obj)} {σ : L2.St} {H : Hp} {s : Shared}
theorem HitsV.keq (I : Inv X pins σ H s) (hu : X.A.in1.units + 64 < cLine) {kb : List (Key × V)} {vb : List (Key × Value)} (rb : KV kb vb) : ∀ {ka : List (Key × V)} {b : Bool} {va : List (Key × Value)}, HitsV X.K H kb ka b → KV ka va → PySem.W.KeqHits X.A.in1 s vb va b
  | _, _, _, .nil, .nil => .nil
  | _, _, (k', v') :: _, .miss (k := k) hn, .cons h t => by
    have e : k = k' := h.1
    subst e
    refine .miss ?_
    have q := rb.val k
    rw [hn] at q
    cases hv : PySem.valueAt vb k with
    | none => rfl
    | some z => rw [hv] at q; exact (show False from q).elim
  | _, _, (k', v') :: _, .hit (k := k) (d := d) (e := e) hy h1 h2 s1 s2 hr, .cons h t => by
    have e : k = k' := h.1
    subst e
    have q := rb.val k
    rw [hy] at q
    cases hv : PySem.valueAt vb k with
    | none => rw [hv] at q; exact (show False from q).elim
    | some z =>
      rw [hv] at q
      obtain ⟨as, r1⟩ := Dp.reads I d _ _ h1 h.2
      obtain ⟨bs, r2⟩ := Dp.reads I _ _ _ h2 q
      exact .hit hv (PySem.SeqAt.eqAt_plain d e X.A.in1 s _ _ _ _ r1 r2 s1.1 s2 (by have : min d.depth e.depth ≤ d.depth := Nat.min_le_left _ _; have := s1.2; omega)) (HitsV.keq I hu rb hr t)
end
section
variable {X : Cx}
def rEqDk (K : PySem.W.Frag) : R2 := fun x y H Q => ∃ a b ka kb r, x = .ref a ∧ y = .ref b ∧ Rd H a (.dK ka) ∧ Rd H b (.dK kb) ∧ HitsV K H kb ka r ∧ Q (.bl (ka.length == kb.length && r)) H
def rNeDk (K : PySem.W.Frag) : R2 := fun x y H Q => ∃ a b ka kb r, x = .ref a ∧ y = .ref b ∧ Rd H a (.dK ka) ∧ Rd H b (.dK kb) ∧ HitsV K H kb ka r ∧ Q (.bl (!(ka.length == kb.length && r))) H
theorem op_eqDk (hu : X.A.in1.units + 64 < cLine) (hu2 : X.A.units < cLine) : OpR X (compareOp .Eq) (rEqDk X.K) := by
  intro pins s σ H x y v u Q I rx ry h
  obtain ⟨a, b, ka, kb, r, rfl, rfl, ha, hb, hh, q⟩ := h
  obtain rfl : v = Value.ref a := rx
  obtain rfl : u = Value.ref b := ry
  obtain ⟨_, la, va, ra, da⟩ := dk_rd I.hok ha
  obtain ⟨_, lb, vb, rb, db⟩ := dk_rd I.hok hb
  refine PySem.W.keq_eq la lb da db hu2 (fun _ => HitsV.keq I hu rb hh ra) ?_
  rw [← ra.length, ← rb.length]
  exact ⟨.bl _, H, I, rfl, q⟩
theorem op_neDk (hu : X.A.in1.units + 64 < cLine) (hu2 : X.A.units < cLine) : OpR X (compareOp .NotEq) (rNeDk X.K) := by
  intro pins s σ H x y v u Q I rx ry h
  obtain ⟨a, b, ka, kb, r, rfl, rfl, ha, hb, hh, q⟩ := h
  obtain rfl : v = Value.ref a := rx
  obtain rfl : u = Value.ref b := ry
  obtain ⟨_, la, va, ra, da⟩ := dk_rd I.hok ha
  obtain ⟨_, lb, vb, rb, db⟩ := dk_rd I.hok hb
  refine PySem.W.keq_ne la lb da db hu2 (fun _ => HitsV.keq I hu rb hh ra) ?_
  rw [← ra.length, ← rb.length]
  exact ⟨.bl _, H, I, rfl, q⟩
end
section
variable {K : PySem.W.Frag} {A : Nat → Option Addr} {H H' : Hp}
theorem getKD_ok (q : Key) : ∀ {l : List (D × D)} {d : D}, l.all okP = true → getKD q l = some d → d.flat = true ∧ d.dep ≤ 64
  | [], _, _, h => by cases h
  | (k, v) :: l, d, ho, h => by
    simp only [List.all_cons, Bool.and_eq_true] at ho
    unfold getKD at h
    split at h
    · cases h
      simpa [okP] using ho.1
    · exact getKD_ok q ho.2 h
theorem hits_of (s : Same H H') {kb : List (Key × V)} {lb : List (D × D)} (rb : Repk K A H kb lb) (ob : lb.all okP = true) : ∀ {ka : List (Key × V)} {la : List (D × D)}, Repk K A H ka la → la.all okP = true → HitsV K H' kb ka (eqKD la lb)
  | _, _, .nil, _ => .nil
  | _, _, .cons (k := k) (d := d) z h t, oa => by
    simp only [List.all_cons, Bool.and_eq_true] at oa
    have o1 : d.flat = true ∧ d.dep ≤ 64 := by simpa [okP] using oa.1
    have ih := hits_of s rb ob t oa.2
    rcases rb.get k with ⟨g1, g2⟩ | ⟨v', d', g1, g2, g3⟩
    · have e : ∀ l, eqKD ((keyD k, d) :: l) lb = false := fun l => by
        unfold eqKD
        rw [List.all_cons]
        dsimp only
        rw [keyOf_D]
        dsimp only
        rw [g2, Bool.false_and]
      rw [e]
      exact .miss g1
    · obtain ⟨o2, o3⟩ := getKD_ok k ob g2
      have e : ∀ l, eqKD ((keyD k, d) :: l) lb = (PyData.eqv d.toPy d'.toPy && eqKD l lb) := fun l => by
        unfold eqKD
        rw [List.all_cons]
        dsimp only
        rw [keyOf_D]
        dsimp only
        rw [g2]
      rw [e]
      exact .hit g1 (Rep.dp s o1.1 h) (Rep.dp s o2 g3) ⟨toPy_plain _ o1.1, by rw [toPy_dep]; exact o1.2⟩ (toPy_plain _ o2) ih
end
end MP
set_option maxRecDepth 100000
set_option maxHeartbeats 4000000
set_option autoImplicit false
namespace MP
open PySem L2
section
variable {X : Cx}
def rEqP (K : PySem.W.Frag) : R2 := fun x y H Q => ∃ d e, Dp K H x d ∧ Dp K H y e ∧ d.plain = true ∧ e.plain = true ∧ (d.depth ≤ 64 ∨ e.depth ≤ 64) ∧ Q (.bl (PyData.eqv d e)) H
def rNeP (K : PySem.W.Frag) : R2 := fun x y H Q => ∃ d e, Dp K H x d ∧ Dp K H y e ∧ d.plain = true ∧ e.plain = true ∧ (d.depth ≤ 64 ∨ e.depth ≤ 64) ∧ Q (.bl (!PyData.eqv d e)) H
theorem op_eqP (hu : X.A.units + 65 < cLine) : OpR X (compareOp .Eq) (rEqP X.K) := by
  intro pins s σ H x y v u Q I rx ry h
  obtain ⟨d, e, hd, he, sd, se, hz, q⟩ := h
  obtain ⟨as, r1⟩ := Dp.reads I d x v hd rx
  obtain ⟨bs, r2⟩ := Dp.reads I e y u he ry
  exact SeqAt.eq_plain r1 r2 sd se (by omega) ⟨.bl _, H, I, rfl, q⟩
theorem op_neP (hu : X.A.units + 65 < cLine) : OpR X (compareOp .NotEq) (rNeP X.K) := by
  intro pins s σ H x y v u Q I rx ry h
  obtain ⟨d, e, hd, he, sd, se, hz, q⟩ := h
  obtain ⟨as, r1⟩ := Dp.reads I d x v hd rx
  obtain ⟨bs, r2⟩ := Dp.reads I e y u he ry
  exact SeqAt.ne_plain r1 r2 sd se (by omega) ⟨.bl _, H, I, rfl, q⟩
def rInP (K : PySem.W.Frag) (neg : Bool) : R2 := fun x y H Q => ∃ d es, Dp K H x d ∧ (Dp K H y (.list es) ∨ Dp K H y (.tuple es)) ∧ d.plain = true ∧ PyData.plainAll es = true ∧ d.depth ≤ 60 ∧ Q (.bl (if neg then !(es.any fun z => PyData.eqv z d) else es.any fun z => PyData.eqv z d)) H
theorem op_inP (hu : X.A.units + 65 < cLine) : OpR X (compareOp .In) (rInP X.K false) := by
  intro pins s σ H x y v u Q I rx ry h
  obtain ⟨d, es, hd, he, sd, se, hz, q⟩ := h
  obtain ⟨as, r1⟩ := Dp.reads I d x v hd rx
  rcases he with he | he
  · obtain ⟨bs, r2⟩ := Dp.reads I _ y u he ry
    exact SeqAt.in_list_data r2 r1 se sd (by omega) ⟨.bl _, H, I, rfl, q⟩
  · obtain ⟨bs, r2⟩ := Dp.reads I _ y u he ry
    exact SeqAt.in_tuple_data r2 r1 se sd (by omega) ⟨.bl _, H, I, rfl, q⟩
theorem op_notInP (hu : X.A.units + 65 < cLine) : OpR X (compareOp .NotIn) (rInP X.K true) := by
  intro pins s σ H x y v u Q I rx ry h
  obtain ⟨d, es, hd, he, sd, se, hz, q⟩ := h
  obtain ⟨as, r1⟩ := Dp.reads I d x v hd rx
  rcases he with he | he
  · obtain ⟨bs, r2⟩ := Dp.reads I _ y u he ry
    exact SeqAt.notIn_list_data r2 r1 se sd (by omega) ⟨.bl _, H, I, rfl, q⟩
  · obtain ⟨bs, r2⟩ := Dp.reads I _ y u he ry
    exact SeqAt.notIn_tuple_data r2 r1 se sd (by omega) ⟨.bl _, H, I, rfl, q⟩
end
section
variable {X : Cx}
theorem op_inDk (hu : X.A.units + 1 < cLine) : OpR X (compareOp .In) (fun x y H Q => ∃ a kvs k, y = .ref a ∧ Rd H a (.dK kvs) ∧ x = kV k ∧ Q (.bl (valV kvs k).isSome) H) := by
  rintro pins s σ H x y u v Q I rx ry ⟨a, kvs, k, ey, e, ex, q⟩
  subst ey
  obtain rfl : v = Value.ref a := ry
  exact d_in hu I (.inl ⟨kvs, k, e, ex, rfl⟩) rx fun s3 I3 => ⟨.bl _, H, I3, rfl, q⟩
theorem op_notInDk (hu : X.A.units + 1 < cLine) : OpR X (compareOp .NotIn) (fun x y H Q => ∃ a kvs k, y = .ref a ∧ Rd H a (.dK kvs) ∧ x = kV k ∧ Q (.bl (!(valV kvs k).isSome)) H) := by
  rintro pins s σ H x y u v Q I rx ry ⟨a, kvs, k, ey, e, ex, q⟩
  subst ey
  obtain rfl : v = Value.ref a := ry
  exact d_notIn hu I (.inl ⟨kvs, k, e, ex, rfl⟩) rx fun s3 I3 => ⟨.bl _, H, I3, rfl, q⟩
end
def cOf : COp → CmpOp
  | .eq => .Eq | .ne => .NotEq | .lt => .Lt | .le => .LtE | .gt => .Gt | .ge => .GtE | .isin => .In | .notin => .NotIn | .isb => .Is | .nisb => .IsNot
def isSet : Expr → Bool
  | .Set _ _ _ => true
  | _ => false
theorem behind_of {op : CmpOp} {b : Expr} (h : isSet b = false) : behindInMarks op b = false := by
  cases b <;> first | rfl | (simp [isSet] at h)
section
variable {X : Cx} {c : Cn} {W : WX} {ba bb bc : Bool} {ea eb ec : E} {x y z : Expr} {pos : Pos}
theorem plainAll_of {l : List D} (h : D.flats l = true) : PyData.plainAll (D.toPys l) = true := toPy_plain.gos l h
theorem cmp_rule (hu : X.A.units + 65 < cLine) (o : COp) (a b : D) (r : Bool) (h : cmpD o a b = some r) : ∃ R : R2, OpR X (compareOp (cOf o)) R ∧ ∀ (G : Addr → Prop) (L : Lay) (H : Hp) (Q : VK) (v w : V), RD X.K G L H v a → RD X.K G L H w b → Q (.bl r) H → R v w H Q := by
  unfold cmpD at h
  split at h
  · unfold eqD at h
    split at h
    · rename_i hf
      cases h
      exact ⟨_, op_eqP hu, fun G L H Q v w r1 r2 q => ⟨_, _, r1.dp hf.1, r2.dp hf.2.1, toPy_plain _ hf.1, toPy_plain _ hf.2.1, by rw [toPy_dep, toPy_dep]; exact hf.2.2, q⟩⟩
    · split at h
      · rename_i hf
        cases h
        exact ⟨_, op_eqD2 (by omega), fun G L H Q v w r1 r2 q => ⟨_, _, r1.dp2 hf.1, r2.dp2 hf.2.1, hf.2.2.1, hf.2.2.2.1, hf.2.2.2.2, q⟩⟩
      · unfold eqDic at h
        split at h
        · split at h
          · rename_i ho
            cases h
            refine ⟨_, op_eqDk (by show X.A.units + 1 + 64 < cLine; omega) (by omega), fun G L H Q v w r1 r2 q => ?_⟩
            obtain ⟨a1, k1, e1, g1, p1, z1⟩ := r1.dic
            obtain ⟨a2, k2, e2, g2, p2, z2⟩ := r2.dic
            refine ⟨a1, a2, k1, k2, _, e1, e2, g1, g2, hits_of hide_sub p2 ho.2 p1 ho.1, ?_⟩
            rw [p1.length, p2.length]
            exact q
          · cases h
        · split at h
          · rename_i hf
            cases h
            exact ⟨_, op_eqL0 (by omega), fun G L H Q v w r1 r2 q => ⟨_, _, r1.dp2 (by simpa [D.flat2] using hf), r2.dp2 rfl, q⟩⟩
          · cases h
        · cases h
  · rename_i a b
    unfold eqD at h
    split at h
    · rename_i hf
      cases h
      exact ⟨_, op_neP hu, fun G L H Q v w r1 r2 q => ⟨_, _, r1.dp hf.1, r2.dp hf.2.1, toPy_plain _ hf.1, toPy_plain _ hf.2.1, by rw [toPy_dep, toPy_dep]; exact hf.2.2, q⟩⟩
    · split at h
      · rename_i hf
        cases h
        exact ⟨_, op_neD2 (by omega), fun G L H Q v w r1 r2 q => ⟨_, _, r1.dp2 hf.1, r2.dp2 hf.2.1, hf.2.2.1, hf.2.2.2.1, hf.2.2.2.2, q⟩⟩
      · rename_i z1 z2
        unfold eqDic at h
        split at h
        · split at h
          · rename_i ho
            cases h
            refine ⟨_, op_neDk (by show X.A.units + 1 + 64 < cLine; omega) (by omega), fun G L H Q v w r1 r2 q => ?_⟩
            obtain ⟨a1, k1, e1, g1, p1, z1⟩ := r1.dic
            obtain ⟨a2, k2, e2, g2, p2, z2⟩ := r2.dic
            refine ⟨a1, a2, k1, k2, _, e1, e2, g1, g2, hits_of hide_sub p2 ho.2 p1 ho.1, ?_⟩
            rw [p1.length, p2.length]
            exact q
          · cases h
        · split at h
          · rename_i hf
            cases h
            exact ⟨_, op_neL0 (by omega), fun G L H Q v w r1 r2 q => ⟨_, _, r1.dp2 (by simpa [D.flat2] using hf), r2.dp2 rfl, q⟩⟩
          · cases h
        · cases h
  · cases h; exact ⟨_, op_lt, fun G L H Q v w r1 r2 q => ⟨_, _, r1.int, r2.int, q⟩⟩
  · cases h; exact ⟨_, op_le, fun G L H Q v w r1 r2 q => ⟨_, _, r1.int, r2.int, q⟩⟩
  · cases h; exact ⟨_, op_gt, fun G L H Q v w r1 r2 q => ⟨_, _, r1.int, r2.int, q⟩⟩
  · cases h; exact ⟨_, op_ge, fun G L H Q v w r1 r2 q => ⟨_, _, r1.int, r2.int, q⟩⟩
  · cases h; exact ⟨_, op_lt_str, fun G L H Q v w r1 r2 q => ⟨_, _, r1.str.1, r2.str.1, q⟩⟩
  · cases h; exact ⟨_, op_le_str, fun G L H Q v w r1 r2 q => ⟨_, _, r1.str.1, r2.str.1, q⟩⟩
  · cases h; exact ⟨_, op_gt_str, fun G L H Q v w r1 r2 q => ⟨_, _, r1.str.1, r2.str.1, q⟩⟩
  · cases h; exact ⟨_, op_ge_str, fun G L H Q v w r1 r2 q => ⟨_, _, r1.str.1, r2.str.1, q⟩⟩
  · unfold isinD at h
    split at h
    · split at h
      · rename_i hf
        cases h
        exact ⟨_, op_inP hu, fun G L H Q v w r1 r2 q => ⟨_, D.toPys _, r1.dp hf.1, .inl (r2.dp (by rw [D.flat]; exact hf.2.1)), toPy_plain _ hf.1, plainAll_of hf.2.1, by rw [toPy_dep]; exact hf.2.2, by
          rw [if_neg Bool.false_ne_true, toPys_map, List.any_map]; exact q⟩⟩
      · cases h
    · split at h
      · rename_i hf
        cases h
        exact ⟨_, op_inP hu, fun G L H Q v w r1 r2 q => ⟨_, D.toPys _, r1.dp hf.1, .inr (r2.dp (by rw [D.flat]; exact hf.2.1)), toPy_plain _ hf.1, plainAll_of hf.2.1, by rw [toPy_dep]; exact hf.2.2, by
          rw [if_neg Bool.false_ne_true, toPys_map, List.any_map]; exact q⟩⟩
      · cases h
    · split at h
      · cases h
        exact ⟨_, op_in_str, fun G L H Q v w r1 r2 q => ⟨_, _, r1.str.1, r2.str.1, by rw [S_len]; exact q⟩⟩
      · cases h
    · rename_i l
      cases hq : keyOf a with
      | none => rw [hq] at h; cases h
      | some q0 =>
        rw [hq] at h
        cases h
        refine ⟨_, op_inDk (by omega), fun G L H Q v w r1 r2 q => ?_⟩
        obtain ⟨p, kvs, e1, e2, rk, _⟩ := r2.dic
        exact ⟨p, kvs, q0, e1, e2, (r1.key hq).1, by rw [rk.isSome]; exact q⟩
    · cases h
  · cases hd : isinD a b with
    | none => rw [hd] at h; cases h
    | some r0 =>
      rw [hd] at h
      cases h
      unfold isinD at hd
      split at hd
      · split at hd
        · rename_i hf
          cases hd
          exact ⟨_, op_notInP hu, fun G L H Q v w r1 r2 q => ⟨_, D.toPys _, r1.dp hf.1, .inl (r2.dp (by rw [D.flat]; exact hf.2.1)), toPy_plain _ hf.1, plainAll_of hf.2.1, by rw [toPy_dep]; exact hf.2.2, by
            rw [if_pos rfl, toPys_map, List.any_map]; exact q⟩⟩
        · cases hd
      · split at hd
        · rename_i hf
          cases hd
          exact ⟨_, op_notInP hu, fun G L H Q v w r1 r2 q => ⟨_, D.toPys _, r1.dp hf.1, .inr (r2.dp (by rw [D.flat]; exact hf.2.1)), toPy_plain _ hf.1, plainAll_of hf.2.1, by rw [toPy_dep]; exact hf.2.2, by
            rw [if_pos rfl, toPys_map, List.any_map]; exact q⟩⟩
        · cases hd
      · split at hd
        · cases hd
          exact ⟨_, op_notIn_str, fun G L H Q v w r1 r2 q => ⟨_, _, r1.str.1, r2.str.1, by rw [S_len]; exact q⟩⟩
        · cases hd
      · rename_i l
        cases hq : keyOf a with
        | none => rw [hq] at hd; cases hd
        | some q0 =>
          rw [hq] at hd
          cases hd
          refine ⟨_, op_notInDk (by omega), fun G L H Q v w r1 r2 q => ?_⟩
          obtain ⟨p, kvs, e1, e2, rk, _⟩ := r2.dic
          exact ⟨p, kvs, q0, e1, e2, (r1.key hq).1, by rw [rk.isSome]; exact q⟩
      · cases hd
  · cases h
    exact ⟨_, op_isBl, fun G L H Q v w r1 r2 q => ⟨_, _, r1.bl, r2.bl, q⟩⟩
  · cases h
    exact ⟨_, op_notBl, fun G L H Q v w r1 r2 q => ⟨_, _, r1.bl, r2.bl, q⟩⟩
  · cases h
theorem s_cmp_run (hK : c.K = X.K) (hu : X.A.units + 65 < cLine) (o : COp) {σ : L2.St} {H : Hp} {Q : VK} (h : TEr c W false (.cmp o ea eb) σ H Q) : ∃ R : R2, OpR X (compareOp (cOf o)) R ∧ tOp R (TEr c W ba ea) (TEr c W bb eb) σ H Q := by
  obtain ⟨G, L, m, ρ, E, h⟩ := h
  rw [evE] at h
  by_cases hz : ∃ a m1 b m2 z, evE c.cfg ea ρ m = .ok a m1 ∧ evE c.cfg eb ρ m1 = .ok b m2 ∧ cmpD o (dr m2 a) (dr m2 b) = some z
  · obtain ⟨a, m1, b, m2, z, e1, e2, e3⟩ := hz
    obtain ⟨r, hr, k⟩ := cmp_rule (X := X) hu o (dr m2 a) (dr m2 b) z e3
    refine ⟨r, hr, ?_⟩
    refine TEr.bind E h fun a' m1' v H1 L1 q1 s1 E1 r1 h1 => ?_
    rw [e1] at q1
    cases q1
    refine TEr.bind E1 h1 fun b' m2' w H2 L2 q2 s2 E2 r2 h2 => ?_
    rw [e2] at q2
    cases q2
    rw [e3] at h2
    exact k G L2 H2 Q v w (hK ▸ (r1.step E1 s2).drd E2.sok) (hK ▸ r2.drd E2.sok) (Pst.val E2 h2 (.inl (.bl _)))
  · refine ⟨_, opF, ?_⟩
    refine TEr.bind E h fun a' m1' v H1 L1 q1 s1 E1 r1 h1 => ?_
    refine TEr.bind E1 h1 fun b' m2' w H2 L2 q2 s2 E2 r2 h2 => ?_
    cases e3 : cmpD o (dr m2' a') (dr m2' b') with
    | none => rw [e3] at h2; exact h2
    | some z => exact hz ⟨_, _, _, _, _, q1, q2, e3⟩
theorem s_cmp (hK : c.K = X.K) (hu : X.A.units + 65 < cLine) (o : COp) (ha : PE X x (TEr c W ba ea)) (hb : PE X y (TEr c W bb eb)) (hs : isSet y = false) : PE X (.Compare x [cOf o] [y] pos) (TEr c W false (.cmp o ea eb)) := by
  refine ⟨fun pins s σ H Q I h => ?_⟩
  obtain ⟨R, hR, h⟩ := s_cmp_run (ba := ba) (bb := bb) hK hu o h
  exact (pe_cmpR hR ha hb (behind_of hs)).run pins s σ H Q I h
theorem TTr.of {e : E} {σ : L2.St} {H : Hp} {Q : Bool → Hp → Prop} (hb : ∀ ρ m d m', evE c.cfg e ρ m = .ok d m' → ∃ k, d = .bl k) (h : TTr c W e σ H Q) : TEr c W false e σ H (fun v H' => ∃ k, v = .bl k ∧ Q k H') := by
  obtain ⟨G, L, m, ρ, E, h⟩ := h
  unfold evT at h
  refine ⟨G, L, m, ρ, E, (PstG.bind h).imp fun d m' H' L' e s ok q v r => ?_⟩
  obtain ⟨k, rfl⟩ := hb _ _ _ _ e
  refine ⟨k, r.bl, ?_⟩
  have q' : PstT c W G L' σ H' Q (.ok k m') := q
  exact q' H' L' (Stp.refl _ _) ok
theorem cmp_bl (o : COp) : ∀ ρ m d m', evE c.cfg (.cmp o ea eb) ρ m = .ok d m' → ∃ k, d = .bl k := fun ρ m d m' h => by
  rw [evE] at h
  obtain ⟨a, m1, e1, h⟩ := Res.bind_eq_ok h
  obtain ⟨b, m2, e2, h⟩ := Res.bind_eq_ok h
  cases e3 : cmpD o (dr m2 a) (dr m2 b) with
  | none => rw [e3] at h; cases h
  | some k => rw [e3] at h; cases h; exact ⟨k, rfl⟩
theorem s_cmpT (hK : c.K = X.K) (hu : X.A.units + 65 < cLine) (o : COp) (ha : PE X x (TEr c W ba ea)) (hb : PE X y (TEr c W bb eb)) (hs : isSet y = false) : PT X (.Compare x [cOf o] [y] pos) (TTr c W (.cmp o ea eb)) := by
  refine ⟨fun pins s σ H Q I h => ?_⟩
  obtain ⟨R, hR, h⟩ := s_cmp_run (ba := ba) (bb := bb) hK hu o (TTr.of (cmp_bl o) h)
  exact (pt_cmpR hR ha hb (behind_of hs)).run pins s σ H Q I h
theorem s_chain_run (hK : c.K = X.K) (hu : X.A.units + 65 < cLine) (o o' : COp) {σ : L2.St} {H : Hp} {Q : VK} (h : TEr c W false (.chain o o' ea eb ec) σ H Q) :
    ∃ R R' : R2, OpR X (compareOp (cOf o)) R ∧ OpR X (compareOp (cOf o')) R' ∧ tChain R R' (TEr c W ba ea) (TEr c W bb eb) (TEr c W bc ec) σ H Q := by
  obtain ⟨G, L, m, ρ, E, h⟩ := h
  rw [evE] at h
  by_cases hz : ∃ a m1 b m2 z, evE c.cfg ea ρ m = .ok a m1 ∧ evE c.cfg eb ρ m1 = .ok b m2 ∧ cmpD o (dr m2 a) (dr m2 b) = some z
  · obtain ⟨a, m1, b, m2, z, e1, e2, e3⟩ := hz
    obtain ⟨r, hr, k⟩ := cmp_rule (X := X) hu o (dr m2 a) (dr m2 b) z e3
    by_cases hz2 : ∃ d m3 z', evE c.cfg ec ρ m2 = .ok d m3 ∧ cmpD o' (dr m3 b) (dr m3 d) = some z'
    · obtain ⟨d, m3, z', e4, e5⟩ := hz2
      obtain ⟨r', hr', k'⟩ := cmp_rule (X := X) hu o' (dr m3 b) (dr m3 d) z' e5
      refine ⟨r, r', hr, hr', ?_⟩
      refine TEr.bind E h fun a' m1' v H1 L1 q1 s1 E1 r1 h1 => ?_
      rw [e1] at q1
      cases q1
      refine TEr.bind E1 h1 fun b' m2' w H2 L2 q2 s2 E2 r2 h2 => ?_
      rw [e2] at q2
      cases q2
      rw [e3] at h2
      refine k G L2 H2 _ v w (hK ▸ (r1.step E1 s2).drd E2.sok) (hK ▸ r2.drd E2.sok) ⟨z, rfl, ?_⟩
      cases z with
      | true =>
        rw [if_pos rfl]
        refine TEr.bind E2 h2 fun d' m3' u H3 L3 q3 s3 E3 r3 h3 => ?_
        rw [e4] at q3
        cases q3
        rw [e5] at h3
        exact k' G L3 H3 Q w u (hK ▸ (r2.step E2 s3).drd E3.sok) (hK ▸ r3.drd E3.sok) (Pst.val E3 h3 (.inl (.bl _)))
      | false =>
        rw [if_neg Bool.false_ne_true]
        exact Pst.val E2 h2 (.inl (.bl _))
    · refine ⟨r, _, hr, opF, ?_⟩
      refine TEr.bind E h fun a' m1' v H1 L1 q1 s1 E1 r1 h1 => ?_
      rw [e1] at q1
      cases q1
      refine TEr.bind E1 h1 fun b' m2' w H2 L2 q2 s2 E2 r2 h2 => ?_
      rw [e2] at q2
      cases q2
      rw [e3] at h2
      refine k G L2 H2 _ v w (hK ▸ (r1.step E1 s2).drd E2.sok) (hK ▸ r2.drd E2.sok) ⟨z, rfl, ?_⟩
      cases z with
      | true =>
        rw [if_pos rfl]
        refine TEr.bind E2 h2 fun d' m3' u H3 L3 q3 s3 E3 r3 h3 => ?_
        cases e5 : cmpD o' (dr m3' b) (dr m3' d') with
        | none => rw [e5] at h3; exact h3
        | some z' => exact hz2 ⟨_, _, _, q3, e5⟩
      | false =>
        rw [if_neg Bool.false_ne_true]
        exact Pst.val E2 h2 (.inl (.bl _))
  · refine ⟨_, _, opF, opF, ?_⟩
    refine TEr.bind E h fun a' m1' v H1 L1 q1 s1 E1 r1 h1 => ?_
    refine TEr.bind E1 h1 fun b' m2' w H2 L2 q2 s2 E2 r2 h2 => ?_
    cases e3 : cmpD o (dr m2' a') (dr m2' b') with
    | none => rw [e3] at h2; exact h2
    | some z => exact hz ⟨_, _, _, _, _, q1, q2, e3⟩
theorem s_chain (hK : c.K = X.K) (hu : X.A.units + 65 < cLine) (o o' : COp) (ha : PE X x (TEr c W ba ea)) (hb : PE X y (TEr c W bb eb)) (hc : PE X z (TEr c W bc ec)) (h1 : isSet z = false) : PE X (.Compare x [cOf o, cOf o'] [y, z] pos) (TEr c W false (.chain o o' ea eb ec)) := by
  refine ⟨fun pins s σ H Q I h => ?_⟩
  obtain ⟨R, R', hR, hR', h⟩ := s_chain_run (ba := ba) (bb := bb) (bc := bc) hK hu o o' h
  exact (pe_chain hR hR' ha hb hc (by show behindInMarks _ _ = false; exact behind_of h1)).run pins s σ H Q I h
theorem chain_bl (o o' : COp) : ∀ ρ m d m', evE c.cfg (.chain o o' ea eb ec) ρ m = .ok d m' → ∃ k, d = .bl k := fun ρ m d m' h => by
  rw [evE] at h
  obtain ⟨a, m1, e1, h⟩ := Res.bind_eq_ok h
  obtain ⟨b, m2, e2, h⟩ := Res.bind_eq_ok h
  cases e3 : cmpD o (dr m2 a) (dr m2 b) with
  | none => rw [e3] at h; cases h
  | some k =>
    rw [e3] at h
    cases k with
    | false => cases h; exact ⟨_, rfl⟩
    | true =>
      obtain ⟨d', m3, e4, h⟩ := Res.bind_eq_ok h
      cases e5 : cmpD o' (dr m3 b) (dr m3 d') with
      | none => rw [e5] at h; cases h
      | some k => rw [e5] at h; cases h; exact ⟨k, rfl⟩
theorem s_chainT (hK : c.K = X.K) (hu : X.A.units + 65 < cLine) (o o' : COp) (ha : PE X x (TEr c W ba ea)) (hb : PE X y (TEr c W bb eb)) (hc : PE X z (TEr c W bc ec)) (h1 : isSet z = false) : PT X (.Compare x [cOf o, cOf o'] [y, z] pos) (TTr c W (.chain o o' ea eb ec)) := by
  refine ⟨fun pins s σ H Q I h => ?_⟩
  obtain ⟨R, R', hR, hR', h⟩ := s_chain_run (ba := ba) (bb := bb) (bc := bc) hK hu o o' (TTr.of (chain_bl o o') h)
  exact (pt_chain hR hR' ha hb hc (by show behindInMarks _ _ = false; exact behind_of h1)).run pins s σ H Q I h
theorem isN_val {G : Addr → Prop} {L : Lay} {H : Hp} {v : V} {d : D} {b : Bool} (r : RB c.K b G L H v d) : decide (v = .non) = (match d with | .non => true | _ => false) := by
  rcases r with r | ⟨_, a, e, _, cr⟩
  · cases r <;> rfl
  · subst e
    cases cr <;> rfl
theorem s_isN_run (neg : Bool) {σ : L2.St} {H : Hp} {Q : VK} (h : TEr c W false (.isN neg ea) σ H Q) : TEr c W ba ea σ H (fun v H1 => Q (.bl (if neg then !decide (v = .non) else decide (v = .non))) H1) := by
  obtain ⟨G, L, m, ρ, E, h⟩ := h
  rw [evE] at h
  refine TEr.bind E h fun a' m1' v H1 L1 q1 s1 E1 r1 h1 => ?_
  have e := isN_val r1
  have q := Pst.val E1 h1 (.inl (.bl _))
  rw [e]
  cases neg <;> cases a' <;> exact q
theorem s_isN {j : Nat} {pos' : Pos} (neg : Bool) (ha : PE X x (TEr c W ba ea)) : PE X (.Compare x [if neg then .IsNot else .Is] [.Constant .none j pos'] pos) (TEr c W false (.isN neg ea)) := by
  cases neg with
  | true => exact pe_imp (pe_cmp (pc_notN ha)) fun σ H Q h => s_isN_run true h
  | false => exact pe_imp (pe_cmp (pc_isN ha)) fun σ H Q h => s_isN_run false h
theorem isN_bl (neg : Bool) : ∀ ρ m d m', evE c.cfg (.isN neg ea) ρ m = .ok d m' → ∃ k, d = .bl k := fun ρ m d m' h => by
  rw [evE] at h
  obtain ⟨a, m1, e1, h⟩ := Res.bind_eq_ok h
  cases h
  exact ⟨_, rfl⟩
theorem s_isNT {j : Nat} {pos' : Pos} (neg : Bool) (ha : PE X x (TEr c W ba ea)) : PT X (.Compare x [if neg then .IsNot else .Is] [.Constant .none j pos'] pos) (TTr c W (.isN neg ea)) := by
  cases neg with
  | true => exact pt_imp (pt_cmp (pc_notN ha)) fun σ H Q h => s_isN_run true (TTr.of (isN_bl true) h)
  | false => exact pt_imp (pt_cmp (pc_isN ha)) fun σ H Q h => s_isN_run false (TTr.of (isN_bl false) h)
theorem str_ne (n : Nat) : ((n : Int) != 0) = !(n == 0) := by
  cases n with
  | zero => rfl
  | succ n => simp; omega
theorem truth_ok {G : Addr → Prop} {L : Lay} {H : Hp} {v : V} {d : D} {b : Bool} {k : Bool} (r : RB c.K b G L H v d) (h : truth d = some k) : TruV c.K v H k := by
  cases d with
  | non => cases h; rw [r.non]; rfl
  | bl b => cases h; rw [r.bl]; rfl
  | int i => cases h; rw [r.int]; rfl
  | str s =>
    cases h
    rw [r.str.1]
    refine ⟨by rw [S_len]; exact r.str.2, ?_⟩
    rw [S_len, str_ne]
    cases s <;> rfl
  | tup l =>
    cases h
    obtain ⟨a, vs, e, hs, rs, z⟩ := r.tup
    subst e
    refine .inr (.inl ⟨vs, hs, ?_⟩)
    cases rs <;> rfl
  | lst l =>
    cases h
    obtain ⟨a, vs, e, hs, rs, z⟩ := r.lst
    subst e
    refine .inl ⟨vs, hs, ?_⟩
    cases rs <;> rfl
  | dic l => cases h
  | obj n => cases h
  | exc n => cases h
theorem s_truth (hK : c.K = X.K) (ha : PE X x (TEr c W ba ea)) (he : ∀ whole, isTrue x X.env whole = (do let v ← whole; standAt x.pos; holding [v] (truthy v))) : PT X x (TTr c W ea) := by
  refine pt_imp (pt_truth ha he) fun σ H Q h => ?_
  obtain ⟨G, L, m, ρ, E, h⟩ := h
  unfold evT at h
  refine ⟨G, L, m, ρ, E, (PstG.bind h).imp fun d m' H' L' e s ok q v r => ?_⟩
  cases ht : truth d with
  | none => rw [ht] at q; exact (show False from q).elim
  | some k =>
    rw [ht] at q
    have q' : PstT c W G L' σ H' Q (.ok k m') := q
    exact ⟨k, hK ▸ truth_ok r ht, q' H' L' (Stp.refl _ _) ok⟩
theorem s_not (hK : c.K = X.K) (ha : PE X x (TEr c W ba ea)) : PE X (.UnaryOp .Not x pos) (TEr c W false (.not1 ea)) := by
  refine pe_imp (pe_notT ha) fun σ H Q h => ?_
  obtain ⟨G, L, m, ρ, E, h⟩ := h
  rw [evE] at h
  refine TEr.bind E h fun a' m1' v H1 L1 q1 s1 E1 r1 h1 => ?_
  cases ht : truth a' with
  | none => rw [ht] at h1; exact (show False from h1).elim
  | some k =>
    rw [ht] at h1
    exact ⟨k, hK ▸ truth_ok r1 ht, Pst.val E1 h1 (.inl (.bl _))⟩
theorem s_notT (ha : PT X x (TTr c W ea)) : PT X (.UnaryOp .Not x pos) (TTr c W (.not1 ea)) := by
  refine pt_imp (pt_not ha) fun σ H Q h => ?_
  obtain ⟨G, L, m, ρ, E, h⟩ := h
  refine ⟨G, L, m, ρ, E, ?_⟩
  unfold evT at h ⊢
  rw [evE] at h
  revert h
  cases evE c.cfg ea ρ m with
  | ok d m' =>
    rw [Res.bind_ok, Res.bind_ok]
    cases truth d with
    | none => exact id
    | some k => exact id
  | err k m' => exact id
  | stuck => exact id
theorem s_and (hK : c.K = X.K) {rest : List Expr} (ha : PE X x (TEr c W false ea)) (hb : PE X (.BoolOp .And (y :: rest) pos) (TEr c W false eb)) : PE X (.BoolOp .And (x :: y :: rest) pos) (TEr c W false (.and2 ea eb)) := by
  refine pe_imp (pe_andT ha hb) fun σ H Q h => ?_
  obtain ⟨G, L, m, ρ, E, h⟩ := h
  rw [evE] at h
  refine TEr.bind E h fun a' m1' v H1 L1 q1 s1 E1 r1 h1 => ?_
  cases ht : truth a' with
  | none => rw [ht] at h1; exact (show False from h1).elim
  | some k =>
    rw [ht] at h1
    refine ⟨k, hK ▸ truth_ok r1 ht, ?_⟩
    cases k with
    | true => rw [if_pos rfl]; exact ⟨G, L1, m1', ρ, E1, h1⟩
    | false => rw [if_neg Bool.false_ne_true]; exact Pst.val E1 h1 r1
theorem s_or (hK : c.K = X.K) {rest : List Expr} (ha : PE X x (TEr c W false ea)) (hb : PE X (.BoolOp .Or (y :: rest) pos) (TEr c W false eb)) : PE X (.BoolOp .Or (x :: y :: rest) pos) (TEr c W false (.or2 ea eb)) := by
  refine pe_imp (pe_orT ha hb) fun σ H Q h => ?_
  obtain ⟨G, L, m, ρ, E, h⟩ := h
  rw [evE] at h
  refine TEr.bind E h fun a' m1' v H1 L1 q1 s1 E1 r1 h1 => ?_
  cases ht : truth a' with
  | none => rw [ht] at h1; exact (show False from h1).elim
  | some k =>
    rw [ht] at h1
    refine ⟨k, hK ▸ truth_ok r1 ht, ?_⟩
    cases k with
    | true => rw [if_pos rfl]; exact Pst.val E1 h1 r1
    | false => rw [if_neg Bool.false_ne_true]; exact ⟨G, L1, m1', ρ, E1, h1⟩
theorem s_andT {rest : List Expr} (ha : PT X x (TTr c W ea)) (hb : PW X (.BoolOp .And (y :: rest) pos) (TTr c W eb)) : PW X (.BoolOp .And (x :: y :: rest) pos) (TTr c W (.and2 ea eb)) := by
  refine ⟨fun wh pins s σ H Q I h => (pw_and ha hb).run wh pins s σ H Q I ?_⟩
  obtain ⟨G, L, m, ρ, E, h⟩ := h
  refine ⟨G, L, m, ρ, E, ?_⟩
  unfold evT at h ⊢
  rw [evE] at h
  revert h
  cases e1 : evE c.cfg ea ρ m with
  | ok d m' =>
    rw [Res.bind_ok, Res.bind_ok]
    cases ht : truth d with
    | none => exact id
    | some k =>
      intro h
      cases k with
      | true =>
        intro H' L' s ok
        show (if true = true then _ else _)
        rw [if_pos rfl]
        refine ⟨G, L', m', ρ, E.step s ok, ?_⟩
        exact h.step s
      | false =>
        intro H' L' s ok
        show (if false = true then _ else _)
        rw [if_neg Bool.false_ne_true]
        rw [Res.bind_ok, ht] at h
        exact h H' L' s ok
  | err k m' => exact id
  | stuck => exact id
theorem s_orT {rest : List Expr} (ha : PT X x (TTr c W ea)) (hb : PW X (.BoolOp .Or (y :: rest) pos) (TTr c W eb)) : PW X (.BoolOp .Or (x :: y :: rest) pos) (TTr c W (.or2 ea eb)) := by
  refine ⟨fun wh pins s σ H Q I h => (pw_or ha hb).run wh pins s σ H Q I ?_⟩
  obtain ⟨G, L, m, ρ, E, h⟩ := h
  refine ⟨G, L, m, ρ, E, ?_⟩
  unfold evT at h ⊢
  rw [evE] at h
  revert h
  cases e1 : evE c.cfg ea ρ m with
  | ok d m' =>
    rw [Res.bind_ok, Res.bind_ok]
    cases ht : truth d with
    | none => exact id
    | some k =>
      intro h
      cases k with
      | true =>
        intro H' L' s ok
        show (if true = true then _ else _)
        rw [if_pos rfl]
        rw [Res.bind_ok, ht] at h
        exact h H' L' s ok
      | false =>
        intro H' L' s ok
        show (if false = true then _ else _)
        rw [if_neg Bool.false_ne_true]
        refine ⟨G, L', m', ρ, E.step s ok, ?_⟩
        exact h.step s
  | err k m' => exact id
  | stuck => exact id
theorem s_ifx (hc : PT X z (TTr c W ec)) (ha : PE X x (TEr c W false ea)) (hb : PE X y (TEr c W false eb)) : PE X (.IfExp z x y pos) (TEr c W false (.ifx ec ea eb)) := by
  refine pe_imp (pe_ifExp hc ha hb) fun σ H Q h => ?_
  obtain ⟨G, L, m, ρ, E, h⟩ := h
  refine ⟨G, L, m, ρ, E, ?_⟩
  unfold evT
  rw [evE] at h
  revert h
  cases e1 : evE c.cfg ec ρ m with
  | ok d m' =>
    rw [Res.bind_ok, Res.bind_ok]
    cases ht : truth d with
    | none => exact id
    | some k =>
      intro h H' L' s ok
      cases k with
      | true =>
        show (if true = true then _ else _)
        rw [if_pos rfl]
        exact ⟨G, L', m', ρ, E.step s ok, h.step s⟩
      | false =>
        show (if false = true then _ else _)
        rw [if_neg Bool.false_ne_true]
        exact ⟨G, L', m', ρ, E.step s ok, h.step s⟩
  | err k m' => exact id
  | stuck => exact id
end
end MP
set_option maxRecDepth 100000
set_option maxHeartbeats 4000000
set_option autoImplicit false
namespace MP
open PySem L2
theorem place_eq (n : Nat) (i : Int) : placeD n i = ixN n i := rfl
section
variable {X : Cx} {c : Cn} {W : WX} {ba bb bc : Bool} {ea eb ec : E} {x y z : Expr} {pos : Pos}
theorem ix_dict (hu : X.A.units + 1 < cLine) : IxR X (fun x y H Q => ∃ a kvs k v, x = .ref a ∧ Rd H a (.dK kvs) ∧ y = kV k ∧ valV kvs k = some v ∧ Q v H) := by
  intro value slice pins s σ H x y v u Q I rx ry h hs
  obtain ⟨a, kvs, k, z, rfl, e, rfl, hv, q⟩ := h
  cases rx
  have g : DGet H a (kV k) (some z) := .inl ⟨kvs, k, e, rfl, hv.symm⟩
  have hT := dict_typeIs I g
  have h₂ : wpAny (model X.prog X.w) X.A (getItem (.ref a) u) (EP X pins σ Q) X.xe s := d_getItem hu I g ry fun w' s3 I3 rw' => ⟨z, H, I3, rw', q⟩
  unfold PyProof.Rows.subscriptTail
  refine wpAny_bind ?_
  rw [getitemInPython_of_ne hT.not_modules]
  refine wpAny_bind (wpAny_specialOf hT PySem.F.slot_dict_getitem.lookup ?_)
  have fin : wpAny (model X.prog X.w) X.A (subscripted slice false (.ref a) u) (fun r s₃ => wpAny (model X.prog X.w) X.A (letTemporaryGo value (.ref a) r >>= fun _ => pure r) (EP X pins σ Q) X.xe s₃) X.xe s := by
    rw [hs]
    exact wpAny_operating (wpAny_mono h₂ (fun r s₃ h₃ => wpAny_bind (wpAny_letTemporaryGo (wpAny_pure h₃))) fun _ _ x => x)
  first
    | exact wpAny_pure (wpAny_bind fin)
    | exact wpAny_bind (wpAny_pure (wpAny_bind fin))
    | exact wpAny_bind fin
theorem pe_ix2 {e : E} {f : Mu → D → D → Option D} (he : ∀ ρ m, evE c.cfg e ρ m = (evE c.cfg ea ρ m).bind fun x m1 => (evE c.cfg eb ρ m1).bind fun y m2 => .opt (f m2 x y) m2) (ha : PE X x (TEr c W ba ea)) (hb : PE X y (TEr c W bb eb)) (hs : PlainIx y)
    (rule : ∀ m a b z, f m a b = some z → ∃ r : R2, IxR X r ∧ ∀ (G : Addr → Prop) (L : Lay) (ρ : Env') (σ : L2.St) (H : Hp) (Q : VK) (v w : V), ESt c.K c.own G L m ρ σ H → RB c.K ba G L H v a → RB c.K bb G L H w b → Pst c W false G L σ H Q (.ok z m) → r v w H Q) :
    PE X (.Subscript x y pos) (TEr c W false e) := by
  refine ⟨fun pins s σ H Q I h => ?_⟩
  obtain ⟨G, L, m, ρ, E, h⟩ := h
  rw [he] at h
  by_cases hz : ∃ a m1 b m2 z, evE c.cfg ea ρ m = .ok a m1 ∧ evE c.cfg eb ρ m1 = .ok b m2 ∧ f m2 a b = some z
  · obtain ⟨a, m1, b, m2, z, e1, e2, e3⟩ := hz
    obtain ⟨r, hr, k⟩ := rule m2 a b z e3
    refine (pe_ix hr ha hb hs).run pins s σ H Q I ?_
    refine TEr.bind E h fun a' m1' v H1 L1 q1 s1 E1 r1 h1 => ?_
    rw [e1] at q1
    cases q1
    refine TEr.bind E1 h1 fun b' m2' w H2 L2 q2 s2 E2 r2 h2 => ?_
    rw [e2] at q2
    cases q2
    rw [e3] at h2
    exact k G L2 ρ σ H2 Q v w E2 (r1.step E1 s2) r2 h2
  · refine (pe_ix (r := fun _ _ _ _ => False) (fun _ _ _ _ _ _ _ _ _ _ _ _ _ _ h => h.elim) ha hb hs).run pins s σ H Q I ?_
    refine TEr.bind E h fun a' m1' v H1 L1 q1 s1 E1 r1 h1 => ?_
    refine TEr.bind E1 h1 fun b' m2' w H2 L2 q2 s2 E2 r2 h2 => ?_
    cases e3 : f m2' a' b' with
    | none => rw [e3] at h2; exact h2
    | some z => exact hz ⟨_, _, _, _, _, q1, q2, e3⟩
theorem s_idx (hK : c.K = X.K) (hu : X.A.units + 65 < cLine) (ha : PE X x (TEr c W ba ea)) (hb : PE X y (TEr c W bb eb)) (hs : PlainIx y) : PE X (.Subscript x y pos) (TEr c W false (.idx ea eb)) := by
  refine pe_ix2 (f := fun m a b => idxD (dr m a) b) (fun ρ m => by rw [evE]) ha hb hs fun m a b z h => ?_
  suffices go : ∀ a' : D, idxD a' b = some z → ∃ r : R2, IxR X r ∧ ∀ (G : Addr → Prop) (L : Lay) (ρ : Env') (σ : L2.St) (H : Hp) (Q : VK) (v w : V), ESt c.K c.own G L m ρ σ H → RD c.K G L H v a' → RB c.K bb G L H w b → Pst c W false G L σ H Q (.ok z m) → r v w H Q by
    obtain ⟨r, hr, k⟩ := go _ h
    exact ⟨r, hr, fun G L ρ σ H Q v w E r1 r2 q => k G L ρ σ H Q v w E (r1.drd E.sok) r2 q⟩
  clear h
  intro a' h
  unfold idxD at h
  split at h
  · rename_i l i
    refine ⟨_, ix_list, fun G L ρ σ H Q v w E r1 r2 q => ?_⟩
    obtain ⟨p, vs, e1, hr, rs, hz⟩ := r1.lst
    obtain ⟨j, hj, hl⟩ := Option.bind_eq_some_iff.mp h
    obtain ⟨u, hu, ru⟩ := rs.get hl
    refine ⟨p, vs, i, u, e1, r2.int, hK ▸ hr, ?_, Pst.val E q (.inl ru)⟩
    show (ixN vs.length i).bind _ = _
    rw [rs.length, ← place_eq, hj]
    exact hu
  · rename_i l i
    refine ⟨_, ix_tup, fun G L ρ σ H Q v w E r1 r2 q => ?_⟩
    obtain ⟨p, vs, e1, hr, rs, hz⟩ := r1.tup
    obtain ⟨j, hj, hl⟩ := Option.bind_eq_some_iff.mp h
    obtain ⟨u, hu, ru⟩ := rs.get hl
    refine ⟨p, vs, i, u, e1, r2.int, hK ▸ hr, ?_, Pst.val E q (.inl ru)⟩
    show (ixN vs.length i).bind _ = _
    rw [rs.length, ← place_eq, hj]
    exact hu
  · rename_i s i
    refine ⟨_, ix_str, fun G L ρ σ H Q v w E r1 r2 q => ?_⟩
    obtain ⟨ch, h', ez⟩ := Option.map_eq_some_iff.mp h
    subst ez
    obtain ⟨j, hj, hl⟩ := Option.bind_eq_some_iff.mp h'
    refine ⟨S s, i, ch, r1.str.1, r2.int, by rw [S_len]; exact r1.str.2, ?_, Pst.val E q (.inl (.str [ch] (by show 1 ≤ sizeLine; decide)))⟩
    show (ixN (S s).cps.toList.length i).bind _ = _
    have e : (S s).cps.toList = s := rfl
    rw [e, ← place_eq, hj]
    exact hl
  · rename_i l
    obtain ⟨q0, hq, hz⟩ := Option.bind_eq_some_iff.mp h
    refine ⟨_, ix_dict (by omega), fun G L ρ σ H Q v w E r1 r2 q => ?_⟩
    obtain ⟨p, kvs, e1, e2, rk, _⟩ := r1.dic
    rcases rk.get q0 with ⟨_, h2⟩ | ⟨v', d', h1, h2, h3⟩
    · rw [hz] at h2; cases h2
    · rw [hz] at h2
      cases h2
      exact ⟨p, kvs, q0, v', e1, e2, (r2.rd.key hq).1, h1, Pst.val E q (.inl h3)⟩
  · cases h
def TOr (c : Cn) (W : WX) (o : OE) : TO := fun σ H Q => ∃ G L m ρ, ESt c.K c.own G L m ρ σ H ∧ PstG c W G L σ H (fun (d : Option Int) _ H' _ => Q d H') (evP c.cfg o ρ m)
theorem s_no : PO X none (TOr c W .no) := ⟨fun pins s σ H Q I h => by
  obtain ⟨G, L, m, ρ, E, h⟩ := h
  rw [evP] at h
  exact po_none.run pins s σ H Q I (h H L (Stp.refl _ _) E.sok)⟩
theorem s_yes (ha : PE X x (TEr c W ba ea)) : PO X (some x) (TOr c W (.yes ea)) := ⟨fun pins s σ H Q I h => by
  obtain ⟨G, L, m, ρ, E, h⟩ := h
  rw [evP] at h
  refine (po_some ha).run pins s σ H Q I ?_
  refine ⟨G, L, m, ρ, E, (PstG.bind h).imp fun d m' H' L' e s ok q v r => ?_⟩
  cases d with
  | int i => exact ⟨i, r.int, q H' L' (Stp.refl _ _) ok⟩
  | _ => exact (show False from q).elim⟩
theorem box_cu {K : PySem.W.Frag} {G : Addr → Prop} {L : Lay} {m : Mu} {H : Hp} {k : Nat} {d : D} (h : SOk K G L m H) (hd : dr m (.obj k) = d) (hn : ∀ j, d ≠ .obj j) : (∃ l, d = .lst l) ∨ ∃ l, d = .dic l := by
  unfold dr at hd
  dsimp only at hd
  split at hd
  · rename_i lk d' e
    subst hd
    obtain ⟨a, _, io⟩ := h.at e
    cases io with
    | box _ c => cases c with
      | lst => exact .inl ⟨_, rfl⟩
      | dic => exact .inr ⟨_, rfl⟩
    | lock _ c => cases c with
      | lst => exact .inl ⟨_, rfl⟩
      | dic => exact .inr ⟨_, rfl⟩
  · exact absurd hd.symm (hn k)
theorem slF : SlR X (fun _ _ _ _ _ => False) := fun _ _ _ _ _ _ _ _ _ _ _ _ _ _ _ _ _ h => h.elim
theorem s_sl {lo hi : Option Expr} {el eh : OE} {p2 : Pos} (hK : c.K = X.K) (ha : PE X x (TEr c W ba ea)) (hl : PO X lo (TOr c W el)) (hh : PO X hi (TOr c W eh)) : PE X (.Subscript x (.Slice lo hi none p2) pos) (TEr c W false (.sl ea el eh)) := by
  refine ⟨fun pins s σ H Q I h => ?_⟩
  obtain ⟨G, L, m, ρ, E, h⟩ := h
  rw [evE] at h
  have go : ∀ (r : V → Option Int → Option Int → Hp → VK → Prop) (hr : SlR X r), (∀ a m1, evE c.cfg ea ρ m = .ok a m1 → ∀ (L : Lay) (m : Mu) (H : Hp) (v : V) (l u : Option Int), ESt c.K c.own G L m ρ σ H → RB c.K ba G L H v a → Pst c W false G L σ H Q (Res.opt (slD (dr m a) l u) m) → r v l u H Q) →
      wpAny (model X.prog X.w) X.A (eval (.Subscript x (.Slice lo hi none p2) pos) X.env) (EP X pins σ Q) X.xe s := fun r hr k => by
    refine (pe_slice hr ha hl hh).run pins s σ H Q I ?_
    refine TEr.bind E h fun a m1 v H1 L1 q1 s1 E1 r1 h1 => ?_
    refine ⟨G, L1, m1, ρ, E1, (PstG.bind h1).imp fun l m2 H2 L2 e2 s2 ok2 q2 => ?_⟩
    have E2 := E1.step s2 ok2
    refine ⟨G, L2, m2, ρ, E2, (PstG.bind q2).imp fun u m3 H3 L3 e3 s3 ok3 q3 => ?_⟩
    exact k a m1 q1 L3 m3 H3 v l u (E2.step s3 ok3) ((r1.step E1 s2).step E2 s3) q3
  cases ha' : evE c.cfg ea ρ m with
  | stuck => rw [ha'] at h; exact (show False from h).elim
  | err k m1 => exact go _ slF fun a m1 e => by rw [ha'] at e; cases e
  | ok a m1 =>
    cases a with
    | obj k =>
      refine go _ sl_list fun a m2 e L m H v lo hi E r q => ?_
      rw [ha'] at e
      cases e
      have r' := r.drd E.sok
      cases hd : dr m (.obj k) with
      | lst l =>
        rw [hd] at q r'
        obtain ⟨p, vs, e1, hr, rs, hz⟩ := r'.lst
        refine ⟨p, vs, e1, hK ▸ hr, fun p' n => ?_⟩
        have hc : cutV vs lo hi = cutL vs (endD vs.length 0 lo) (endD vs.length vs.length hi) := rfl
        rw [hc, rs.length]
        exact Pst.lst E q (((rs.drop _).take _)) (by unfold cutL; rw [List.length_take, List.length_drop]; omega) n
      | tup l => rcases box_cu E.sok hd (fun j z => by cases z) with ⟨_, z⟩ | ⟨_, z⟩ <;> cases z
      | str l => rcases box_cu E.sok hd (fun j z => by cases z) with ⟨_, z⟩ | ⟨_, z⟩ <;> cases z
      | _ => rw [hd] at q; exact (show False from q).elim
    | lst l =>
      refine go _ sl_list fun a m2 e L m H v lo hi E r q => ?_
      rw [ha'] at e
      cases e
      obtain ⟨p, vs, e1, hr, rs, hz⟩ := r.lst
      refine ⟨p, vs, e1, hK ▸ hr, fun p' n => ?_⟩
      have hc : cutV vs lo hi = cutL vs (endD vs.length 0 lo) (endD vs.length vs.length hi) := rfl
      rw [hc, rs.length]
      exact Pst.lst E q (((rs.drop _).take _)) (by unfold cutL; rw [List.length_take, List.length_drop]; omega) n
    | tup l =>
      refine go _ sl_tupA fun a m2 e L m H v lo hi E r q => ?_
      rw [ha'] at e
      cases e
      obtain ⟨p, vs, e1, hr, rs, hz⟩ := r.tup
      refine ⟨p, vs, e1, hK ▸ hr, fun hw => ?_, fun hw p' n => ?_⟩
      · rw [rs.length] at hw
        have hl : cutL l (endD l.length 0 lo) (endD l.length l.length hi) = l := by
          have h1 : endD l.length 0 lo = 0 := hw.1
          have h2 : endD l.length l.length hi = l.length := hw.2
          unfold cutL
          rw [h1, h2, List.drop_zero, Nat.sub_zero, List.take_length]
        have q' : Pst c W false G L σ H Q (.ok (.tup (cutL l (endD l.length 0 lo) (endD l.length l.length hi))) m) := q
        rw [hl] at q'
        subst e1
        exact Pst.val E q' (.inl (r.elim id fun ⟨_, a, e, g, cr⟩ => by cases cr))
      · have hc : cutV vs lo hi = cutL vs (endD vs.length 0 lo) (endD vs.length vs.length hi) := rfl
        rw [hc, rs.length]
        exact Pst.tup E q (((rs.drop _).take _)) (by unfold cutL; rw [List.length_take, List.length_drop]; omega) n
    | str t =>
      refine go _ sl_str fun a m2 e L m H v lo hi E r q => ?_
      rw [ha'] at e
      cases e
      refine ⟨S t, r.str.1, by rw [S_len]; exact r.str.2, ?_⟩
      have hc : cutS (S t) lo hi = S (cutL t (endD t.length 0 lo) (endD t.length t.length hi)) := by
        unfold cutS
        rw [S_len]
        rfl
      rw [hc]
      exact Pst.val E q (.inl (.str _ (by have := r.str.2; unfold cutL; rw [List.length_take, List.length_drop]; omega)))
    | _ =>
      refine go _ slF fun a m1 e L m H v l u E r q => ?_
      rw [ha'] at e
      cases e
      exact (show False from q).elim
def Es.len : Es → Nat
  | .nil => 0
  | .cons _ l => l.len + 1
theorem evEs_len {C : Cfg} : ∀ {es : Es} {ρ : Env'} {m : Mu} {ds : List D} {m' : Mu}, evEs C es ρ m = .ok ds m' → ds.length = es.len
  | .nil, _, _, _, _, h => by
    rw [evEs] at h
    cases h
    rfl
  | .cons a l, ρ, m, _, _, h => by
    rw [evEs] at h
    obtain ⟨x, m1, e1, h⟩ := Res.bind_eq_ok h
    obtain ⟨xs, m2, e2, h⟩ := Res.bind_eq_ok h
    cases h
    exact congrArg (· + 1) (evEs_len e2)
theorem s_nil {b : Bool} : PA X [] (TAr c W b .nil) := ⟨fun pos pins s σ H Q I h => by
  obtain ⟨G, L, m, ρ, E, h⟩ := h
  rw [evEs] at h
  exact pa_nil.run pos pins s σ H Q I (h H L (Stp.refl _ _) E.sok [] .nil)⟩
def notStar : Expr → Bool
  | .Starred _ _ => false
  | _ => true
theorem star_of {e : Expr} {es : List Expr} {env : Env} (h : notStar e = true) : starEach (e :: es) env = (false, eval e env) :: starEach es env := by
  cases e <;> first | rfl | (simp [notStar] at h)
theorem s_cons {b : Bool} {es : List Expr} {l : Es} (ha : PE X x (TEr c W b ea)) (hl : PA X es (TAr c W b l)) (hn : notStar x = true) : PA X (x :: es) (TAr c W b (.cons ea l)) := ⟨fun pos pins s σ H Q I h => by
  obtain ⟨G, L, m, ρ, E, h⟩ := h
  rw [evEs] at h
  refine (pa_cons ha hl (star_of hn)).run pos pins s σ H Q I ?_
  refine ⟨G, L, m, ρ, E, (PstG.bind h).imp fun d m1 H1 L1 e s1 ok1 q v r => ?_⟩
  have E1 := E.step s1 ok1
  refine ⟨G, L1, m1, ρ, E1, (PstG.bind q).imp fun ds m2 H2 L2 e2 s2 ok2 q2 vs rs => ?_⟩
  exact q2 H2 L2 (Stp.refl _ _) ok2 (v :: vs) (.cons (r.step E1 s2) rs)⟩
theorem star_any {es : List Expr} {env : Env} (h : es.all notStar = true) : (starEach es env).any (·.1) = false := by
  induction es with
  | nil => rfl
  | cons e es ih =>
    rw [List.all_cons, Bool.and_eq_true] at h
    rw [star_of h.1, List.any_cons, ih h.2]
    rfl
theorem back_any (pos : Pos) (l : List (Bool × Sem Value)) : (backTo pos l).any (·.1) = l.any (·.1) := by
  unfold backTo
  rw [List.any_map]
  rfl
end
end MP
set_option maxRecDepth 100000
set_option maxHeartbeats 4000000
set_option autoImplicit false
namespace ET
open PySem L2 Builtin Builtin.Str
theorem meets_new (l : Addr) (items : Array Value) :
    Meets (Builtin.«enumerate.__new__» ⟨[.type "enumerate", .ref l], []⟩) (fun _ R s => s.heap.IsTuple l items ∧
      R (.ok (.ret (.ref (s.heap.push { cls := .type "tuple_iterator", data := .fields #[.ref l, .int 0 0] }).objs.size)))
        { s with heap := (s.heap.push { cls := .type "tuple_iterator", data := .fields #[.ref l, .int 0 0] }).push { cls := .type "enumerate", data := .fields #[.none, .bool false, .ref s.heap.objs.size, rawInt 0, .none, .none] } }) :=
  .of_wp fun prog w A R s h => by
    obtain ⟨hp, g, d, tk, os⟩ := s; obtain ⟨hl, h⟩ := h
    have hsub := sub_enumerate
    have q1 : ∀ {A' : Around} {E : Value → Shared → Prop} {Q : Value → Shared → Prop}, Q (.ref hp.objs.size) ⟨hp.push { cls := .type "tuple_iterator", data := .fields #[.ref l, .int 0 0] }, g, d, tk, os⟩ → wpAny (model prog w) A' (pyIter (.ref l)) Q E ⟨hp, g, d, tk, os⟩ :=
      fun q => wpAny_pyIter_tuple (s := ⟨hp, g, d, tk, os⟩) hl q
    wp_walk using q1
    refine wpAny_stack_any fun st => wpAny_pure ?_
    split
    · rename_i c _ _ _ _ _
      cases (c == Value.type "enumerate")
      · wp_walk using q1
        exact ⟨_, rfl, h⟩
      · wp_walk using q1
        exact ⟨_, rfl, h⟩
    · wp_walk using q1
      exact ⟨_, rfl, h⟩
section
variable {prog : Program} {w : World} {A : Around} {E : Value → Shared → Prop} {s : Shared}
theorem call_tuple {l : Addr} {items : Array Value} {Q : Value → Shared → Prop} (hL : s.heap.IsTuple l items)
    (h : ∀ h', IsEnum h' (s.heap.objs.size + 1) s.heap.objs.size 0 .none → h'.IsTupleIter s.heap.objs.size l 0 → h'.objs.size = s.heap.objs.size + 2 →
      (∀ b o, s.heap.get? b = some o → h'.get? b = some o) → Q (.ref (s.heap.objs.size + 1)) { s with heap := h' }) :
    wpAny (model prog w) A (call (.type "enumerate") [.ref l]) Q E s := by
  refine callType_new F.called_enumerate (by decide) (F.typeCall_enumerate_1 _) (F.newCall_enumerate_1 _) (fun obj => F.args_object_init_2 obj _) F.entry_enumerate_new
    (meets_new l items) ⟨hL, ?_⟩
  have hz : (s.heap.push { cls := .type "tuple_iterator", data := .fields #[.ref l, .int 0 0] }).objs.size = s.heap.objs.size + 1 := Heap.size_push ..
  show _ ∧ _
  rw [hz]
  have he : IsEnum ((s.heap.push { cls := .type "tuple_iterator", data := .fields #[.ref l, .int 0 0] }).push
      { cls := .type "enumerate", data := .fields #[.none, .bool false, .ref s.heap.objs.size, rawInt 0, .none, .none] }) (s.heap.objs.size + 1) s.heap.objs.size 0 .none := by
    have := Heap.get?_push_size (s.heap.push { cls := .type "tuple_iterator", data := .fields #[.ref l, .int 0 0] })
      (o := { cls := .type "enumerate", data := .fields #[.none, .bool false, .ref s.heap.objs.size, rawInt 0, .none, .none] }) rfl
    rw [hz] at this; exact this
  refine ⟨⟨_, he, rfl⟩, h _ he ⟨_, Heap.get?_push_of_some _ (Heap.get?_push_size _ rfl), rfl, rfl⟩ (by rw [Heap.size_push, hz]) fun b o x => Heap.get?_push_of_some _ (Heap.get?_push_of_some _ x)⟩
end
theorem wpAny_pyNext_enum_end_tup {prog : Program} {w : World} {A : Around} {E : Value → Shared → Prop} {s : Shared} {e it l : Addr} {i : Nat} {items : Array Value} {old : Value} {c : Int} {Q : Option Value → Shared → Prop} (hh : A.handled = none)
    (he : IsEnum s.heap e it c old) (hit : s.heap.IsTupleIter it l i) (hL : s.heap.IsTuple l items) (hx : items[i]? = none)
    (hQ : ∀ h', Heap.ExtBut it s.heap h' → Q none { s with heap := h' }) : wpAny (model prog w) A (pyNext (.ref e)) Q E s := by
  have hT : s.TypeIs (.ref e) "enumerate" := ⟨_, he, rfl⟩
  unfold pyNext
  refine wpAny_bind (wpAny_attempt (wpAny_callSpecial?_slot (name := Str.ofString "__next__") hT F.slot_enumerate_next
    (wpAny_call_entry F.slot_enumerate_next hT F.entry_enumerate_next ?_ (F.args_enumerate_next_1 _))))
  show wpAny _ _ (field (.ref e) 2 >>= _) _ _ _
  refine wpAny_bind (wpAny_field he rfl (x := .ref it) rfl ?_)
  refine wpAny_bind (wpAny_nextOf_tuple_end (show A.in1.handled = none from hh) hit hL hx fun h' x he' hx' => ?_)
  obtain ⟨o, ho, hc⟩ := hx'
  refine wpAny_bind (wpAny_isInstance (T := "StopIteration") (b := true) ⟨o, ho, hc⟩ isSubtype_stop ?_)
  exact wpAny_pure (hQ _ he')
def IteT (K : PySem.W.Frag) (a : Addr) : It :=
  ⟨fun i H => ∃ (xs : List V) (x : V), SqT K H a xs ∧ xs[i]? = some x, fun i H v H' => ∃ T x, v = .ref T ∧ H T = none ∧ H' = upd H T (.tup [.int (i : Nat), x]) ∧ ∀ xs, SqT K H a xs → xs[i]? = some x, fun i H => ∃ xs : List V, SqT K H a xs ∧ xs.length ≤ i⟩
theorem turn {P : Program} {w : World} {K : PySem.W.Frag} {elts : List Expr} {kk : Nat} {tpos : Pos} (a e it : Addr) :
    Turn P w K (.Tuple elts kk tpos) (IteT K a) [e, it] e (fun i h => (∃ old, IsEnum h e it ((i : Nat) : Int) old) ∧ h.IsTupleIter it a i ∧ e ≠ it) where
  mem := by simp
  obj := fun i h st b hb => by
    obtain ⟨⟨old, he⟩, ⟨o, ho, hc, hd⟩, _⟩ := st
    have e' : b = e ∨ b = it := by simpa using hb
    rcases e' with z | z
    · rw [z]; exact ⟨_, he, fun v q => nomatch q⟩
    · rw [z]; exact ⟨o, ho, fun v q => by rw [hd] at q; cases q⟩
  keep := fun i h h' st k => let ⟨⟨old, he⟩, hi, hne⟩ := st; ⟨⟨old, k e (by simp) _ he⟩, hi.at fun o q => k it (by simp) o q, hne⟩
  item := by
    intro X hP hw hK hc i pins s σ H E I hf st hg
    subst hP hw hK
    obtain ⟨⟨old, he⟩, hit, hne⟩ := st
    obtain ⟨xs, x, hq, hx⟩ := hg
    obtain ⟨its, rv, p, hz⟩ := I.tuple hq
    obtain ⟨u, hu, ru⟩ := rv.get hx
    have hl := rv.length
    have hel : e < s.heap.objs.size := Heap.lt_size he
    have hil : it < s.heap.objs.size := by obtain ⟨_, q, _⟩ := hit; exact Heap.lt_size q
    have hp : s.heap.IsTuple a its.toArray := p
    have hal : a < s.heap.objs.size := by obtain ⟨_, q, _⟩ := hp; exact Heap.lt_size q
    have hae : a ≠ e := fun z => by
      obtain ⟨o, q, qc, _⟩ := hp
      rw [z] at q
      have := q.symm.trans he
      injection this with this
      subst this
      exact absurd (show ("enumerate" : String) = "tuple" from by injection qc) (by decide)
    have hai : a ≠ it := fun z => by
      obtain ⟨o, q, qc, _⟩ := hp
      obtain ⟨o2, q2, qc2, _⟩ := hit
      rw [z] at q
      have := q.symm.trans q2
      injection this with this
      rw [← this, qc] at qc2
      exact absurd qc2 (by decide)
    have hi : i < xs.length := (List.getElem?_eq_some_iff.mp hx).1
    refine wpAny_pyNext_enum_itemD (Draws.tuple (A := X.A.in1) (show X.A.in1.handled = none from I.ok.hd hc) it a hai its.toArray) he ⟨hit, hp⟩ (by rw [List.size_toArray]; omega) hne (by simp [hne, Ne.symm hae]) fun y h' tk hy ho hit' hT hsz hk => ?_
    have ey : y = u := by
      have : its[i]? = some y := by simpa using hy
      rw [hu] at this
      exact (Option.some.inj this).symm
    subst ey
    refine ⟨_, rfl, wpAny_letOwnedTupleGo_enum (s := { s with heap := h', toks := tk + 1 }) ho fun h'' he' sb => ?_⟩
    have hT2 : h''.get? s.heap.objs.size = some { cls := .type "tuple", data := .seq #[.int i tk, y] } := (sb.2 _ (Nat.ne_of_gt hel)).trans hT
    have new : ObjOk X.prog X.w (upd H s.heap.objs.size (.tup [.int (i : Nat), x])) h'' s.heap.objs.size (.tup [.int (i : Nat), x]) :=
      ⟨by show 2 ≤ sizeLine; decide, [.int i tk, y], .cons ⟨_, rfl⟩ (.cons ru .nil), ⟨_, hT2, rfl, _, rfl⟩⟩
    have I1 : Inv X pins σ (upd H s.heap.objs.size (.tup [.int (i : Nat), x])) { s with heap := h'', toks := tk + 1 } :=
      I.turnedNew (ch := [e, it]) (fun b ob hb q => (sb.2 b (fun z => hb (by simp [z]))).trans (hk b ob (fun z => hb (by simp [z])) (fun z => hb (by simp [z])) q)) hf (Nat.le_refl _) new
    refine ⟨.ref s.heap.objs.size, _, I1, rfl, ⟨_, x, rfl, I.hok.fresh (Nat.le_refl _), rfl, fun ys hy => by rw [I.tuple_inj hy hq]; exact hx⟩, ⟨⟨y, ?_⟩, hit'.1.at fun o q => (sb.2 it (Ne.symm hne)).trans q, hne⟩, fun b hb => ?_⟩
    · have e1 : ((i + 1 : Nat) : Int) = (i : Int) + 1 := by omega
      rw [e1]; exact he'
    · have hb' : b < s.heap.objs.size := by
        have e' : b = e ∨ b = it := by simpa using hb
        rcases e' with z | z
        · rw [z]; exact hel
        · rw [z]; exact hil
      rw [upd_ne (Nat.ne_of_lt hb')]
      exact (hf b hb).1
  done := by
    intro X hP hw hK hc i pins s σ H E I hf st hg
    subst hP hw hK
    obtain ⟨⟨old, he⟩, hit, hne⟩ := st
    obtain ⟨xs, hq, hx⟩ := hg
    obtain ⟨its, rv, p, hz⟩ := I.tuple hq
    obtain ⟨f0, f1, f2, f3, f4, f5⟩ := hf it (by simp)
    have hl := rv.length
    have hp : s.heap.IsTuple a its.toArray := p
    have hal : a ≠ it := fun z => by
      obtain ⟨o, q, qc, _⟩ := hp
      obtain ⟨o2, q2, qc2, _⟩ := hit
      rw [z] at q
      have := q.symm.trans q2
      injection this with this
      rw [← this, qc] at qc2
      exact absurd qc2 (by decide)
    exact (wpAny_pyNext_enum_end_tup (I.ok.hd hc) he hit hp (by simp; omega) fun h' eb => ⟨rfl, I.turned (t' := s.toks) (fun b o hb q => eb b o hb q) f0 f1 f3 f4 f5⟩)
  self := fun A i s Q E st h => let ⟨⟨_, he⟩, _⟩ := st; wpAny_pyIter_enum he h
open PySem.Spec PyProof.Rows
def iEnumA (K : PySem.W.Frag) (ta : TA) : TI := fun σ H R => ta σ H fun vs H1 => ∃ a xs, vs = [.ref a] ∧ ((SqL K H1 a xs ∧ R (Ite K a) H1) ∨ (SqT K H1 a xs ∧ R (IteT K a) H1))
theorem pi_enumA {X : Cx} {e : Expr} {ta : TA} {p pos tpos : Pos} {elts : List Expr} {kk : Nat} (hg : Gl X "enumerate") (hm : X.mg "enumerate" = none) (ha : PA X [e] ta) (hs : starEach [e] X.env = [(false, eval e X.env)] := by rfl) :
    PI X (.Tuple elts kk tpos) (.Call (.Name "enumerate" p) [e] [] pos) (iEnumA X.K ta) := by
  refine ⟨fun pins s σ H R I h => ?_⟩
  refine PyProof.Rows.Call_ (ld_blt I hg hm boot_enumerate (PyProof.Rows.callWith_type1 (thn (ha.run pos pins s σ H _ I h) fun us s1 ⟨vs, H1, I1, r1, q1⟩ => ?_) hs rfl))
  obtain ⟨a, xs, ex, hq⟩ := q1
  subst ex
  cases r1 with
  | cons r rr =>
    cases rr
    cases r
    have fp : ∀ b ∈ [s1.heap.objs.size + 1, s1.heap.objs.size], s1.heap.objs.size ≤ b := fun b hb => by
      have e' : b = s1.heap.objs.size + 1 ∨ b = s1.heap.objs.size := by simpa using hb
      rcases e' with z | z
      · rw [z]; exact Nat.le_add_right _ _
      · rw [z]; exact Nat.le_refl _
    rcases hq with ⟨hq, q⟩ | ⟨hq, q⟩
    · obtain ⟨its, rv, p', hz⟩ := I1.list hq
      refine call_enumerate_list p'.isList fun h' he hit hsz hk => wpAny_pyIter_enum he ?_
      have I2 : Inv X pins σ H1 { s1 with heap := h' } := I1.kept (t' := s1.toks) hk
      exact ⟨s1.heap.objs.size + 1, [s1.heap.objs.size + 1, s1.heap.objs.size], _, _, H1, rfl, I2, turn_enum a (s1.heap.objs.size + 1) s1.heap.objs.size, ⟨⟨.none, he⟩, hit, Nat.succ_ne_self _⟩, fun b hb => I1.fpOk (fp b hb) (I1.hok.fresh (fp b hb)), q⟩
    · obtain ⟨its, rv, p', hz⟩ := I1.tuple hq
      refine call_tuple p' fun h' he hit hsz hk => wpAny_pyIter_enum he ?_
      have I2 : Inv X pins σ H1 { s1 with heap := h' } := I1.kept (t' := s1.toks) hk
      exact ⟨s1.heap.objs.size + 1, [s1.heap.objs.size + 1, s1.heap.objs.size], _, _, H1, rfl, I2, turn a (s1.heap.objs.size + 1) s1.heap.objs.size, ⟨⟨.none, he⟩, hit, Nat.succ_ne_self _⟩, fun b hb => I1.fpOk (fp b hb) (I1.hok.fresh (fp b hb)), q⟩
end ET
set_option maxRecDepth 100000
set_option maxHeartbeats 4000000
set_option autoImplicit false
namespace MP
open PySem L2
def PPr (b : Bool) (G : Addr → Prop) (A : Nat → Option Addr) (Hk H1 : Hp) : (Nat → Option Addr) → Hp → Hp → Prop := fun A' Hk' H =>
  Same Hk Hk' ∧ (∀ n x, A n = some x → A' n = some x) ∧ Same Hk' H ∧ (b = true → ∀ a o, G a → H1 a = some o → H a = some o) ∧ (∀ a o u, H1 a = some (.frz o u) → H a = some (.frz o u))
def Yld (K : PySem.W.Frag) (A : Nat → Option Addr) (Hk H : Hp) (x : V) (d : D) (H' : Hp) : Prop :=
  (H' = H ∧ Rep K A Hk x d) ∨ ∃ (T : Addr) (vs : List V) (ds : List D), x = .ref T ∧ d = .tup ds ∧ H T = none ∧ H' = upd H T (.tup vs) ∧ Reps K A Hk vs ds ∧ ds.length ≤ sizeLine
structure Src (K : PySem.W.Frag) (P : (Nat → Option Addr) → Hp → Hp → Prop) (J : It) (xs : List D) : Prop where
  len : xs.length ≤ sizeLine
  go : ∀ (A : Nat → Option Addr) (Hk H : Hp) (i : Nat), P A Hk H → i < xs.length → J.go i H
  yld : ∀ (A : Nat → Option Addr) (Hk H : Hp) (i : Nat) (x : V) (H' : Hp), P A Hk H → i < xs.length → J.yld i H x H' → ∃ d, xs[i]? = some d ∧ Yld K A Hk H x d H'
  stop : ∀ (A : Nat → Option Addr) (Hk H : Hp) (i : Nat), P A Hk H → xs.length ≤ i → J.stop i H
def TIr (c : Cn) (W : WX) (b : Bool) (it : I) : TI := fun σ H R => ∃ G L m ρ, ESt c.K c.own G L m ρ σ H ∧
  PstG c W G L σ H (fun xs _ H' L' => ∀ J, Src c.K (PPr b G (AL L') (hide (Bd G L') H') H') J xs → R J H') (evI c.cfg it ρ m)
section
variable {X : Cx} {c : Cn} {W : WX} {ba bb bc : Bool} {ea eb ec : E} {x y z tg : Expr} {pos : Pos}
theorem src_lst {K : PySem.W.Frag} {G : Addr → Prop} {L : Lay} {H : Hp} {v : V} {ds : List D} {b : Bool} (r : RB K b G L H v (.lst ds)) : ∃ a, v = .ref a ∧ (∃ xs, SqL K H a xs) ∧ Src K (PPr b G (AL L) (hide (Bd G L) H) H) (Itl K a) ds := by
  have main : ∀ (a : Addr) (vs : List V), Reps K (AL L) (hide (Bd G L) H) vs ds → ds.length ≤ sizeLine → (∀ A' Hk' H', PPr b G (AL L) (hide (Bd G L) H) H A' Hk' H' → SqL K H' a vs) → Src K (PPr b G (AL L) (hide (Bd G L) H) H) (Itl K a) ds := fun a vs rs z st => by
    refine ⟨z, fun A' Hk' H' i p hi => ?_, fun A' Hk' H' i x H2 p hi y => ?_, fun A' Hk' H' i p hi => ?_⟩
    · obtain ⟨u, hu, _⟩ := rs.get (List.getElem?_eq_getElem hi)
      exact ⟨vs, u, st _ _ _ p, hu⟩
    · obtain ⟨e, q⟩ := y
      obtain ⟨d, hd, rd⟩ := rs.getV (q vs (st _ _ _ p))
      exact ⟨d, hd, .inl ⟨e, rd.mono p.1 p.2.1⟩⟩
    · exact ⟨vs, st _ _ _ p, by rw [rs.length]; exact hi⟩
  rcases r with r | ⟨hb, a, e, g, cr⟩
  · cases r with
    | lst h rs z => exact ⟨_, rfl, ⟨_, Same.sqL hide_sub h⟩, main _ _ rs z fun _ _ _ p => Same.sqL p.2.2.1 (Same.sqL p.1 h)⟩
  · cases cr with
    | lst h rs z => exact ⟨a, e, ⟨_, .inl (.inl h)⟩, main _ _ rs z fun A' Hk' H' p => .inl (.inl (p.2.2.2.1 hb a _ g h))⟩
theorem src_tup {K : PySem.W.Frag} {G : Addr → Prop} {L : Lay} {H : Hp} {v : V} {ds : List D} {b : Bool} (r : RB K b G L H v (.tup ds)) : ∃ a, v = .ref a ∧ (∃ xs, SqT K H a xs) ∧ Src K (PPr b G (AL L) (hide (Bd G L) H) H) (Itt K a) ds := by
  rcases r with r | ⟨hb, a, e, g, cr⟩
  · cases r with
    | tup h rs z =>
      rename_i a vs
      have st : ∀ A' Hk' H', PPr b G (AL L) (hide (Bd G L) H) H A' Hk' H' → SqT K H' a vs := fun A' Hk' H' p => Same.sqT p.2.2.1 (Same.sqT p.1 h)
      refine ⟨_, rfl, ⟨_, Same.sqT hide_sub h⟩, z, fun A' Hk' H' i p hi => ?_, fun A' Hk' H' i x H2 p hi y => ?_, fun A' Hk' H' i p hi => ?_⟩
      · obtain ⟨u, hu, _⟩ := rs.get (List.getElem?_eq_getElem hi)
        exact ⟨vs, u, st _ _ _ p, hu⟩
      · obtain ⟨e, q⟩ := y
        obtain ⟨d, hd, rd⟩ := rs.getV (q vs (st _ _ _ p))
        exact ⟨d, hd, .inl ⟨e, rd.mono p.1 p.2.1⟩⟩
      · exact ⟨vs, st _ _ _ p, by rw [rs.length]; exact hi⟩
  · cases cr
theorem src_str {K : PySem.W.Frag} {P : (Nat → Option Addr) → Hp → Hp → Prop} {s : List Nat} (z : s.length ≤ sizeLine) : Src K P (Its (S s)) (s.map fun c => .str [c]) := by
  have e : (S s).cps.size = s.length := by simp [S]
  refine ⟨by rw [List.length_map]; exact z, fun A' Hk' H' i p hi => ?_, fun A' Hk' H' i x H2 p hi y => ?_, fun A' Hk' H' i p hi => ?_⟩
  · rw [List.length_map] at hi
    show i < (S s).cps.size
    omega
  · obtain ⟨e1, ch, hc, ex⟩ := y
    refine ⟨.str [ch], ?_, .inl ⟨e1, ?_⟩⟩
    · have hc' : s[i]? = some ch := by simpa [S] using hc
      rw [List.getElem?_map, hc']
      rfl
    · rw [ex]
      exact .str [ch] (by show 1 ≤ sizeLine; decide)
  · rw [List.length_map] at hi
    show (S s).cps.size ≤ i
    omega
theorem src_rng {K : PySem.W.Frag} {P : (Nat → Option Addr) → Hp → Hp → Prop} (lo : Int) {n : Nat} (z : n ≤ sizeLine) : Src K P (Itr lo n) (rngL lo n) := by
  have hl : (rngL lo n).length = n := by unfold rngL; rw [List.length_map, List.length_range]
  refine ⟨by rw [hl]; exact z, fun A' Hk' H' i p hi => ?_, fun A' Hk' H' i x H2 p hi y => ?_, fun A' Hk' H' i p hi => ?_⟩
  · rw [hl] at hi
    exact hi
  · obtain ⟨e1, ex⟩ := y
    rw [hl] at hi
    refine ⟨.int (lo + (i : Int)), ?_, .inl ⟨e1, ?_⟩⟩
    · unfold rngL
      rw [List.getElem?_map, List.getElem?_range hi]
      rfl
    · rw [ex]
      exact .int _
  · rw [hl] at hi
    exact hi
theorem s_Ie (hK : c.K = X.K) (ha : PE X x (TEr c W ba ea)) : PI X tg x (TIr c W ba (.e ea)) := ⟨fun pins s σ H R Iv h => by
  obtain ⟨G, L, m, ρ, E, h⟩ := h
  rw [evI] at h
  have q := PstG.bind h
  cases he : evE c.cfg ea ρ m with
  | stuck => rw [he] at q; exact (show False from q).elim
  | err k m1 =>
    refine (pi_list ha).run pins s σ H R Iv ⟨G, L, m, ρ, E, ?_⟩
    rw [he] at q ⊢
    exact q
  | ok d m1 =>
    cases d with
    | lst ds =>
      refine (pi_list ha).run pins s σ H R Iv ⟨G, L, m, ρ, E, ?_⟩
      rw [he] at q ⊢
      refine fun H' L' st ok v r => ?_
      obtain ⟨a, e1, hx, src⟩ := src_lst r
      have q2 := q H' L' st ok
      refine ⟨a, e1, hK ▸ hx, ?_⟩
      have q3 := q2 H' L' (Stp.refl _ _) ok (Itl c.K a) src
      rw [hK] at q3
      exact q3
    | tup ds =>
      refine (pi_tup ha).run pins s σ H R Iv ⟨G, L, m, ρ, E, ?_⟩
      rw [he] at q ⊢
      refine fun H' L' st ok v r => ?_
      obtain ⟨a, e1, hx, src⟩ := src_tup r
      have q2 := q H' L' st ok
      refine ⟨a, e1, hK ▸ hx, ?_⟩
      have q3 := q2 H' L' (Stp.refl _ _) ok (Itt c.K a) src
      rw [hK] at q3
      exact q3
    | str t =>
      refine (pi_str ha).run pins s σ H R Iv ⟨G, L, m, ρ, E, ?_⟩
      rw [he] at q ⊢
      refine fun H' L' st ok v r => ?_
      have q2 := q H' L' st ok
      exact ⟨S t, r.str.1, q2 H' L' (Stp.refl _ _) ok (Its (S t)) (src_str r.str.2)⟩
    | _ =>
      refine (pi_list ha).run pins s σ H R Iv ⟨G, L, m, ρ, E, ?_⟩
      rw [he] at q ⊢
      exact fun H' L' st ok v r => (show False from q H' L' st ok).elim⟩
theorem rngOk_of {i : Int} (h : rngOk i = true) : -(2 ^ 62) ≤ i ∧ i < 2 ^ 62 := by
  unfold rngOk at h
  simpa [Bool.and_eq_true, decide_eq_true_eq] using h
theorem s_I1 {p : Pos} (hg : Gl X "range") (hm : X.mg "range" = none) (ha : PE X x (TEr c W false ea)) (hn : notStar x = true) : PI X tg (.Call (.Name "range" p) [x] [] pos) (TIr c W ba (.rng1 ea)) := ⟨fun pins s σ H R Iv h => by
  obtain ⟨G, L, m, ρ, E, h⟩ := h
  rw [evI] at h
  refine (pi_range1 hg hm (pa_cons ha pa_nil (star_of hn)) (star_of hn)).run pins s σ H R Iv ?_
  refine ⟨G, L, m, ρ, E, (PstG.bind h).imp fun d m1 H1 L1 e s1 ok q v r => ?_⟩
  cases d with
  | int n =>
    by_cases hz : (rngOk n && decide (n.toNat ≤ sizeD)) = true
    · have q' : PstG c W G L1 σ H1 _ (Res.opt (if (rngOk n && decide (n.toNat ≤ sizeD)) = true then some (rngL 0 n.toNat) else none) m1) := q
      rw [if_pos hz] at q'
      rw [Bool.and_eq_true, decide_eq_true_eq] at hz
      exact ⟨n, by rw [r.int], (rngOk_of hz.1).1, (rngOk_of hz.1).2, q' H1 L1 (Stp.refl _ _) ok _ (src_rng 0 hz.2)⟩
    · have q' : PstG c W G L1 σ H1 _ (Res.opt (if (rngOk n && decide (n.toNat ≤ sizeD)) = true then some (rngL 0 n.toNat) else none) m1) := q
      rw [if_neg hz] at q'
      exact (show False from q').elim
  | _ => exact (show False from q).elim⟩
theorem s_I2 {p : Pos} (hg : Gl X "range") (hm : X.mg "range" = none) (ha : PE X x (TEr c W false ea)) (hb : PE X y (TEr c W false eb)) (hn : notStar x = true) (hn2 : notStar y = true) : PI X tg (.Call (.Name "range" p) [x, y] [] pos) (TIr c W ba (.rng2 ea eb)) := ⟨fun pins s σ H R Iv h => by
  obtain ⟨G, L, m, ρ, E, h⟩ := h
  rw [evI] at h
  have s2 : starEach [y] X.env = [(false, eval y X.env)] := star_of hn2
  refine (pi_range2 hg hm (pa_cons ha (pa_cons hb pa_nil s2) (star_of hn)) (by rw [star_of hn, s2]) s2).run pins s σ H R Iv ?_
  refine ⟨G, L, m, ρ, E, (PstG.bind h).imp fun d m1 H1 L1 e s1 ok q v r => ?_⟩
  have E1 := E.step s1 ok
  refine ⟨G, L1, m1, ρ, E1, (PstG.bind q).imp fun d2 m2 H2 L2 e2 s2 ok2 q2 v2 r2 => ?_⟩
  cases d with
  | int n =>
    cases d2 with
    | int k =>
      by_cases hz : (rngOk n && rngOk k && decide ((k - n).toNat ≤ sizeD)) = true
      · have q' : PstG c W G L2 σ H2 _ (Res.opt (if (rngOk n && rngOk k && decide ((k - n).toNat ≤ sizeD)) = true then some (rngL n (k - n).toNat) else none) m2) := q2
        rw [if_pos hz] at q'
        rw [Bool.and_eq_true, Bool.and_eq_true, decide_eq_true_eq] at hz
        exact ⟨n, k, by rw [r.int, r2.int], ⟨(rngOk_of hz.1.1).1, (rngOk_of hz.1.1).2, (rngOk_of hz.1.2).1, (rngOk_of hz.1.2).2⟩, q' H2 L2 (Stp.refl _ _) ok2 _ (src_rng n hz.2)⟩
      · have q' : PstG c W G L2 σ H2 _ (Res.opt (if (rngOk n && rngOk k && decide ((k - n).toNat ≤ sizeD)) = true then some (rngL n (k - n).toNat) else none) m2) := q2
        rw [if_neg hz] at q'
        exact (show False from q').elim
    | _ => exact (show False from q2).elim
  | _ => exact (show False from q2).elim⟩
theorem src_rngC {K : PySem.W.Frag} {P : (Nat → Option Addr) → Hp → Hp → Prop} (lo c : Int) {n : Nat} (z : n ≤ sizeLine) : Src K P (Itc lo c n) (rngS lo c n) := by
  have hl : (rngS lo c n).length = n := by unfold rngS; rw [List.length_map, List.length_range]
  refine ⟨by rw [hl]; exact z, fun A' Hk' H' i p hi => ?_, fun A' Hk' H' i x H2 p hi y => ?_, fun A' Hk' H' i p hi => ?_⟩
  · rw [hl] at hi
    exact hi
  · obtain ⟨e1, ex⟩ := y
    rw [hl] at hi
    refine ⟨.int (lo + (i : Int) * c), ?_, .inl ⟨e1, ?_⟩⟩
    · unfold rngS
      rw [List.getElem?_map, List.getElem?_range hi]
      rfl
    · rw [ex]
      exact .int _
  · rw [hl] at hi
    exact hi
theorem s_I3 {z : Expr} {ec : E} {p : Pos} (hg : Gl X "range") (hm : X.mg "range" = none) (ha : PE X x (TEr c W false ea)) (hb : PE X y (TEr c W false eb)) (hc : PE X z (TEr c W false ec)) (hn : notStar x = true) (hn2 : notStar y = true) (hn3 : notStar z = true) : PI X tg (.Call (.Name "range" p) [x, y, z] [] pos) (TIr c W ba (.rng3 ea eb ec)) := ⟨fun pins s σ H R Iv h => by
  obtain ⟨G, L, m, ρ, E, h⟩ := h
  rw [evI] at h
  have s3 : starEach [z] X.env = [(false, eval z X.env)] := star_of hn3
  have s2 : starEach [y, z] X.env = [(false, eval y X.env), (false, eval z X.env)] := (star_of hn2).trans (by rw [s3])
  refine (pi_range3 hg hm (pa_cons ha (pa_cons hb (pa_cons hc pa_nil s3) (star_of hn2)) (star_of hn)) (by rw [star_of hn, s2]) (by rw [s2]; rfl)).run pins s σ H R Iv ?_
  refine ⟨G, L, m, ρ, E, (PstG.bind h).imp fun d m1 H1 L1 e s1 ok q v r => ?_⟩
  have E1 := E.step s1 ok
  refine ⟨G, L1, m1, ρ, E1, (PstG.bind q).imp fun d2 m2 H2 L2 e2 s2 ok2 q2 v2 r2 => ?_⟩
  have E2 := E1.step s2 ok2
  refine ⟨G, L2, m2, ρ, E2, (PstG.bind q2).imp fun d3 m3 H3 L3 e3 s3 ok3 q3 v3 r3 => ?_⟩
  cases d with
  | int n =>
    cases d2 with
    | int k =>
      cases d3 with
      | int w =>
        by_cases hz : w ≠ 0 ∧ w.natAbs < 1073741824 ∧ Builtin.Range.small n k w = true ∧ 0 ≤ Builtin.Range.rangeSize n k w ∧ (Builtin.Range.rangeSize n k w).toNat ≤ sizeD
        · have q' : PstG c W G L3 σ H3 _ (Res.opt (if w ≠ 0 ∧ w.natAbs < 1073741824 ∧ Builtin.Range.small n k w = true ∧ 0 ≤ Builtin.Range.rangeSize n k w ∧ (Builtin.Range.rangeSize n k w).toNat ≤ sizeD then some (rngS n w (Builtin.Range.rangeSize n k w).toNat) else none) m3) := q3
          rw [if_pos hz] at q'
          exact ⟨n, k, w, _, by rw [r.int, r2.int, r3.int], ⟨hz.1, hz.2.1, hz.2.2.1, (Int.toNat_of_nonneg hz.2.2.2.1).symm⟩, q' H3 L3 (Stp.refl _ _) ok3 _ (src_rngC n w hz.2.2.2.2)⟩
        · have q' : PstG c W G L3 σ H3 _ (Res.opt (if w ≠ 0 ∧ w.natAbs < 1073741824 ∧ Builtin.Range.small n k w = true ∧ 0 ≤ Builtin.Range.rangeSize n k w ∧ (Builtin.Range.rangeSize n k w).toNat ≤ sizeD then some (rngS n w (Builtin.Range.rangeSize n k w).toNat) else none) m3) := q3
          rw [if_neg hz] at q'
          exact (show False from q').elim
      | _ => exact (show False from q3).elim
    | _ => exact (show False from q3).elim
  | _ => exact (show False from q3).elim⟩
theorem wipeE_length (ρ : Env') : ∀ vs : List Nat, (wipeE ρ vs).length = ρ.length
  | [] => rfl
  | v :: vs => by unfold wipeE; rw [List.length_set, wipeE_length ρ vs]
def setS (l : List Nat) (xs : List V) (σ : L2.St) : L2.St := (l.zip xs).foldl (fun σ p => σ.set p.1 (some p.2)) σ
def TGr (K : PySem.W.Frag) (tg : Tgt) : TG := fun v σ H Q => match tg with
  | .one i => Q (σ.set i (some v)) H
  | .many l => ∃ a xs, v = .ref a ∧ (SqT K H a xs ∨ SqL K H a xs) ∧ xs.length = l.length ∧ Q (setS l xs σ) H
theorem ESt.set {K : PySem.W.Frag} {own : Nat → Bool} {G : Addr → Prop} {L : Lay} {m : Mu} {ρ : Env'} {σ : L2.St} {H : Hp} {i : Nat} {v : V} {d : D} (E : ESt K own G L m ρ σ H) (ho : own i = false) (r : Rep K (AL L) (hide (Bd G L) H) v d) : ESt K own G L m (ρ.set i (some d)) (σ.set i (some v)) H where
  gok := E.gok
  sok := E.sok
  len := by rw [List.length_set, List.length_set, E.len]
  slot := fun j e hj => by
    by_cases hij : i = j
    · subst hij
      rw [List.getElem?_set] at hj ⊢
      rw [if_pos rfl] at hj ⊢
      split at hj
      · rename_i hlt
        cases hj
        rw [if_pos (by rw [← E.len]; exact hlt)]
        exact ⟨v, rfl, fun _ => r, fun q => by rw [ho] at q; cases q⟩
      · cases hj
    · rw [List.getElem?_set_ne hij] at hj ⊢
      exact E.slot j e hj
theorem ESt.wipe {K : PySem.W.Frag} {own : Nat → Bool} {G : Addr → Prop} {L : Lay} {m : Mu} {ρ : Env'} {σ : L2.St} {H : Hp} {vs : List Nat} (E : ESt K own G L m ρ σ H) : ESt K own G L m (wipeE ρ vs) (L2.wipe σ vs) H := by
  refine ⟨E.gok, E.sok, by rw [wipeE_length, wipe_length, E.len], fun j e hj => ?_⟩
  have go : ∀ vs : List Nat, (wipeE ρ vs)[j]? = some (some e) → ρ[j]? = some (some e) ∧ (L2.wipe σ vs)[j]? = σ[j]? := fun vs => by
    induction vs with
    | nil => exact fun h => ⟨h, rfl⟩
    | cons v vs ih =>
      intro h
      unfold wipeE at h
      unfold L2.wipe
      by_cases hv : v = j
      · subst hv
        rw [List.getElem?_set] at h
        rw [if_pos rfl] at h
        split at h <;> cases h
      · rw [List.getElem?_set_ne hv] at h ⊢
        exact ih h
  obtain ⟨h1, h2⟩ := go vs hj
  rw [h2]
  exact E.slot j e h1
theorem wipe_set (σ : L2.St) (i : Nat) (v : Option V) : ∀ vs : List Nat, i ∈ vs → L2.wipe (σ.set i v) vs = L2.wipe σ vs
  | w :: vs, h => by
    unfold L2.wipe
    by_cases hi : i ∈ vs
    · rw [wipe_set σ i v vs hi]
    · have e : i = w := by
        rcases List.mem_cons.mp h with h | h
        · exact h
        · exact absurd h hi
      subst e
      have go : ∀ us : List Nat, i ∉ us → L2.wipe (σ.set i v) us = (L2.wipe σ us).set i v := fun us => by
        induction us with
        | nil => exact fun _ => rfl
        | cons u us ih =>
          intro hu
          unfold L2.wipe
          rw [ih (fun q => hu (List.mem_cons_of_mem _ q))]
          exact List.set_comm _ _ (fun q => hu (by rw [q]; exact List.mem_cons_self))
      rw [go vs hi, List.set_set]
theorem wipe_idem (σ : L2.St) (vs : List Nat) : L2.wipe (L2.wipe σ vs) vs = L2.wipe σ vs := by
  apply List.ext_getElem?
  intro j
  have go : ∀ us : List Nat, ∀ τ : L2.St, (L2.wipe τ us)[j]? = if j ∈ us ∧ j < τ.length then some none else τ[j]? := fun us => by
    induction us with
    | nil => intro τ; simp [L2.wipe]
    | cons u us ih =>
      intro τ
      unfold L2.wipe
      rw [List.getElem?_set, wipe_length]
      by_cases hu : u = j
      · subst hu
        rw [if_pos rfl]
        by_cases hl : u < τ.length
        · rw [if_pos hl, if_pos ⟨List.mem_cons_self, hl⟩]
        · rw [if_neg hl, if_neg (fun q => hl q.2)]
          exact (List.getElem?_eq_none (Nat.le_of_not_lt hl)).symm
      · rw [if_neg hu, ih τ]
        by_cases hm : j ∈ us
        · simp [hm]
        · have : ¬ j ∈ u :: us := fun q => (List.mem_cons.mp q).elim (fun e => hu e.symm) hm
          simp [hm, this]
  rw [go, go, wipe_length]
  split <;> rfl
theorem setS_wipe : ∀ (l : List Nat) (xs : List V) (σ : L2.St) (vs : List Nat), (∀ i ∈ l, i ∈ vs) → L2.wipe (setS l xs σ) vs = L2.wipe σ vs
  | [], _, _, _, _ => rfl
  | i :: l, [], _, _, _ => rfl
  | i :: l, x :: xs, σ, vs, h => by
    show L2.wipe (setS l xs (σ.set i (some x))) vs = _
    rw [setS_wipe l xs _ vs (fun j hj => h j (List.mem_cons_of_mem _ hj)), wipe_set _ _ _ _ (h i List.mem_cons_self)]
theorem ESt.bindM {K : PySem.W.Frag} {own : Nat → Bool} {G : Addr → Prop} {L : Lay} {m : Mu} {ρ ρ' : Env'} {σ : L2.St} {H : Hp} {l : List Nat} (E : ESt K own G L m ρ σ H) (ho : ∀ i ∈ l, own i = false)
    {Q : L2.St → Hp → Prop} (q : ∀ σ', ESt K own G L m ρ' σ' H → (∀ vs, (∀ i ∈ l, i ∈ vs) → L2.wipe σ' vs = L2.wipe σ vs) → (∀ i, i ∉ l → ρ'[i]? = ρ[i]? ∧ σ'[i]? = σ[i]?) → Q σ' H) :
    ∀ (ds : List D) (vs : List V), Reps K (AL L) (hide (Bd G L) H) vs ds → (if ds.length = l.length then some ((l.zip ds).foldl (fun ρ p => ρ.set p.1 (some p.2)) ρ) else none) = some ρ' → vs.length = l.length ∧ Q (setS l vs σ) H := by
  have go : ∀ (l : List Nat) (vs : List V) (ds : List D) (ρ : Env') (σ : L2.St), (∀ i ∈ l, own i = false) → Reps K (AL L) (hide (Bd G L) H) vs ds → ESt K own G L m ρ σ H →
      ESt K own G L m ((l.zip ds).foldl (fun ρ p => ρ.set p.1 (some p.2)) ρ) (setS l vs σ) H := fun l => by
    induction l with
    | nil => exact fun vs ds ρ σ _ _ E => E
    | cons i l ih =>
      intro vs ds ρ σ ho rs E
      cases rs with
      | nil => exact E
      | cons r rs => exact ih _ _ _ _ (fun j hj => ho j (List.mem_cons_of_mem _ hj)) rs (E.set (ho i List.mem_cons_self) r)
  have keepR : ∀ (l : List Nat) (ds : List D) (ρ : Env') (j : Nat), j ∉ l → ((l.zip ds).foldl (fun ρ p => ρ.set p.1 (some p.2)) ρ)[j]? = ρ[j]? := fun l => by
    induction l with
    | nil => exact fun ds ρ j _ => rfl
    | cons i l ih =>
      intro ds ρ j hj
      cases ds with
      | nil => rfl
      | cons d ds =>
        show ((l.zip ds).foldl _ (ρ.set i (some d)))[j]? = _
        rw [ih ds _ j fun q => hj (List.mem_cons_of_mem _ q)]
        exact List.getElem?_set_ne fun e => hj (by rw [e]; exact List.mem_cons_self)
  have keepS : ∀ (l : List Nat) (vs : List V) (σ : L2.St) (j : Nat), j ∉ l → (setS l vs σ)[j]? = σ[j]? := fun l => by
    induction l with
    | nil => exact fun ds ρ j _ => rfl
    | cons i l ih =>
      intro vs σ j hj
      cases vs with
      | nil => rfl
      | cons d vs =>
        show (setS l vs (σ.set i (some d)))[j]? = _
        rw [ih vs _ j fun q => hj (List.mem_cons_of_mem _ q)]
        exact List.getElem?_set_ne fun e => hj (by rw [e]; exact List.mem_cons_self)
  exact fun ds vs rs hb' => by
    split at hb'
    · rename_i hz
      cases hb'
      exact ⟨by rw [rs.length, hz], q _ (go l vs ds ρ σ ho rs E) (fun ws h => setS_wipe _ _ _ _ h) fun j hj => ⟨keepR l ds ρ j hj, keepS l vs σ j hj⟩⟩
    · cases hb'
theorem ESt.bind {K : PySem.W.Frag} {own : Nat → Bool} {G : Addr → Prop} {L : Lay} {m : Mu} {ρ ρ' : Env'} {σ : L2.St} {H : Hp} {tg : Tgt} {v : V} {d : D} (E : ESt K own G L m ρ σ H) (r : Rep K (AL L) (hide (Bd G L) H) v d)
    (ho : ∀ i ∈ tg.slots, own i = false) (hb : bindT tg d ρ = some ρ') {Q : L2.St → Hp → Prop} (q : ∀ σ', ESt K own G L m ρ' σ' H → (∀ vs, (∀ i ∈ tg.slots, i ∈ vs) → L2.wipe σ' vs = L2.wipe σ vs) → (∀ i, i ∉ tg.slots → ρ'[i]? = ρ[i]? ∧ σ'[i]? = σ[i]?) → Q σ' H) : TGr K tg v σ H Q := by
  cases tg with
  | one i =>
    cases hb
    exact q _ (E.set (ho i List.mem_cons_self) r) (fun vs h => wipe_set _ _ _ _ (h i List.mem_cons_self)) fun j hj => by
      have hij : i ≠ j := fun e => hj (by rw [e]; exact List.mem_cons_self)
      exact ⟨List.getElem?_set_ne hij, List.getElem?_set_ne hij⟩
  | many l =>
    have fin := fun ds vs rs hb' => ESt.bindM (ρ' := ρ') E ho q ds vs rs hb'
    cases d with
    | tup ds =>
      cases r with
      | tup hs rs z => exact ⟨_, _, rfl, .inl (Same.sqT hide_sub hs), fin ds _ rs hb⟩
    | lst ds =>
      cases r with
      | lst hs rs z => exact ⟨_, _, rfl, .inr (Same.sqL hide_sub hs), fin ds _ rs hb⟩
    | _ => cases hb
theorem ESt.bindU {K : PySem.W.Frag} {own : Nat → Bool} {G : Addr → Prop} {L : Lay} {m : Mu} {ρ ρ' : Env'} {σ : L2.St} {H : Hp} {l : List Nat} {v : V} {d : D} (E : ESt K own G L m ρ σ H) (r : RB K false G L H v d)
    (ho : ∀ i ∈ l, own i = false) (hb : bindT (.many l) (dr m d) ρ = some ρ') {Q : L2.St → Hp → Prop} (q : ∀ σ', ESt K own G L m ρ' σ' H → (∀ vs, (∀ i ∈ l, i ∈ vs) → L2.wipe σ' vs = L2.wipe σ vs) → (∀ i, i ∉ l → ρ'[i]? = ρ[i]? ∧ σ'[i]? = σ[i]?) → Q σ' H) : TGr K (.many l) v σ H Q := by
  rcases r.drd E.sok with r | ⟨a, u, e, h, c⟩
  · exact E.bind (tg := .many l) r ho hb q
  · generalize dr m d = x at *
    cases c with
    | lst rs z => exact ⟨a, _, e, .inr (.inl h), E.bindM ho q _ _ rs hb⟩
    | dic rs z => cases hb
theorem s_tg1 {i : Nat} {n : Str} (hN : X.N.Nodup) (hi : X.N[i]? = some n) (hx : Loc X.env.scope n) (hf : X.fn n = true ∨ X.env.scope.names.lookup n = some .local) : PG X (.Name n pos) (TGr X.K (.one i)) := pg_name hN hi hx hf
inductive Tgs (X : Cx) : List Expr → List Nat → Prop
  | nil : Tgs X [] []
  | cons {i : Nat} {n : Str} {pos : Pos} {es : List Expr} {l : List Nat} : X.N[i]? = some n → Loc X.env.scope n → (X.fn n = true ∨ X.env.scope.names.lookup n = some .local) → Tgs X es l → Tgs X (.Name n pos :: es) (i :: l)
theorem Tgs.pgs (hN : X.N.Nodup) : ∀ {es : List Expr} {l : List Nat}, Tgs X es l → PGs X es (fun vs σ H Q => vs.length = l.length ∧ Q (setS l vs σ) H) ∧ (assignEach es X.env).length = l.length ∧ (assignEach es X.env).findIdx? (·.1) = none
  | _, _, .nil => by
    refine ⟨⟨fun pins s σ H vs us Q Iv r h => ?_⟩, rfl, rfl⟩
    have e : vs = [] := List.eq_nil_of_length_eq_zero h.1
    subst e
    exact pgs_nil.run pins s σ H [] us Q Iv r ⟨rfl, h.2⟩
  | _, _, .cons (i := i) (n := n) (es := es) (l := l) hi hx hf t => by
    obtain ⟨p, q1, q2⟩ := Tgs.pgs hN t
    refine ⟨⟨fun pins s σ H vs us Q Iv r h => ?_⟩, congrArg (· + 1) q1, ?_⟩
    · cases vs with
      | nil => cases h.1
      | cons v vs =>
        refine (pgs_cons (pg_name hN hi hx hf) p rfl).run pins s σ H _ us Q Iv r ⟨v, vs, rfl, ?_⟩
        exact ⟨by simpa using h.1, h.2⟩
    · show List.findIdx? _ ((false, _) :: assignEach es X.env) = none
      rw [List.findIdx?_cons, q2]
      rfl
theorem s_tgN {es : List Expr} {l : List Nat} {k : Nat} (hc : X.calm = true) (hN : X.N.Nodup) (t : Tgs X es l) : PG X (.Tuple es k pos) (TGr X.K (.many l)) := by
  obtain ⟨p, q1, q2⟩ := t.pgs hN
  refine ⟨fun pins s σ H v u Q Iv r h => ?_⟩
  obtain ⟨a, xs, e, hs, hz, q⟩ := h
  rcases hs with hs | hs
  · exact (pg_tup hc p q1 q2).run pins s σ H v u Q Iv r ⟨a, xs, e, hs, hz, hz, q⟩
  · exact (pg_unl hc p q1 q2).run pins s σ H v u Q Iv r ⟨a, xs, e, hs, hz, hz, q⟩
end
section
variable {X : Cx} {c : Cn} {W : WX} {ba bb bc : Bool} {ea eb ec : E} {x y z tg : Expr} {pos : Pos}
theorem two_le : 2 ≤ sizeLine := by decide
theorem src_enum {K : PySem.W.Frag} {G : Addr → Prop} {A : Nat → Option Addr} {Hk H : Hp} {a : Addr} {vs : List V} {ds : List D} {b : Bool} (h : SqL K Hk a vs) (rs : Reps K A Hk vs ds) (z : ds.length ≤ sizeLine) : Src K (PPr b G A Hk H) (Ite K a) (ds.zipIdx.map fun p => .tup [.int (p.2 : Nat), p.1]) := by
  have st : ∀ A' Hk' H', PPr b G A Hk H A' Hk' H' → SqL K H' a vs := fun A' Hk' H' p => Same.sqL p.2.2.1 (Same.sqL p.1 h)
  have hl : (ds.zipIdx.map fun p => D.tup [.int (p.2 : Nat), p.1]).length = ds.length := by rw [List.length_map, List.length_zipIdx]
  refine ⟨by rw [hl]; exact z, fun A' Hk' H' i p hi => ?_, fun A' Hk' H' i x H2 p hi y => ?_, fun A' Hk' H' i p hi => ?_⟩
  · rw [hl] at hi
    obtain ⟨u, hu, _⟩ := rs.get (List.getElem?_eq_getElem hi)
    exact ⟨vs, u, st _ _ _ p, hu⟩
  · obtain ⟨T, u, e1, e2, e3, q⟩ := y
    obtain ⟨d, hd, rd⟩ := rs.getV (q vs (st _ _ _ p))
    refine ⟨.tup [.int (i : Nat), d], ?_, .inr ⟨T, _, _, e1, rfl, e2, e3, .cons (.int _) (.cons (rd.mono p.1 p.2.1) .nil), two_le⟩⟩
    rw [List.getElem?_map, List.getElem?_zipIdx, hd]
    simp
  · rw [hl] at hi
    exact ⟨vs, st _ _ _ p, by rw [rs.length]; exact hi⟩
theorem src_enumT {K : PySem.W.Frag} {G : Addr → Prop} {A : Nat → Option Addr} {Hk H : Hp} {a : Addr} {vs : List V} {ds : List D} {b : Bool} (h : SqT K Hk a vs) (rs : Reps K A Hk vs ds) (z : ds.length ≤ sizeLine) : Src K (PPr b G A Hk H) (ET.IteT K a) (ds.zipIdx.map fun p => .tup [.int (p.2 : Nat), p.1]) := by
  have st : ∀ A' Hk' H', PPr b G A Hk H A' Hk' H' → SqT K H' a vs := fun A' Hk' H' p => Same.sqT p.2.2.1 (Same.sqT p.1 h)
  have hl : (ds.zipIdx.map fun p => D.tup [.int (p.2 : Nat), p.1]).length = ds.length := by rw [List.length_map, List.length_zipIdx]
  refine ⟨by rw [hl]; exact z, fun A' Hk' H' i p hi => ?_, fun A' Hk' H' i x H2 p hi y => ?_, fun A' Hk' H' i p hi => ?_⟩
  · rw [hl] at hi
    obtain ⟨u, hu, _⟩ := rs.get (List.getElem?_eq_getElem hi)
    exact ⟨vs, u, st _ _ _ p, hu⟩
  · obtain ⟨T, u, e1, e2, e3, q⟩ := y
    obtain ⟨d, hd, rd⟩ := rs.getV (q vs (st _ _ _ p))
    refine ⟨.tup [.int (i : Nat), d], ?_, .inr ⟨T, _, _, e1, rfl, e2, e3, .cons (.int _) (.cons (rd.mono p.1 p.2.1) .nil), two_le⟩⟩
    rw [List.getElem?_map, List.getElem?_zipIdx, hd]
    simp
  · rw [hl] at hi
    exact ⟨vs, st _ _ _ p, by rw [rs.length]; exact hi⟩
theorem src_revL {K : PySem.W.Frag} {G : Addr → Prop} {A : Nat → Option Addr} {Hk H : Hp} {a : Addr} {vs : List V} {ds : List D} {b : Bool} (h : SqL K Hk a vs) (rs : Reps K A Hk vs ds) (z : ds.length ≤ sizeLine) : Src K (PPr b G A Hk H) (Itv K a vs.length) ds.reverse := by
  have st : ∀ A' Hk' H', PPr b G A Hk H A' Hk' H' → SqL K H' a vs := fun A' Hk' H' p => Same.sqL p.2.2.1 (Same.sqL p.1 h)
  have hl := rs.length
  refine ⟨by rw [List.length_reverse]; exact z, fun A' Hk' H' i p hi => ?_, fun A' Hk' H' i x H2 p hi y => ?_, fun A' Hk' H' i p hi => ?_⟩
  · rw [List.length_reverse] at hi
    have hj : vs.length - 1 - i < vs.length := by omega
    exact ⟨by omega, vs, _, st _ _ _ p, List.getElem?_eq_getElem hj⟩
  · rw [List.length_reverse] at hi
    obtain ⟨e, q⟩ := y
    obtain ⟨d, hd, rd⟩ := rs.getV (q vs (st _ _ _ p))
    refine ⟨d, ?_, .inl ⟨e, rd.mono p.1 p.2.1⟩⟩
    rw [List.getElem?_reverse hi, ← hl]
    exact hd
  · rw [List.length_reverse] at hi
    show vs.length ≤ i
    omega
theorem src_revT {K : PySem.W.Frag} {G : Addr → Prop} {A : Nat → Option Addr} {Hk H : Hp} {a : Addr} {vs : List V} {ds : List D} {b : Bool} (h : SqT K Hk a vs) (rs : Reps K A Hk vs ds) (z : ds.length ≤ sizeLine) : Src K (PPr b G A Hk H) (RT.ItvT K a vs.length) ds.reverse := by
  have st : ∀ A' Hk' H', PPr b G A Hk H A' Hk' H' → SqT K H' a vs := fun A' Hk' H' p => Same.sqT p.2.2.1 (Same.sqT p.1 h)
  have hl := rs.length
  refine ⟨by rw [List.length_reverse]; exact z, fun A' Hk' H' i p hi => ?_, fun A' Hk' H' i x H2 p hi y => ?_, fun A' Hk' H' i p hi => ?_⟩
  · rw [List.length_reverse] at hi
    have hj : vs.length - 1 - i < vs.length := by omega
    exact ⟨by omega, vs, _, st _ _ _ p, List.getElem?_eq_getElem hj⟩
  · rw [List.length_reverse] at hi
    obtain ⟨e, q⟩ := y
    obtain ⟨d, hd, rd⟩ := rs.getV (q vs (st _ _ _ p))
    refine ⟨d, ?_, .inl ⟨e, rd.mono p.1 p.2.1⟩⟩
    rw [List.getElem?_reverse hi, ← hl]
    exact hd
  · rw [List.length_reverse] at hi
    show vs.length ≤ i
    omega
theorem zw_get {a b : List D} {i : Nat} {x y : D} (h1 : a[i]? = some x) (h2 : b[i]? = some y) : (List.zipWith (fun x y => D.tup [x, y]) a b)[i]? = some (.tup [x, y]) := by
  rw [List.getElem?_zipWith, h1, h2]
theorem src_zipL {K : PySem.W.Frag} {G : Addr → Prop} {A : Nat → Option Addr} {Hk H : Hp} {a a2 : Addr} {vs vs2 : List V} {ds ds2 : List D} {b : Bool} (h : SqL K Hk a vs) (rs : Reps K A Hk vs ds) (z : ds.length ≤ sizeLine) (h2 : SqL K Hk a2 vs2) (rs2 : Reps K A Hk vs2 ds2) : Src K (PPr b G A Hk H) (Itz K a a2) (List.zipWith (fun x y => .tup [x, y]) ds ds2) := by
  have st : ∀ A' Hk' H', PPr b G A Hk H A' Hk' H' → SqL K H' a vs ∧ SqL K H' a2 vs2 := fun A' Hk' H' p => ⟨Same.sqL p.2.2.1 (Same.sqL p.1 h), Same.sqL p.2.2.1 (Same.sqL p.1 h2)⟩
  have hl := rs.length
  have hl2 := rs2.length
  refine ⟨by rw [List.length_zipWith]; omega, fun A' Hk' H' i p hi => ?_, fun A' Hk' H' i x H2 p hi y => ?_, fun A' Hk' H' i p hi => ?_⟩
  · rw [List.length_zipWith] at hi
    exact ⟨vs, vs2, _, _, (st _ _ _ p).1, (st _ _ _ p).2, List.getElem?_eq_getElem (by omega), List.getElem?_eq_getElem (by omega)⟩
  · obtain ⟨T, u, w, e1, e2, e3, q, q2⟩ := y
    obtain ⟨d, hd, rd⟩ := rs.getV (q vs (st _ _ _ p).1)
    obtain ⟨d2, hd2, rd2⟩ := rs2.getV (q2 vs2 (st _ _ _ p).2)
    exact ⟨.tup [d, d2], zw_get hd hd2, .inr ⟨T, _, _, e1, rfl, e2, e3, .cons (rd.mono p.1 p.2.1) (.cons (rd2.mono p.1 p.2.1) .nil), two_le⟩⟩
  · rw [List.length_zipWith] at hi
    exact ⟨vs, vs2, (st _ _ _ p).1, (st _ _ _ p).2, by omega⟩
theorem src_zipT {K : PySem.W.Frag} {G : Addr → Prop} {A : Nat → Option Addr} {Hk H : Hp} {a a2 : Addr} {vs vs2 : List V} {ds ds2 : List D} {b : Bool} (h : SqT K Hk a vs) (rs : Reps K A Hk vs ds) (z : ds.length ≤ sizeLine) (h2 : SqT K Hk a2 vs2) (rs2 : Reps K A Hk vs2 ds2) : Src K (PPr b G A Hk H) (RZ.ItzT K a a2) (List.zipWith (fun x y => .tup [x, y]) ds ds2) := by
  have st : ∀ A' Hk' H', PPr b G A Hk H A' Hk' H' → SqT K H' a vs ∧ SqT K H' a2 vs2 := fun A' Hk' H' p => ⟨Same.sqT p.2.2.1 (Same.sqT p.1 h), Same.sqT p.2.2.1 (Same.sqT p.1 h2)⟩
  have hl := rs.length
  have hl2 := rs2.length
  refine ⟨by rw [List.length_zipWith]; omega, fun A' Hk' H' i p hi => ?_, fun A' Hk' H' i x H2 p hi y => ?_, fun A' Hk' H' i p hi => ?_⟩
  · rw [List.length_zipWith] at hi
    exact ⟨vs, vs2, _, _, (st _ _ _ p).1, (st _ _ _ p).2, List.getElem?_eq_getElem (by omega), List.getElem?_eq_getElem (by omega)⟩
  · obtain ⟨T, u, w, e1, e2, e3, q, q2⟩ := y
    obtain ⟨d, hd, rd⟩ := rs.getV (q vs (st _ _ _ p).1)
    obtain ⟨d2, hd2, rd2⟩ := rs2.getV (q2 vs2 (st _ _ _ p).2)
    exact ⟨.tup [d, d2], zw_get hd hd2, .inr ⟨T, _, _, e1, rfl, e2, e3, .cons (rd.mono p.1 p.2.1) (.cons (rd2.mono p.1 p.2.1) .nil), two_le⟩⟩
  · rw [List.length_zipWith] at hi
    exact ⟨vs, vs2, (st _ _ _ p).1, (st _ _ _ p).2, by omega⟩
theorem rep_lst {K : PySem.W.Frag} {A : Nat → Option Addr} {H : Hp} {v : V} {ds : List D} (r : Rep K A H v (.lst ds)) : ∃ a vs, v = .ref a ∧ SqL K H a vs ∧ Reps K A H vs ds ∧ ds.length ≤ sizeLine := by
  cases r with
  | lst h r z => exact ⟨_, _, rfl, h, r, z⟩
theorem rep_tup {K : PySem.W.Frag} {A : Nat → Option Addr} {H : Hp} {v : V} {ds : List D} (r : Rep K A H v (.tup ds)) : ∃ a vs, v = .ref a ∧ SqT K H a vs ∧ Reps K A H vs ds ∧ ds.length ≤ sizeLine := by
  cases r with
  | tup h r z => exact ⟨_, _, rfl, h, r, z⟩
theorem s_Ienum {p tpos : Pos} {elts : List Expr} {kk : Nat} (hK : c.K = X.K) (hg : Gl X "enumerate") (hm : X.mg "enumerate" = none) (ha : PE X x (TEr c W false ea)) (hn : notStar x = true) : PI X (.Tuple elts kk tpos) (.Call (.Name "enumerate" p) [x] [] pos) (TIr c W ba (.enum ea)) := ⟨fun pins s σ H R Iv h => by
  obtain ⟨G, L, m, ρ, E, h⟩ := h
  rw [evI] at h
  refine (ET.pi_enumA hg hm (pa_cons ha pa_nil (star_of hn)) (star_of hn)).run pins s σ H R Iv ?_
  refine ⟨G, L, m, ρ, E, (PstG.bind h).imp fun d m1 H1 L1 e s1 ok q v r => ?_⟩
  cases d with
  | lst ds =>
    obtain ⟨a, vs, e1, hs, rs, z⟩ := rep_lst r.rep
    exact ⟨a, vs, by rw [e1], .inl ⟨hK ▸ Same.sqL hide_sub hs, hK ▸ q H1 L1 (Stp.refl _ _) ok _ (src_enum hs rs z)⟩⟩
  | tup ds =>
    obtain ⟨a, vs, e1, hs, rs, z⟩ := rep_tup r.rep
    exact ⟨a, vs, by rw [e1], .inr ⟨hK ▸ Same.sqT hide_sub hs, hK ▸ q H1 L1 (Stp.refl _ _) ok _ (src_enumT hs rs z)⟩⟩
  | _ => exact (show False from q).elim⟩
theorem s_Irev {p : Pos} (hK : c.K = X.K) (hg : Gl X "reversed") (hm : X.mg "reversed" = none) (ha : PE X x (TEr c W false ea)) (hn : notStar x = true) : PI X tg (.Call (.Name "reversed" p) [x] [] pos) (TIr c W ba (.rev ea)) := ⟨fun pins s σ H R Iv h => by
  obtain ⟨G, L, m, ρ, E, h⟩ := h
  rw [evI] at h
  refine (RT.pi_revA hg hm ha (star_of hn)).run pins s σ H R Iv ?_
  refine ⟨G, L, m, ρ, E, (PstG.bind h).imp fun d m1 H1 L1 e s1 ok q v r => ?_⟩
  cases d with
  | lst ds =>
    obtain ⟨a, vs, e1, hs, rs, z⟩ := rep_lst r.rep
    exact ⟨a, vs, e1, .inl ⟨hK ▸ Same.sqL hide_sub hs, hK ▸ q H1 L1 (Stp.refl _ _) ok _ (src_revL hs rs z)⟩⟩
  | tup ds =>
    obtain ⟨a, vs, e1, hs, rs, z⟩ := rep_tup r.rep
    exact ⟨a, vs, e1, .inr ⟨hK ▸ Same.sqT hide_sub hs, hK ▸ q H1 L1 (Stp.refl _ _) ok _ (src_revT hs rs z)⟩⟩
  | _ => exact (show False from q).elim⟩
theorem s_Izip {p tpos : Pos} {elts : List Expr} {kk : Nat} (hK : c.K = X.K) (hg : Gl X "zip") (hm : X.mg "zip" = none) (ha : PE X x (TEr c W false ea)) (hb : PE X y (TEr c W false eb)) (hn : notStar x = true) (hn2 : notStar y = true) : PI X (.Tuple elts kk tpos) (.Call (.Name "zip" p) [x, y] [] pos) (TIr c W ba (.zip ea eb)) := ⟨fun pins s σ H R Iv h => by
  obtain ⟨G, L, m, ρ, E, h⟩ := h
  rw [evI] at h
  refine (RZ.pi_zipA hg hm (pa_cons ha (pa_cons hb pa_nil (star_of hn2)) (star_of hn)) (star_of hn) (by rw [star_of hn2]; rfl)).run pins s σ H R Iv ?_
  refine ⟨G, L, m, ρ, E, (PstG.bind h).imp fun d m1 H1 L1 e s1 ok q v r => ?_⟩
  have E1 := E.step s1 ok
  refine ⟨G, L1, m1, ρ, E1, (PstG.bind q).imp fun d2 m2 H2 L2 e2 s2 ok2 q2 v2 r2 => ?_⟩
  have r' := r.step E1 s2
  cases d with
  | lst ds =>
    cases d2 with
    | lst ds2 =>
      obtain ⟨a, vs, e1, hs, rs, z⟩ := rep_lst r'.rep
      obtain ⟨a2, vs2, e2, hs2, rs2, z2⟩ := rep_lst r2.rep
      exact ⟨a, a2, vs, vs2, by rw [e1, e2], .inl ⟨hK ▸ Same.sqL hide_sub hs, hK ▸ Same.sqL hide_sub hs2, hK ▸ q2 H2 L2 (Stp.refl _ _) ok2 _ (src_zipL hs rs z hs2 rs2)⟩⟩
    | _ => exact (show False from q2).elim
  | tup ds =>
    cases d2 with
    | tup ds2 =>
      obtain ⟨a, vs, e1, hs, rs, z⟩ := rep_tup r'.rep
      obtain ⟨a2, vs2, e2, hs2, rs2, z2⟩ := rep_tup r2.rep
      exact ⟨a, a2, vs, vs2, by rw [e1, e2], .inr ⟨hK ▸ Same.sqT hide_sub hs, hK ▸ Same.sqT hide_sub hs2, hK ▸ q2 H2 L2 (Stp.refl _ _) ok2 _ (src_zipT hs rs z hs2 rs2)⟩⟩
    | _ => exact (show False from q2).elim
  | _ =>
    cases d2 <;> exact (show False from q2).elim⟩
end
end MP
set_option maxRecDepth 100000
set_option maxHeartbeats 4000000
set_option autoImplicit false
namespace MP
open PySem L2
section
variable {X : Cx} {c : Cn} {W : WX} {ba bb bc : Bool} {ea eb ec : E} {x y z tg : Expr} {pos : Pos}
def W0 : WX := fun _ _ _ _ => False
def TKr (c : Cn) (W : WX) (o : OE) : TT := fun σ H Q => ∃ G L m ρ, ESt c.K c.own G L m ρ σ H ∧ PstT c W G L σ H Q (evK c.cfg o ρ m)
theorem s_kno : PTs X [] (TKr c W .no) := ⟨fun pins s σ H Q I h => by
  obtain ⟨G, L, m, ρ, E, h⟩ := h
  rw [evK] at h
  exact pts_nil.run pins s σ H Q I (h H L (Stp.refl _ _) E.sok)⟩
theorem s_kyes (ha : PT X x (TTr c W ea)) : PTs X [x] (TKr c W (.yes ea)) := ⟨fun pins s σ H Q I h => by
  obtain ⟨G, L, m, ρ, E, h⟩ := h
  rw [evK] at h
  exact (pts_one ha).run pins s σ H Q I ⟨G, L, m, ρ, E, h⟩⟩
theorem ESt.guard {K : PySem.W.Frag} {own : Nat → Bool} {G : Addr → Prop} {L : Lay} {m : Mu} {ρ : Env'} {σ : L2.St} {H : Hp} {p : Addr} {o : HO} (E : ESt K own G L m ρ σ H) (n : H p = none) :
    ESt K own (fun a => G a ∨ a = p) L m ρ σ (upd H p o) ∧ Same (hide (Bd G L) H) (hide (Bd (fun a => G a ∨ a = p) L) (upd H p o)) := by
  have nb := E.nb E.sok.foot n
  have np : ∀ a u, H a = some u → a ≠ p := fun a u h => ne_of_none h n
  have sm : Same (hide (Bd G L) H) (hide (Bd (fun a => G a ∨ a = p) L) (upd H p o)) := hide_same fun a u hb h => ⟨fun q => by
    rcases q with (q | q) | q
    · exact hb (.inl q)
    · exact np a u h q
    · exact hb (.inr q), by rw [upd_ne (np a u h)]; exact h⟩
  refine ⟨⟨fun a g => ?_, ?_, E.len, fun i d e => ?_⟩, sm⟩
  · rcases g with g | g
    · obtain ⟨⟨u, h⟩, nf⟩ := E.gok a g
      exact ⟨⟨u, by rw [upd_ne (np a u h)]; exact h⟩, nf⟩
    · subst g
      exact ⟨⟨o, upd_same⟩, fun q => nb (.inr q)⟩
  · exact E.sok.own fun a u ng h => ⟨fun q => q.elim ng (np a u h), by rw [upd_ne (np a u h)]; exact h⟩
  · obtain ⟨v, h1, h2, h3⟩ := E.slot i d e
    refine ⟨v, h1, fun q => (h2 q).mono sm fun _ _ h => h, fun q => ?_⟩
    obtain ⟨a, e1, g, cr⟩ := h3 q
    exact ⟨a, e1, .inl g, cr.mono sm (fun _ _ h => h) fun u h => by rw [upd_ne (np a u h)]; exact h⟩
theorem ESt.rewrite {K : PySem.W.Frag} {own : Nat → Bool} {G : Addr → Prop} {L : Lay} {m : Mu} {ρ : Env'} {σ : L2.St} {H : Hp} {p : Addr} {o : HO} (hs : ∀ (i : Nat) (d : D), own i = true → ρ[i]? = some (some d) → σ[i]? ≠ some (some (.ref p))) (E : ESt K own (fun a => G a ∨ a = p) L m ρ σ H) :
    ESt K own (fun a => G a ∨ a = p) L m ρ σ (upd H p o) ∧ Same (hide (Bd (fun a => G a ∨ a = p) L) H) (hide (Bd (fun a => G a ∨ a = p) L) (upd H p o)) := by
  have sm : Same (hide (Bd (fun a => G a ∨ a = p) L) H) (hide (Bd (fun a => G a ∨ a = p) L) (upd H p o)) := hide_same fun a u hb h => ⟨hb, by
    rw [upd_ne (fun q => hb (.inl (.inr q)))]; exact h⟩
  refine ⟨⟨fun a g => ?_, ?_, E.len, fun i d e => ?_⟩, sm⟩
  · obtain ⟨⟨u, h⟩, nf⟩ := E.gok a g
    by_cases hp : a = p
    · subst hp
      exact ⟨⟨o, upd_same⟩, nf⟩
    · exact ⟨⟨u, by rw [upd_ne hp]; exact h⟩, nf⟩
  · exact E.sok.own fun a u nq h => ⟨nq, by rw [upd_ne (fun q => nq (.inr q))]; exact h⟩
  · obtain ⟨v, h1, h2, h3⟩ := E.slot i d e
    refine ⟨v, h1, fun q => (h2 q).mono sm fun _ _ h => h, fun q => ?_⟩
    obtain ⟨a, e1, g, cr⟩ := h3 q
    have na : a ≠ p := fun z => hs i d q e (by rw [h1, e1, z])
    exact ⟨a, e1, g, cr.mono sm (fun _ _ h => h) fun u h => by rw [upd_ne na]; exact h⟩
theorem turns_cons {f : D → Mu → Res (Option D)} {x : D} {xs ys : List D} {m m' : Mu} (h : turns f (x :: xs) m = .ok ys m') : ∃ o m1 r, f x m = .ok o m1 ∧ turns f xs m1 = .ok r m' ∧ ys = (match o with | some y => y :: r | none => r) := by
  rw [turns] at h
  obtain ⟨o, m1, h1, h⟩ := Res.bind_eq_ok h
  obtain ⟨r, m2, h2, h⟩ := Res.bind_eq_ok h
  cases h
  exact ⟨o, m1, r, h1, h2, rfl⟩
theorem PstG.ok_of {α : Type} {c : Cn} {G : Addr → Prop} {L : Lay} {σ : L2.St} {H : Hp} {q : α → Mu → Hp → Lay → Prop} {a : α} {m : Mu} (h : ∀ H' L', Stp L L' H H' → SOk c.K G L' m H' → q a m H' L') : PstG c W0 G L σ H q (.ok a m) := h
theorem Yld.told {K : PySem.W.Frag} {own : Nat → Bool} {G : Addr → Prop} {L : Lay} {m : Mu} {ρ : Env'} {σ : L2.St} {H H' : Hp} {x : V} {d : D} (E : ESt K own G L m ρ σ H) (y : Yld K (AL L) (hide (Bd G L) H) H x d H') : Same H H' ∧ Rep K (AL L) (hide (Bd G L) H') x d := by
  rcases y with ⟨e, r⟩ | ⟨T, vs, ds, e1, e2, n, e3, rs, z⟩
  · subst e
    exact ⟨fun _ _ h => h, r⟩
  · subst e1 e2 e3
    have nb := E.nb E.sok.foot n
    have sm : Same H (upd H T (.tup vs)) := fun a u e => by rw [upd_ne (ne_of_none e n)]; exact e
    exact ⟨sm, .tup (.inl (.inl (Rep.new n nb))) (rs.mono (Stp.upd n).hid fun _ _ h => h) z⟩
def turnF (c : Cn) (tgt : Tgt) (oc : OE) (ea : E) (ρ : Env') (x : D) (m2 : Mu) : Res (Option D) := match bindT tgt x (wipeE ρ tgt.slots) with
    | some ρ' => (evK c.cfg oc ρ' m2).bind fun t m3 => if t = true then (evE c.cfg ea ρ' m3).bind fun y m4 => .ok (some y) m4 else .ok none m3
    | none => .stuck
theorem comp_core {tgt : Tgt} {oc : OE} {G : Addr → Prop} {L1 : Lay} {m1 m5 : Mu} {ρ : Env'} {σ : L2.St} {H1 : Hp} {J : It} {xs ys : List D} {Q : VK} (ho : ∀ i ∈ tgt.slots, c.own i = false) (E1 : ESt c.K c.own G L1 m1 ρ σ H1)
    (src : Src c.K (PPr bc G (AL L1) (hide (Bd G L1) H1) H1) J xs) (hys : turns (turnF c tgt oc ea ρ) xs m1 = .ok ys m5) (Dl : Addr) (hD : H1 Dl = none)
    (q' : ∀ H' L' vs, Stp L1 L' H1 H' → SOk c.K (fun a => G a ∨ a = Dl) L' m5 H' → H' Dl = some (.lst vs) → Reps c.K (AL L') (hide (Bd (fun a => G a ∨ a = Dl) L') H') vs ys → ys.length ≤ sizeLine → Q (.ref Dl) H') :
    ∃ W : Nat → Nat → Hp → Prop, (∃ m, W 0 m (L2.upd H1 Dl (.lst []))) ∧ ∀ i m H, W i m H →
      (J.stop i H ∧ Q (.ref Dl) H) ∨ (J.go i H ∧ ∃ Nx : Hp → Prop, (∀ H', Nx H' → ∃ m', m' < m ∧ W (i + 1) m' H') ∧ ∀ x H', J.yld i H x H' → TGr c.K tgt x (L2.wipe σ tgt.slots) H' fun σ2 H2 => L2.wipe σ2 tgt.slots = L2.wipe σ tgt.slots ∧ TKr c W0 oc σ2 H2 fun b H3 =>
        if b = true then TEr c W0 false ea σ2 H3 fun y H4 => ∃ acc, H4 Dl = some (.lst acc) ∧ acc.length < sizeLine ∧ Nx (L2.upd H4 Dl (.lst (acc ++ [y]))) else Nx H3) := by
  -- the state that all turns bear
  have Ew : ESt c.K c.own G L1 m1 (wipeE ρ tgt.slots) (L2.wipe σ tgt.slots) H1 := E1.wipe
  have hown : ∀ (i : Nat) (d : D), c.own i = true → (wipeE ρ tgt.slots)[i]? = some (some d) → (L2.wipe σ tgt.slots)[i]? ≠ some (some (.ref Dl)) := fun i d q1 q2 q3 => by
    obtain ⟨v, h1, _, h3⟩ := Ew.slot i d q2
    obtain ⟨a, e, g, _⟩ := h3 q1
    rw [h1, e] at q3
    cases q3
    obtain ⟨⟨o, h⟩, _⟩ := Ew.gok _ g
    rw [hD] at h
    cases h
  refine ⟨fun i n H' => n = xs.length - i ∧ i ≤ xs.length ∧ ∃ (L' : Lay) (m' : Mu) (acc ys' : List D) (vacc : List V), ESt c.K c.own (fun a => G a ∨ a = Dl) L' m' (wipeE ρ tgt.slots) (L2.wipe σ tgt.slots) H' ∧ Stp L1 L' H1 H' ∧
      H' Dl = some (.lst vacc) ∧ Reps c.K (AL L') (hide (Bd (fun a => G a ∨ a = Dl) L') H') vacc acc ∧ acc.length ≤ i ∧ turns (turnF c tgt oc ea ρ) (xs.drop i) m' = .ok ys' m5 ∧ ys = acc ++ ys' ∧ Same (hide (Bd G L1) H1) (hide (Bd (fun a => G a ∨ a = Dl) L') H') ∧ (∀ a o, G a → H1 a = some o → H' a = some o), ⟨_, rfl, Nat.zero_le _, L1, m1, [], ys, [], (Ew.guard hD).1, Stp.upd hD, upd_same, .nil, Nat.zero_le _, hys, rfl, (Ew.guard hD).2, fun a o g h => by
      rw [upd_ne (ne_of_none h hD)]
      exact h⟩, ?_⟩
  rintro i n H' ⟨rfl, hle, L', m', acc, ys', vacc, E', st, hDl, racc, hacc, htl, hcat, sm, kG⟩
  have PP : PPr bc G (AL L1) (hide (Bd G L1) H1) H1 (AL L') (hide (Bd (fun a => G a ∨ a = Dl) L') H') H' := ⟨sm, st.al, hide_sub, fun _ => kG, st.frz⟩
  by_cases hlt : i < xs.length
  · right
    refine ⟨src.go _ _ _ i PP hlt, fun H3 => ∃ n', n' = xs.length - (i + 1) ∧ i + 1 ≤ xs.length ∧ ∃ (L' : Lay) (m' : Mu) (acc ys' : List D) (vacc : List V), ESt c.K c.own (fun a => G a ∨ a = Dl) L' m' (wipeE ρ tgt.slots) (L2.wipe σ tgt.slots) H3 ∧ Stp L1 L' H1 H3 ∧
      H3 Dl = some (.lst vacc) ∧ Reps c.K (AL L') (hide (Bd (fun a => G a ∨ a = Dl) L') H3) vacc acc ∧ acc.length ≤ i + 1 ∧ turns (turnF c tgt oc ea ρ) (xs.drop (i + 1)) m' = .ok ys' m5 ∧ ys = acc ++ ys' ∧ Same (hide (Bd G L1) H1) (hide (Bd (fun a => G a ∨ a = Dl) L') H3) ∧ (∀ a o, G a → H1 a = some o → H3 a = some o), fun H3 ⟨n', h1, h2⟩ => ⟨n', by omega, h1, h2⟩, fun x H2 y => ?_⟩
    obtain ⟨d, hd, yl⟩ := src.yld _ _ _ i x H2 PP hlt y
    obtain ⟨sm2, rd⟩ := yl.told E'
    have st2 : Stp L' L' H' H2 := Stp.same sm2
    have E2 : ESt c.K c.own (fun a => G a ∨ a = Dl) L' m' (wipeE ρ tgt.slots) (L2.wipe σ tgt.slots) H2 := E'.step st2 (E'.sok.same sm2)
    have hdrop : xs.drop i = d :: xs.drop (i + 1) := by
      rw [List.drop_eq_getElem_cons hlt]
      have : xs[i] = d := by
        have := List.getElem?_eq_getElem hlt
        rw [hd] at this
        exact (Option.some.inj this).symm
      rw [this]
    rw [hdrop] at htl
    obtain ⟨o, m2, r, hfx, htl2, hys'⟩ := turns_cons htl
    cases hb : bindT tgt d (wipeE ρ tgt.slots) with
    | none =>
      have hfx' : (match bindT tgt d (wipeE ρ tgt.slots) with
        | some ρ' => (evK c.cfg oc ρ' m').bind fun t m3 => if t = true then (evE c.cfg ea ρ' m3).bind fun y m4 => Res.ok (some y) m4 else Res.ok none m3
        | none => Res.stuck) = .ok o m2 := hfx
      rw [hb] at hfx'
      cases hfx'
    | some ρ' =>
      have hfx' : (match bindT tgt d (wipeE ρ tgt.slots) with
        | some ρ' => (evK c.cfg oc ρ' m').bind fun t m3 => if t = true then (evE c.cfg ea ρ' m3).bind fun y m4 => Res.ok (some y) m4 else Res.ok none m3
        | none => Res.stuck) = .ok o m2 := hfx
      rw [hb] at hfx'
      refine E2.bind rd ho hb fun σ' E3 hw _ => ⟨by rw [hw _ (fun _ h => h), wipe_idem], ?_⟩
      obtain ⟨t, m3, ht1, hfx2⟩ := Res.bind_eq_ok hfx'
      refine ⟨_, L', m', ρ', E3, ?_⟩
      rw [ht1]
      refine PstG.ok_of fun H4 L4 s4 ok4 => ?_
      have stA : Stp L' L4 H' H4 := st2.trans s4
      have E4w := E'.step stA ok4
      have stB : Stp L1 L4 H1 H4 := st.trans stA
      have kD : ∀ o, H' Dl = some o → H4 Dl = some o := fun o h => stA.keep Dl o (E'.gok Dl (.inr rfl)).2 h
      have kG4 : ∀ a o, G a → H1 a = some o → H4 a = some o := fun a o g h => stA.keep a o (E'.gok a (.inl g)).2 (kG a o g h)
      cases t with
      | false =>
        rw [if_neg Bool.false_ne_true] at hfx2
        cases hfx2
        refine iteF ?_
        exact ⟨_, rfl, by omega, L4, _, acc, r, vacc, E4w, stB, kD _ hDl, racc.mono stA.hid stA.al, by omega, htl2, by rw [hcat, hys'], fun a o h => stA.hid a o (sm a o h), kG4⟩
      | true =>
        rw [if_pos rfl] at hfx2
        refine iteT ?_
        obtain ⟨yd, m4, hy, hfx3⟩ := Res.bind_eq_ok hfx2
        cases hfx3
        have E4 := E3.step s4 ok4
        refine ⟨_, L4, m3, ρ', E4, ?_⟩
        rw [hy]
        refine PstG.ok_of fun H5 L5 s5 ok5 v rv => ?_
        have stC : Stp L' L5 H' H5 := stA.trans s5
        have E5w := E'.step stC ok5
        have kD5 : H5 Dl = some (.lst vacc) := stC.keep Dl _ (E'.gok Dl (.inr rfl)).2 hDl
        obtain ⟨E6, sm6⟩ := E5w.rewrite (o := .lst (vacc ++ [v])) hown
        refine ⟨vacc, kD5, ?_, ?_⟩
        · rw [racc.length]
          have := src.len
          omega
        · refine ⟨_, rfl, by omega, L5, _, acc ++ [yd], r, vacc ++ [v], E6, ?_, upd_same, ?_, ?_, htl2, by rw [hcat, hys']; simp, ?_, ?_⟩
          · have stD : Stp L1 L5 H1 H5 := st.trans stC
            refine ⟨fun a o nf h => ?_, stD.new, fun a o h => ?_, stD.al, fun a o u h => ?_⟩
            · rw [upd_ne (ne_of_none h hD)]
              exact stD.keep a o nf h
            · rw [upd_ne (ne_of_none h hD)]
              exact stD.stay a o h
            · rw [upd_ne (ne_of_none h hD)]
              exact stD.frz a o u h
          · exact ((racc.mono stC.hid stC.al).mono sm6 fun _ _ h => h).append (.cons (rv.rep.mono sm6 fun _ _ h => h) .nil)
          · rw [List.length_append, List.length_singleton]
            omega
          · exact fun a o h => sm6 a o (stC.hid a o (sm a o h))
          · intro a o g h
            rw [upd_ne (ne_of_none h hD)]
            exact stC.keep a o (E'.gok a (.inl g)).2 (kG a o g h)
  · left
    refine ⟨src.stop _ _ _ i PP (by omega), ?_⟩
    rw [List.drop_eq_nil_of_le (by omega)] at htl
    cases htl
    rw [List.append_nil] at hcat
    subst hcat
    refine q' H' L' vacc st E'.sok hDl racc ?_
    have := src.len
    omega
theorem comp_imp {tgt : Tgt} {it : I} {oc : OE} {own : List (Str × Nat)} (hv : own.map (·.2) = tgt.slots) (ho : ∀ i ∈ tgt.slots, c.own i = false) (σ : L2.St) (H : Hp) (Q : VK) (h : TEr c W false (.comp tgt it oc ea) σ H Q) :
    tLc (TIr c W bc it) (TGr c.K tgt) (TKr c W0 oc) (TEr c W0 false ea) (own.map (·.2)) σ H Q := by
  obtain ⟨G, L, m, ρ, E, h⟩ := h
  rw [evE] at h
  rw [hv]
  refine ⟨G, L, m, ρ, E, (PstG.bind h).imp fun xs m1 H1 L1 e1 s1 ok1 q J src => fun Dl hD => ?_⟩
  have E1 := E.step s1 ok1
  have q0 : PstG c W G L1 σ H1 (fun d _ H' L' => ∀ v, RB c.K false G L' H' v d → Q v H') ((turns (turnF c tgt oc ea ρ) xs m1).calm.bind fun ys m5 => .ok (.lst ys) m5) := q
  cases hys : turns (turnF c tgt oc ea ρ) xs m1 with
  | stuck => rw [hys] at q0; exact (show False from q0).elim
  | err k m2 => rw [hys] at q0; exact (show False from q0).elim
  | ok ys m5 =>
  rw [hys] at q0
  have q' : Pst c W false G L1 σ H1 Q (.ok (.lst ys) m5) := q0
  refine comp_core ho E1 src hys Dl hD fun H' L' vs st sk hDl rs z => ?_
  have nD : ¬ Bd G L' Dl := fun x => by
    rcases x with x | x
    · obtain ⟨⟨o, h⟩, _⟩ := E1.gok Dl x
      rw [hD] at h
      cases h
    · exact sk.dis Dl x (.inr rfl)
  have smB : Same (hide (Bd (fun a => G a ∨ a = Dl) L') H') (hide (Bd G L') H') := hide_same fun a o nb h => ⟨fun z => nb (z.elim (fun g => .inl (.inl g)) .inr), h⟩
  exact q' H' L' st (sk.own fun a o ng h => ⟨fun g => ng (.inl g), h⟩) _ (.inl (.lst (.inl (.inl (hide_of nD hDl))) (rs.mono smB fun _ _ h => h) z))
theorem s_comp {tgt : Tgt} {it : I} {oc : OE} {iter elt : Expr} {ifs : List Expr} {scope : Scope} {own : List (Str × Nat)} (hK : c.K = X.K) (hc : X.calm = true) (hN : X.N.Nodup) (hi : PI X tg iter (TIr c W bc it)) (ok : BlkOk X.N X.env.scope scope own)
    (hv : own.map (·.2) = tgt.slots) (ho : ∀ i ∈ tgt.slots, c.own i = false)
    (hg : ∀ (s : Shared) (H : Hp) (C : Addr) (cl : List (Str × Addr)) (fp : List Addr), PG (X.blk s H scope (compEnvC scope cl C X.env) fp) tg (TGr c.K tgt))
    (ht : ∀ (s : Shared) (H : Hp) (C : Addr) (cl : List (Str × Addr)) (fp : List Addr), PTs (X.blk s H scope (compEnvC scope cl C X.env) fp) ifs (TKr c W0 oc))
    (he : ∀ (s : Shared) (H : Hp) (C : Addr) (cl : List (Str × Addr)) (fp : List Addr), PE (X.blk s H scope (compEnvC scope cl C X.env) fp) elt (TEr c W0 false ea)) (hs : ∀ x, foldedSetIterable iter X.env x = pure x) :
    PE X (.ListComp elt [⟨tg, iter, ifs, 0⟩] scope pos) (TEr c W false (.comp tgt it oc ea)) := by
  exact pe_imp (pe_lc hc hN hi ok hg ht he hs) fun σ H Q h => comp_imp hv ho σ H Q h
theorem s_var {i : Nat} {n : Str} (hN : X.N[i]? = some n) (hv : Vis X.env.scope n) (hd : (n == ("__debug__" : Str)) = false) (hcd : (n == ("__classdict__" : Str)) = false) : PE X (.Name n pos) (TEr c W (c.own i) (.var i)) := by
  refine pe_imp (pe_var hN hv hd hcd) fun σ H Q h => ?_
  obtain ⟨G, L, m, ρ, E, h⟩ := h
  rw [evE] at h
  cases hr : ρ[i]? with
  | none => rw [hr] at h; exact (show False from h).elim
  | some o =>
    cases o with
    | none => rw [hr] at h; exact (show False from h).elim
    | some d =>
      rw [hr] at h
      obtain ⟨v, h1, h2, h3⟩ := E.slot i d hr
      refine ⟨v, h1, h H L (Stp.refl _ _) E.sok v ?_⟩
      cases ho : c.own i with
      | false => exact .inl (h2 ho)
      | true => exact .inr ⟨rfl, h3 ho⟩
theorem s_lit {v : V} {e : Expr} {d : D} (h : PE X e (tC v)) (r : ∀ (A : Nat → Option Addr) (H : Hp), Rep c.K A H v d) : PE X e (TEr c W false (.lit d)) := by
  refine pe_imp h fun σ H Q h => ?_
  obtain ⟨G, L, m, ρ, E, h⟩ := h
  rw [evE] at h
  exact Pst.val E h (.inl (r _ _))
theorem s_glob {v : V} {e : Expr} {d : D} {n : Str} (h : PE X e (tC v)) (r : ∀ (A : Nat → Option Addr) (H : Hp), Rep c.K A H v d) : PE X e (TEr c W false (.glob n d)) := by
  refine pe_imp h fun σ H Q h => ?_
  obtain ⟨G, L, m, ρ, E, h⟩ := h
  rw [evE] at h
  exact Pst.val E h (.inl (r _ _))
theorem sz1000 {n : Nat} (h : n ≤ 1000) : n ≤ sizeLine := Nat.le_trans h (by decide)
theorem s_tup {es : List Expr} {l : Es} {k : Nat} (ha : PA X es (TAr c W false l)) (hz : l.len ≤ 1000) : PE X (.Tuple es k pos) (TEr c W false (.tup l)) := by
  refine pe_imp (pe_tup ha) fun σ H Q h => ?_
  obtain ⟨G, L, m, ρ, E, h⟩ := h
  rw [evE] at h
  refine TAr.bind E h fun ds m1 vs H1 L1 e1 s1 E1 r1 h1 => ⟨by rw [r1.length, evEs_len e1]; exact sz1000 hz, fun p n => ?_⟩
  exact Pst.tup E1 h1 r1.reps (by rw [evEs_len e1]; exact sz1000 hz) n
theorem s_lst {es : List Expr} {l : Es} (ha : PA X es (TAr c W false l)) (hz : l.len ≤ 1000) : PE X (.List es pos) (TEr c W false (.lst l)) := by
  refine pe_imp (pe_lst ha) fun σ H Q h => ?_
  obtain ⟨G, L, m, ρ, E, h⟩ := h
  rw [evE] at h
  refine TAr.bind E h fun ds m1 vs H1 L1 e1 s1 E1 r1 h1 => ⟨by rw [r1.length, evEs_len e1]; exact sz1000 hz, fun p n => ?_⟩
  exact Pst.lst E1 h1 r1.reps (by rw [evEs_len e1]; exact sz1000 hz) n
theorem s_dic0 : PE X (.Dict [] [] pos) (TEr c W false .dic0) := by
  refine pe_imp pe_dnewK fun σ H Q h => ?_
  obtain ⟨G, L, m, ρ, E, h⟩ := h
  rw [evE] at h
  intro p n
  have nb := E.nb E.sok.foot n
  exact h _ L (Stp.upd n) (E.sok.upd n) _ (.inl (.dic (.inl (Rep.new n nb)) .nil (Nat.zero_le _)))
theorem s_rev {k : Nat} {p1 p2 p3 : Pos} (hK : c.K = X.K) (ha : PE X x (TEr c W bb ea)) : PE X (.Subscript x (.Slice none none (some (.UnaryOp .USub (.Constant (.int 1) k p1) p2)) p3) pos) (TEr c W false (.slS ea .no (-1))) := by
  refine pe_imp (pe_revL ha) fun σ H Q h => ?_
  obtain ⟨G, L, m, ρ, E, h⟩ := h
  rw [evE] at h
  refine TEr.bind E h fun d m1 v H1 L1 e1 s1 E1 r1 h1 => ?_
  rw [evP, Res.bind_ok] at h1
  cases d with
  | lst ds =>
    obtain ⟨a, vs, e, hs, rs, z⟩ := r1.lst
    subst e
    exact ⟨a, vs, rfl, hK ▸ hs, fun p n => Pst.lst E1 h1 rs.rev (by rw [List.length_reverse]; exact z) n⟩
  | _ => exact (show False from h1).elim
theorem Reps.pick {K : PySem.W.Frag} {A : Nat → Option Addr} {H : Hp} {vs : List V} {ds : List D} (r : Reps K A H vs ds) : ∀ is : List Nat, Reps K A H (is.filterMap (vs[·]?)) (is.filterMap (ds[·]?))
  | [] => .nil
  | i :: is => by
    cases h : ds[i]? with
    | none =>
      have h2 : vs[i]? = none := by
        rw [List.getElem?_eq_none_iff] at h ⊢
        rw [r.length]
        exact h
      rw [List.filterMap_cons_none h, List.filterMap_cons_none h2]
      exact Reps.pick r is
    | some d =>
      obtain ⟨v, h2, rd⟩ := r.get h
      rw [List.filterMap_cons_some h, List.filterMap_cons_some h2]
      exact .cons rd (Reps.pick r is)
theorem vals_pick {vs : List V} {us : List Value} (r : Vals vs us) : ∀ is : List Nat, Vals (is.filterMap (vs[·]?)) (is.filterMap (us[·]?))
  | [] => .nil
  | i :: is => by
    cases h : vs[i]? with
    | none =>
      have h2 : us[i]? = none := by
        rw [List.getElem?_eq_none_iff] at h ⊢
        rw [← r.length]
        exact h
      rw [List.filterMap_cons_none h, List.filterMap_cons_none h2]
      exact vals_pick r is
    | some d =>
      obtain ⟨v, h2, rd⟩ := r.get h
      rw [List.filterMap_cons_some h, List.filterMap_cons_some h2]
      exact .cons rd (vals_pick r is)
theorem pick_len {α : Type} (xs : List α) (lo : Option Int) {st : Int} (hs : 0 < st) : (pickL xs lo st).length ≤ xs.length := by
  refine Nat.le_trans (List.length_filterMap_le _ _) ?_
  have h1 : (sliceBounds lo none (some st) xs.length).2.2 = st := rfl
  refine sliceRange_length_le _ _ _ _ (fun _ => ?_) fun n => ?_
  · have hst : (some st : Option Int).getD 1 > 0 := hs
    refine ⟨?_, ?_⟩
    · unfold sliceBounds
      cases lo with
      | none => simp [hs]
      | some i =>
        show 0 ≤ (if st > 0 then max 0 (min (if i < 0 then i + (xs.length : Int) else i) xs.length) else _)
        rw [if_pos hs]
        omega
    · show (if st > 0 then (xs.length : Int) else -1) ≤ _
      rw [if_pos hs]
      exact Int.le_refl _
  · exact absurd hs (by rw [← h1]; exact n)
def tStep (K : PySem.W.Frag) (st : Int) (te : TE) (tl : TO) : TE := fun σ H Q => te σ H fun x H1 => tl σ H1 fun l H2 => ∃ a xs, x = .ref a ∧ SqL K H2 a xs ∧ ∀ p, H2 p = none → Q (.ref p) (upd H2 p (.lst (pickL xs l st)))
open PySem.Spec PyProof.Rows in
theorem pe_step {X : Cx} {e : Expr} {lo : Option Expr} {te : TE} {tl : TO} {k : Nat} {st : Int} {p1 p2 pos : Pos} (hs : 0 < st) (he : PE X e te) (hl : PO X lo tl) : PE X (.Subscript e (.Slice lo none (some (.Constant (.int st) k p1)) p2) pos) (tStep X.K st te tl) := by
  refine ⟨fun pins s σ H Q I h => ?_⟩
  refine Subscript_ (thn (he.run pins s σ H _ I h) fun v s1 ⟨x, H1, I1, r1, q1⟩ => ?_)
  refine wpAny_Slice (thn (hl.run pins s1 σ H1 _ I1 q1) fun vl s2 ⟨l, H2, I2, pl, q2⟩ => ?_)
  obtain ⟨a, xs, ex, hx, q⟩ := q2
  subst ex
  cases r1
  have hst : PO X (some (.Constant (.int st) k p1)) (tPart (tC (.int st))) := po_some pe_int
  refine thn (po_none.run pins s2 σ H2 (fun o H3 => o = none ∧ H3 = H2) I2 ⟨rfl, rfl⟩) fun vu s3 ⟨u, H3, I3, pu, eu, e3⟩ => ?_
  subst eu e3
  refine thn (hst.run pins s3 σ H3 (fun o H4 => o = some st ∧ H4 = H3) I3 ⟨st, rfl, rfl, rfl⟩) fun vs s4 ⟨o, H4, I4, ps, eo, e4⟩ => ?_
  subst eo e4
  have I5 : Inv X pins σ H4 { s4 with heap := s4.heap.push { cls := .type "slice", data := .fields #[vl, vu, vs] } } := I4.kept (t' := s4.toks) fun b ob q => Heap.get?_push_of_some _ q
  obtain ⟨its, r, ht, hz⟩ := I5.list hx
  have hlen := r.length
  show wpAny (model X.prog X.w) X.A (subscriptTail e (.Slice lo none (some (.Constant (.int st) k p1)) p2) (.ref a) (.ref s4.heap.objs.size)) (EP X pins σ Q) X.xe { s4 with heap := s4.heap.push { cls := .type "slice", data := .fields #[vl, vu, vs] } }
  refine tail_any (ops := [.ref a, .ref s4.heap.objs.size]) ht.isList.typeIs (PySem.slot_list_getitem.lookup) ?_ (by cases lo <;> with_unfolding_all rfl)
  refine wpAny_getItem_list_slice ht.isList (Heap.IsSliceOf.new _ vl vu vs) pl pu ps (fun z => by cases z; exact absurd hs (by decide)) ?_ (by rw [List.size_toArray]; omega)
  have epick : slicePick its.toArray l none (some st) = (pickL its l st).toArray := by
    unfold slicePick pickL
    rw [List.size_toArray]
    simp
  rw [epick]
  have hsz : xs.length = its.length := hlen
  have r2 : Vals (pickL xs l st) (pickL its l st) := by
    unfold pickL
    rw [hsz]
    exact vals_pick r _
  refine ⟨.ref _, _, I5.laid (t' := s4.toks) (o := .lst (pickL xs l st)) (fun b ob q => Heap.get?_push_of_some _ q) (Nat.le_refl _) ?_, rfl, q _ (I5.hok.fresh (Nat.le_refl _))⟩
  exact ⟨Nat.le_trans (pick_len xs l hs) hz, _, 0, r2, Heap.get?_push_size _ rfl⟩
theorem s_step {X : Cx} {c : Cn} {W : WX} {bb : Bool} {ea : E} {el : OE} {x : Expr} {lo : Option Expr} {k : Nat} {st : Int} {p1 p2 pos : Pos} (hs : 0 < st) (hK : c.K = X.K) (ha : PE X x (TEr c W bb ea)) (hl : PO X lo (TOr c W el)) : PE X (.Subscript x (.Slice lo none (some (.Constant (.int st) k p1)) p2) pos) (TEr c W false (.slS ea el st)) := by
  refine pe_imp (pe_step hs ha hl) fun σ H Q h => ?_
  obtain ⟨G, L, m, ρ, E, h⟩ := h
  rw [evE] at h
  refine TEr.bind E h fun d m1 v H1 L1 e1 s1 E1 r1 h1 => ?_
  refine ⟨G, L1, m1, ρ, E1, (PstG.bind h1).imp fun l m2 H2 L2 e2 s2 ok2 q2 => ?_⟩
  have E2 := E1.step s2 ok2
  have r2 := r1.step E1 s2
  have ne : st ≠ -1 := by omega
  cases d with
  | lst ds =>
    obtain ⟨a, vs, e, hs', rs, z⟩ := r2.lst
    have hp : Reps c.K (AL L2) (hide (Bd G L2) H2) (pickL vs l st) (pickL ds l st) := by
      unfold pickL
      rw [rs.length]
      exact rs.pick _
    have q3 : Pst c W false G L2 σ H2 Q (.ok (.lst (pickL ds l st)) m2) := by
      have ee : slSD (.lst ds) l st = some (.lst (pickL ds l st)) := if_pos hs
      rw [ee] at q2
      exact q2
    exact ⟨a, vs, e, hK ▸ hs', fun p n => Pst.lst E2 q3 hp (Nat.le_trans (pick_len ds l hs) z) n⟩
  | _ => exact (show False from q2).elim
def spD (K : PySem.W.Frag) (cls : Nat → Value) (fr : Bool) (par : Nat) (g : List D → Mu → Res D) : Sp := fun vs H Q E => ∃ (G : Addr → Prop) (L : Lay) (m : Mu) (ds : List D), (∀ a, G a → (∃ o, H a = some o) ∧ ¬ foot L a) ∧ SOk K G L m H ∧ Reps K (AL L) (hide (Bd G L) H) vs ds ∧ ds.length = par ∧
  match g ds m with
  | .ok d m' => ∀ v H' L', Stp L L' H H' → OutQ K fr G H L' m' H' d v → Q v H'
  | .err k m' => ∀ H' L', Stp L L' H H' → SOk K G L' m' H' → E (cls k) none H'
  | .stuck => False
theorem s_call {n fn : Nat} {f : Addr} {fd : FuncData} {ps : List Str} {nm : Str} {p : Pos} {e : Expr} {es : List Expr} {l : Es} {par : Nat} {fr : Bool} (hK : c.K = X.K) (F : FnOk X.prog X.w X.K X.mg X.base (L2.CX X.prog X.w) n f fd ps (spD X.K c.cls fr par (c.cfg.call fn))) (hr : Room n X.A) (hg : Gl X nm) (hm : X.mg nm = some (.ref f))
    (hk : PySem.W.keepIn X.K (.ref f) = true) (hb : Binds X.K fd ps []) (pa : ∀ σ, PassesAt (L2.CX X.prog X.w) X σ (WE W σ)) (ha : PA X (e :: es) (TAr c W false l)) (hl : l.len = par) (hdb : (nm == ("__debug__" : Str)) = false) (hn : (e :: es).all notStar = true) : PE X (.Call (.Name nm p) (e :: es) [] pos) (TEr c W false (.call fn l)) := by
  have hn1 : notStar e = true := by
    rw [List.all_cons, Bool.and_eq_true] at hn
    exact hn.1
  have hn2 : es.all notStar = true := by
    rw [List.all_cons, Bool.and_eq_true] at hn
    exact hn.2
  refine pe_imp (pe_callS (E := WE W) F hr hg hm hk hb pa ha hdb (star_of hn1) (by rw [back_any]; exact star_any hn2)) fun σ H Q h => ?_
  obtain ⟨G, L, m, ρ, E, h⟩ := h
  rw [evE] at h
  refine TAr.bind E h fun ds m1 vs H1 L1 e1 s1 E1 r1 h1 => ?_
  refine ⟨G, L1, m1, ds, E1.gok, hK ▸ E1.sok, hK ▸ r1.reps, by rw [evEs_len e1, hl], ?_⟩
  cases hres : c.cfg.call fn ds m1 with
  | ok d m' =>
    rw [hres] at h1
    exact fun v H' L' st o => h1 H' L' st (hK ▸ o.weak.1) v (.inl (hK ▸ o.weak.2))
  | err k m' =>
    rw [hres] at h1
    exact fun H' L' st ok => h1 H' L' st (hK ▸ ok)
  | stuck =>
    rw [hres] at h1
    exact h1
theorem pe_callS0 {CX : CXT} {k : Nat} {f : Addr} {fd : FuncData} {ps : List Str} {sp : Sp} {E : L2.St → XK} {x : Str} {p : Pos} (F : FnOk X.prog X.w X.K X.mg X.base CX k f fd ps sp) (hr : Room k X.A) (hg : Gl X x) (hm : X.mg x = some (.ref f)) (hk : PySem.W.keepIn X.K (.ref f) = true) (hb : Binds X.K fd ps []) (hx : ∀ σ, PassesAt CX X σ (E σ))
    (hdb : (x == ("__debug__" : Str)) = false) : PE X (.Call (.Name x p) [] [] pos) (tCallS sp E tNil) := by
  refine ⟨fun pins s σ H Q I h => ?_⟩
  refine wpAny_Call_Name_kw (ld_glob I hg hm ?_ hdb)
  exact PySem.W.callWith_K0 I.kIn hk (run_fnS (us := []) F hr hb (hx σ) I .nil h)
theorem s_call0 {fr : Bool} {n fn : Nat} {f : Addr} {fd : FuncData} {ps : List Str} {nm : Str} {p : Pos} (hK : c.K = X.K) (F : FnOk X.prog X.w X.K X.mg X.base (L2.CX X.prog X.w) n f fd ps (spD X.K c.cls fr 0 (c.cfg.call fn))) (hr : Room n X.A) (hg : Gl X nm) (hm : X.mg nm = some (.ref f))
    (hk : PySem.W.keepIn X.K (.ref f) = true) (hb : Binds X.K fd ps []) (pa : ∀ σ, PassesAt (L2.CX X.prog X.w) X σ (WE W σ)) (hdb : (nm == ("__debug__" : Str)) = false) : PE X (.Call (.Name nm p) [] [] pos) (TEr c W false (.call fn .nil)) := by
  refine pe_imp (pe_callS0 (E := WE W) F hr hg hm hk hb pa hdb) fun σ H Q h => ?_
  obtain ⟨G, L, m, ρ, E, h⟩ := h
  rw [evE, evEs, Res.bind_ok] at h
  show spD X.K c.cls fr 0 (c.cfg.call fn) [] H Q (WE W σ)
  refine ⟨G, L, m, [], E.gok, hK ▸ E.sok, .nil, rfl, ?_⟩
  cases hres : c.cfg.call fn [] m with
  | ok d m' =>
    rw [hres] at h
    exact fun v H' L' st o => h H' L' st (hK ▸ o.weak.1) v (.inl (hK ▸ o.weak.2))
  | err k m' =>
    rw [hres] at h
    exact fun H' L' st ok => h H' L' st (hK ▸ ok)
  | stuck =>
    rw [hres] at h
    exact h
end
end MP
set_option maxRecDepth 100000
set_option maxHeartbeats 4000000
set_option autoImplicit false
namespace MP
open PySem L2
def pureA : E → Bool
  | .var _ => true
  | .mop (.fld _) r .nil => pureA r
  | _ => false
theorem opD_fld {f : Nat} {y : D} {m : Mu} : opD (.fld f) y [] m = match y with
    | .obj j => (match m[j]? with
      | some (.ins _ fs) => .opt (getN f fs) m
      | _ => .stuck)
    | _ => .stuck := by
  unfold opD
  cases y <;> rfl
theorem opD_fld_ok {f : Nat} {y x : D} {m m1 : Mu} (h : opD (.fld f) y [] m = .ok x m1) : m1 = m ∧ ∃ j c fs, y = .obj j ∧ m[j]? = some (.ins c fs) ∧ getN f fs = some x := by
  rw [opD_fld] at h
  cases y with
  | obj j =>
    dsimp only at h
    cases q : m[j]? with
    | none => rw [q] at h; cases h
    | some i =>
      cases i with
      | box lk d => rw [q] at h; cases h
      | tab => rw [q] at h; cases h
      | ins c fs =>
        rw [q] at h
        dsimp only at h
        cases g : getN f fs with
        | none => rw [g] at h; cases h
        | some z =>
          rw [g] at h
          cases h
          exact ⟨rfl, j, c, fs, rfl, q, g⟩
  | _ => cases h
theorem opD_fld_err {f : Nat} {y : D} {m m1 : Mu} {k : Nat} : opD (.fld f) y [] m ≠ .err k m1 := fun h => by
  rw [opD_fld] at h
  cases y with
  | obj j =>
    dsimp only at h
    cases q : m[j]? with
    | none => rw [q] at h; cases h
    | some i =>
      cases i with
      | box lk d => rw [q] at h; cases h
      | tab => rw [q] at h; cases h
      | ins c fs =>
        rw [q] at h
        dsimp only at h
        cases g : getN f fs with
        | none => rw [g] at h; cases h
        | some z => rw [g] at h; cases h
  | _ => cases h
theorem pureA_ok {C : Cfg} {ρ : Env'} {m m1 : Mu} : ∀ (a : E) {x : D}, pureA a = true → evE C a ρ m = .ok x m1 → m1 = m ∧ ∀ (n : Nat) (d e : D) (lk : Bool), m[n]? = some (.box lk d) → evE C a ρ (m.set n (.box true e)) = .ok x (m.set n (.box true e))
  | .var i, x, _, h => by
    rw [evE] at h
    refine ⟨?_, fun n d e lk _ => ?_⟩
    · split at h
      · cases h; rfl
      · cases h
    · rw [evE]
      split at h
      · rename_i q
        cases h
        rfl
      · cases h
  | .mop (.fld f) r .nil, x, hp, h => by
    have hp' : pureA r = true := hp
    rw [evE] at h
    obtain ⟨y, m2, h1, h2⟩ := Res.bind_eq_ok h
    obtain ⟨e1, k⟩ := pureA_ok r hp' h1
    subst e1
    have h3 : opD (.fld f) y [] m2 = .ok x m1 := by
      rw [evEs] at h2
      exact h2
    obtain ⟨e2, j, c, fs, ey, q, g⟩ := opD_fld_ok h3
    subst e2 ey
    refine ⟨rfl, fun n d e lk hn => ?_⟩
    rw [evE, k n d e lk hn, Res.bind_ok]
    show (if okR (.fld f) (D.obj j) _ = true then _ else _) = _
    rw [show okR (.fld f) (D.obj j) (m1.set n (.box true e)) = true from rfl, if_pos rfl, evEs]
    show opD (.fld f) (.obj j) [] _ = _
    have hne : n ≠ j := fun e => by
      subst e
      rw [q] at hn
      cases hn
    rw [opD_fld]
    dsimp only
    rw [List.getElem?_set_ne hne, q]
    dsimp only
    rw [g]
    rfl
theorem pureA_err {C : Cfg} {ρ : Env'} {m : Mu} : ∀ (a : E), pureA a = true → ∀ k m1, evE C a ρ m ≠ .err k m1
  | .var i, _, k, m1, h => by
    rw [evE] at h
    split at h <;> cases h
  | .mop (.fld f) r .nil, hp, k, m1, h => by
    have hp' : pureA r = true := hp
    rw [evE] at h
    cases q : evE C r ρ m with
    | err j m2 => exact pureA_err r hp' j m2 q
    | stuck => rw [q] at h; cases h
    | ok y m2 =>
      rw [q, Res.bind_ok] at h
      have h3 : opD (.fld f) y [] m2 = .err k m1 := by
        rw [evEs] at h
        exact h
      exact opD_fld_err h3
theorem Repk.at {K : PySem.W.Frag} {A : Nat → Option Addr} {H : Hp} : ∀ {kvs : List (Key × V)} {ds : List (D × D)} {i : Nat} {k : Key} {v : V}, Repk K A H kvs ds → kvs[i]? = some (k, v) → ∃ d, ds[i]? = some (keyD k, d) ∧ KeyZ k ∧ Rep K A H v d
  | _, _, _, _, _, .nil, e => by simp at e
  | _, _, 0, _, _, .cons z h _, e => by
    simp at e
    obtain ⟨e1, e2⟩ := e
    subst e1 e2
    exact ⟨_, rfl, z, h⟩
  | _, _, i + 1, _, _, .cons _ _ t, e => by
    obtain ⟨d, h1, h2⟩ := Repk.at (i := i) t (by simpa using e)
    exact ⟨d, by simpa using h1, h2⟩
theorem rep_key {K : PySem.W.Frag} {A : Nat → Option Addr} {H : Hp} {k : Key} (z : KeyZ k) : Rep K A H (kV k) (keyD k) := by
  cases k with
  | inl i => exact .int i
  | inr x =>
    have r : Rep K A H (.str (S (tl x))) (.str (tl x)) := .str _ z
    rw [S_tl] at r
    exact r
section
variable {K : PySem.W.Frag} {G : Addr → Prop} {A : Nat → Option Addr} {Hk H : Hp} {p : Addr} {od : Obj} {kvs : List (Key × V)} {ds : List (D × D)} {b : Bool}
theorem src_keys (h : H p = some (.frz od (.dK kvs))) (rk : Repk K A Hk kvs ds) (z : ds.length ≤ sizeLine) : Src K (PPr b G A Hk H) (Itk p od kvs) (ds.map (·.1)) := by
  refine ⟨by rw [List.length_map]; exact z, fun A' Hk' H' i q hi => ?_, fun A' Hk' H' i x H2 q hi y => ?_, fun A' Hk' H' i q hi => ?_⟩
  · rw [List.length_map, ← rk.length] at hi
    exact ⟨q.2.2.2.2 _ _ _ h, hi⟩
  · obtain ⟨e, k, v, e1, e2⟩ := y
    obtain ⟨d, h1, h2, h3⟩ := rk.at e1
    refine ⟨keyD k, by rw [List.getElem?_map, h1]; rfl, .inl ⟨e, ?_⟩⟩
    rw [e2]
    exact rep_key h2
  · rw [List.length_map, ← rk.length] at hi
    exact ⟨q.2.2.2.2 _ _ _ h, hi⟩
theorem src_vals (h : H p = some (.frz od (.dK kvs))) (rk : Repk K A Hk kvs ds) (z : ds.length ≤ sizeLine) : Src K (PPr b G A Hk H) (Itd p od kvs) (ds.map (·.2)) := by
  refine ⟨by rw [List.length_map]; exact z, fun A' Hk' H' i q hi => ?_, fun A' Hk' H' i x H2 q hi y => ?_, fun A' Hk' H' i q hi => ?_⟩
  · rw [List.length_map, ← rk.length] at hi
    exact ⟨q.2.2.2.2 _ _ _ h, hi⟩
  · obtain ⟨e, k, e1⟩ := y
    obtain ⟨d, h1, h2, h3⟩ := rk.at e1
    exact ⟨d, by rw [List.getElem?_map, h1]; rfl, .inl ⟨e, h3.mono q.1 q.2.1⟩⟩
  · rw [List.length_map, ← rk.length] at hi
    exact ⟨q.2.2.2.2 _ _ _ h, hi⟩
theorem src_items (h : H p = some (.frz od (.dK kvs))) (rk : Repk K A Hk kvs ds) (z : ds.length ≤ sizeLine) : Src K (PPr b G A Hk H) (Iti p od kvs) (ds.map fun x => .tup [x.1, x.2]) := by
  refine ⟨by rw [List.length_map]; exact z, fun A' Hk' H' i q hi => ?_, fun A' Hk' H' i x H2 q hi y => ?_, fun A' Hk' H' i q hi => ?_⟩
  · rw [List.length_map, ← rk.length] at hi
    exact ⟨q.2.2.2.2 _ _ _ h, hi⟩
  · obtain ⟨T, k, v, e1, e2, e3, e4⟩ := y
    obtain ⟨d, h1, h2, h3⟩ := rk.at e1
    refine ⟨.tup [keyD k, d], by rw [List.getElem?_map, h1]; rfl, .inr ⟨T, [kV k, v], [keyD k, d], e2, rfl, e3, e4, .cons (rep_key h2) (.cons (h3.mono q.1 q.2.1) .nil), by show 2 ≤ sizeLine; decide⟩⟩
  · rw [List.length_map, ← rk.length] at hi
    exact ⟨q.2.2.2.2 _ _ _ h, hi⟩
theorem src_box {vs : List V} {l : List D} (h : H p = some (.frz od (.lst vs))) (rs : Reps K A Hk vs l) (z : l.length ≤ sizeLine) : Src K (PPr b G A Hk H) (Itl K p) l := by
  have st : ∀ A' Hk' H', PPr b G A Hk H A' Hk' H' → SqL K H' p vs := fun A' Hk' H' q => .inl (.inr ⟨od, q.2.2.2.2 _ _ _ h⟩)
  refine ⟨z, fun A' Hk' H' i q hi => ?_, fun A' Hk' H' i x H2 q hi y => ?_, fun A' Hk' H' i q hi => ?_⟩
  · obtain ⟨u, hu, _⟩ := rs.get (List.getElem?_eq_getElem hi)
    exact ⟨vs, u, st _ _ _ q, hu⟩
  · obtain ⟨e, q2⟩ := y
    obtain ⟨d, hd, rd⟩ := rs.getV (q2 vs (st _ _ _ q))
    exact ⟨d, hd, .inl ⟨e, rd.mono q.1 q.2.1⟩⟩
  · exact ⟨vs, st _ _ _ q, by rw [rs.length]; exact hi⟩
end
def wiL (K : PySem.W.Frag) (kd : Kd) (te : TE) : TI := match kd with
  | .lst => iList K te
  | .keys => iKeys te
  | .vals => iVals te
  | .items => iItems te
section
variable {X : Cx} {c : Cn} {W : WX} {a ea : E} {x tg : Expr} {pos : Pos} {G : Addr → Prop} {L : Lay} {m : Mu} {ρ : Env'} {σ : L2.St} {H : Hp} {n : Nat} {p : Addr} {od : Obj} {u : HO} {d : D} {xs : List D}
theorem wiL_ok {kd : Kd} {b : Bool} {R : It → Hp → Prop} (E : ESt c.K c.own G L m ρ σ H) (e : evE c.cfg a ρ m = .ok (.obj n) m) (hL : L[n]? = some p) (hp : H p = some (.frz od u)) (cu : CU c.K (AL L) (hide (Bd G L) H) u d) (hw : walkD kd d = some xs)
    (k : ∀ H' L' J, Stp L L' H H' → SOk c.K G L' m H' → Src c.K (PPr false G (AL L') (hide (Bd G L') H') H') J xs → R J H') : wiL c.K kd (TEr c W b a) σ H R := by
  have go : ∀ (Q : VK), (∀ H' L', Stp L L' H H' → SOk c.K G L' m H' → Q (.ref p) H') → TEr c W b a σ H Q := fun Q hq => ⟨G, L, m, ρ, E, by
    rw [e]
    intro H' L' st ok v r
    have r' : Rep c.K (AL L') (hide (Bd G L') H') v (.obj n) := r.elim id fun ⟨_, a, e, g, cr⟩ => by cases cr
    cases r' with
    | obj q =>
      have q' := st.al n p hL
      rw [q] at q'
      cases q'
      exact hq H' L' st ok⟩
  cases kd with
  | lst =>
    cases cu with
    | dic rk z => cases hw
    | lst rs z =>
      cases hw
      refine go _ fun H' L' st ok => ?_
      have h' := st.frz _ _ _ hp
      exact ⟨p, rfl, ⟨_, .inl (.inr ⟨od, h'⟩)⟩, k H' L' _ st ok (src_box h' (rs.mono st.hid st.al) z)⟩
  | keys =>
    cases cu with
    | lst rs z => cases hw
    | dic rk z =>
      cases hw
      refine go _ fun H' L' st ok => ?_
      have h' := st.frz _ _ _ hp
      exact ⟨p, od, rfl, .inl ⟨_, h', k H' L' _ st ok (src_keys h' (rk.mono st.hid st.al) z)⟩⟩
  | vals =>
    cases cu with
    | lst rs z => cases hw
    | dic rk z =>
      cases hw
      refine go _ fun H' L' st ok => ?_
      have h' := st.frz _ _ _ hp
      exact ⟨p, od, _, rfl, h', k H' L' _ st ok (src_vals h' (rk.mono st.hid st.al) z)⟩
  | items =>
    cases cu with
    | lst rs z => cases hw
    | dic rk z =>
      cases hw
      refine go _ fun H' L' st ok => ?_
      have h' := st.frz _ _ _ hp
      exact ⟨p, od, _, rfl, h', k H' L' _ st ok (src_items h' (rk.mono st.hid st.al) z)⟩
theorem SOk.lock {K : PySem.W.Frag} (h : SOk K G L m H) (e : m[n]? = some (.box false d)) : ∃ p u, L[n]? = some p ∧ H p = some u ∧ Mut (some u) ∧ (∀ x y, u ≠ .frz x y) ∧ CU K (AL L) (hide (Bd G L) H) u d ∧
    ∀ od, SOk K G L (m.set n (.box true d)) (L2.upd H p (.frz od u)) ∧ Stp L L H (L2.upd H p (.frz od u)) := by
  obtain ⟨p, hL, c⟩ := h.at e
  cases c with
  | box hu cu =>
    rename_i u
    have nf : ∀ x y, u ≠ .frz x y := fun x y e => by subst e; cases cu
    exact ⟨p, u, hL, hu, by cases cu <;> exact True.intro, nf, cu, fun od => h.set hL hu nf (.lock upd_same cu)⟩
theorem SOk.unlock {K : PySem.W.Frag} (h : SOk K G L m H) (hL : L[n]? = some p) (cu : CU K (AL L) (hide (Bd G L) H) u d) : SOk K G L (m.set n (.box false d)) (L2.upd H p u) ∧ Same (hide (Bd G L) H) (hide (Bd G L) (L2.upd H p u)) := by
  have fp : MP.foot L p := List.mem_of_getElem? hL
  have sm : Same (hide (Bd G L) H) (hide (Bd G L) (L2.upd H p u)) := hide_same fun a o nb e => ⟨nb, by rw [upd_ne (fun q => nb (.inr (by rw [q]; exact fp)))]; exact e⟩
  refine ⟨⟨by rw [List.length_set]; exact h.len, h.nd, h.dis, fun j b k e1 e2 => ?_⟩, sm⟩
  by_cases hj : n = j
  · subst hj
    rw [hL] at e1
    cases e1
    rw [List.getElem?_set_self (by rw [← h.len]; exact (List.getElem?_eq_some_iff.mp hL).1)] at e2
    cases e2
    exact .box upd_same (cu.mono sm fun _ _ h => h)
  · rw [List.getElem?_set_ne hj] at e2
    have nb : b ≠ p := fun q => by
      subst q
      have hn := (List.getElem?_eq_some_iff.mp hL)
      have hk := (List.getElem?_eq_some_iff.mp e1)
      exact hj (nodup_inj h.nd hn.1 hk.1 (hn.2.trans hk.2.symm))
    exact (h.ok j b k e1 e2).mono sm (fun _ _ h => h) fun u e => by rw [upd_ne nb]; exact e
theorem Stp.unlock {L' : Lay} {H1 H' : Hp} (hu : H p = some u) (nf : ∀ x y, u ≠ .frz x y) (fp : MP.foot L p) (s : Stp L L' H H') : Stp L L' H (L2.upd H' p u) := by
  refine ⟨fun a o n h => by rw [upd_ne (fun q => n (by rw [q]; exact fp))]; exact s.keep a o n h, s.new, fun a o h => ?_, s.al, fun a o v h => ?_⟩
  · by_cases q : a = p
    · subst q; exact ⟨u, upd_same⟩
    · rw [upd_ne q]; exact s.stay a o h
  · rw [upd_ne (fun q => by rw [q, hu] at h; cases h; exact nf _ _ rfl)]; exact s.frz a o v h
theorem lkD_some {x : D} {m : Mu} {n : Nat} {d : D} (h : lkD x m = some (n, d)) : x = .obj n ∧ m[n]? = some (.box false d) := by
  unfold lkD at h
  split at h
  · rename_i k
    split at h
    · rename_i e q
      cases h
      exact ⟨rfl, q⟩
    · cases h
  · cases h
theorem compL_imp {kd : Kd} {tgt : Tgt} {oc : OE} {own : List (Str × Nat)} {b : Bool} (hK : c.K = X.K) (hp : pureA a = true) (hv : own.map (·.2) = tgt.slots) (ho : ∀ i ∈ tgt.slots, c.own i = false) (σ : L2.St) (H : Hp) (Q : VK) (h : TEr c W false (.compL kd a tgt oc ea) σ H Q) :
    tLockE (tLc (wiL X.K kd (TEr c W b a)) (TGr c.K tgt) (TKr c W0 oc) (TEr c W0 false ea) (own.map (·.2))) σ H Q := by
  rw [hv]
  obtain ⟨G, L, m, ρ, E, h⟩ := h
  rw [evE] at h
  cases e1 : evE c.cfg a ρ m with
  | stuck => rw [e1] at h; exact (show False from h).elim
  | err k m1 => exact (pureA_err a hp k m1 e1).elim
  | ok y m1 =>
  obtain ⟨em, kp⟩ := pureA_ok a hp e1
  subst em
  rw [e1, Res.bind_ok] at h
  cases e2 : lkD y m1 with
  | none => rw [e2] at h; exact (show False from h).elim
  | some nd =>
  obtain ⟨n, d⟩ := nd
  rw [e2] at h
  dsimp only at h
  cases e3 : walkD kd d with
  | none => rw [e3] at h; exact (show False from h).elim
  | some xs =>
  rw [e3] at h
  obtain ⟨ey, en⟩ := lkD_some e2
  subst ey
  obtain ⟨p, u, hL, hu, mu, nf, cu, lk⟩ := E.sok.lock en
  have q0 : PstG c W G L σ H (fun d _ H' L' => ∀ v, RB c.K false G L' H' v d → Q v H') ((turns (turnF c tgt oc ea ρ) xs (m1.set n (.box true d))).calm.bind fun ys m5 => .ok (.lst ys) (m5.set n (.box false d))) := h
  cases hys : turns (turnF c tgt oc ea ρ) xs (m1.set n (.box true d)) with
  | stuck => rw [hys] at q0; exact (show False from q0).elim
  | err k m2 => rw [hys] at q0; exact (show False from q0).elim
  | ok ys m5 =>
  rw [hys] at q0
  have q' : Pst c W false G L σ H Q (.ok (.lst ys) (m5.set n (.box false d))) := q0
  refine ⟨p, u, hu, mu, fun od => ?_⟩
  obtain ⟨ok1, st1⟩ := lk od
  have E1 := E.step st1 ok1
  have cu1 := cu.mono st1.hid st1.al
  have wi := wiL_ok (c := c) (W := W) (b := b) (kd := kd) (R := fun J H1 => ∀ D, H1 D = none → _) E1 (kp n d d false en) hL upd_same cu1 e3
    fun H' L' J st ok src Dl hD => comp_core (ea := ea) (oc := oc) (bc := false) (Q := fun v H' => H' p = some (.frz od u) ∧ Q v (L2.upd H' p u)) ho (E1.step st ok) src hys Dl hD fun H2 Lb vs st2 sk hDl rs z => by
      have stA : Stp L Lb (L2.upd H p (.frz od u)) H2 := st.trans st2
      have hz : H2 p = some (.frz od u) := stA.frz _ _ _ upd_same
      have hL2 : Lb[n]? = some p := stA.al n p hL
      have nD : ¬ Bd G Lb Dl := fun x => by
        rcases x with x | x
        · obtain ⟨⟨o, h⟩, _⟩ := (E1.step st ok).gok Dl x
          rw [hD] at h
          cases h
        · exact sk.dis Dl x (.inr rfl)
      have smB : Same (hide (Bd (fun a => G a ∨ a = Dl) Lb) H2) (hide (Bd G Lb) H2) := hide_same fun a o nb h => ⟨fun z => nb (z.elim (fun g => .inl (.inl g)) .inr), h⟩
      have sk' := sk.own (G' := G) fun a o ng h => ⟨fun g => ng (.inl g), h⟩
      obtain ⟨sk2, sm2⟩ := sk'.unlock (p := p) hL2 (cu1.mono stA.hid stA.al)
      have nDp : Dl ≠ p := fun q => nD (.inr (by rw [q]; exact List.mem_of_getElem? hL2))
      refine ⟨hz, q' _ Lb (Stp.unlock (H1 := H) hu nf (List.mem_of_getElem? hL) (st1.trans stA)) sk2 _ (.inl (.lst (.inl (.inl (hide_of nD (by rw [upd_ne nDp]; exact hDl)))) ((rs.mono smB fun _ _ h => h).mono sm2 fun _ _ h => h) z))⟩
  rw [← hK]
  exact wi
theorem s_compL {kd : Kd} {tgt : Tgt} {oc : OE} {elt iter : Expr} {ifs : List Expr} {scope : Scope} {own : List (Str × Nat)} {b : Bool} (hK : c.K = X.K) (hc : X.calm = true) (hN : X.N.Nodup) (hp : pureA a = true) (hi : PI X tg iter (wiL X.K kd (TEr c W b a))) (ok : BlkOk X.N X.env.scope scope own)
    (hv : own.map (·.2) = tgt.slots) (ho : ∀ i ∈ tgt.slots, c.own i = false)
    (hg : ∀ (s : Shared) (H : Hp) (C : Addr) (cl : List (Str × Addr)) (fp : List Addr), PG (X.blk s H scope (compEnvC scope cl C X.env) fp) tg (TGr c.K tgt))
    (ht : ∀ (s : Shared) (H : Hp) (C : Addr) (cl : List (Str × Addr)) (fp : List Addr), PTs (X.blk s H scope (compEnvC scope cl C X.env) fp) ifs (TKr c W0 oc))
    (he : ∀ (s : Shared) (H : Hp) (C : Addr) (cl : List (Str × Addr)) (fp : List Addr), PE (X.blk s H scope (compEnvC scope cl C X.env) fp) elt (TEr c W0 false ea)) (hs : ∀ x, foldedSetIterable iter X.env x = pure x) :
    PE X (.ListComp elt [⟨tg, iter, ifs, 0⟩] scope pos) (TEr c W false (.compL kd a tgt oc ea)) := by
  exact pe_imp (pe_lock (pe_lc hc hN hi ok hg ht he hs)) fun σ H Q h => compL_imp hK hp hv ho σ H Q h
end
end MP
set_option maxRecDepth 100000
set_option maxHeartbeats 4000000
set_option autoImplicit false
namespace MP
open PySem L2 PySem.Spec PyProof.Rows
abbrev blkX (X : Cx) (s : Shared) (H : Hp) (scope : Scope) (ce : Env) (fp : List Addr) : Cx :=
  { X.blk s H scope ce fp with xe := notedBy (model X.prog X.w) X.A ce (CompFails (model X.prog X.w) X.A X.xe ce) }
theorem inv_toX {X : Cx} {s3 : Shared} {H3 : Hp} {scope : Scope} {ce : Env} {fp : List Addr} {pins : List (Addr × Obj)} {σ : L2.St} {H : Hp} {s : Shared} (I : Inv (X.blk s3 H3 scope ce fp) pins σ H s) : Inv (blkX X s3 H3 scope ce fp) pins σ H s :=
  ⟨⟨I.ok.mod, I.ok.kind, I.ok.glob, I.ok.blt, I.ok.above, I.ok.inj, I.ok.has, I.ok.cab, I.ok.hd, I.ok.frames, I.ok.stk, I.ok.exf, I.ok.bs, I.ok.bsz, I.ok.noex, I.ok.exfs, I.ok.funs, I.ok.frf⟩, I.os, I.bare, I.base, I.loc, I.cell, I.free, I.freeC, I.pin, I.hok, I.len⟩
theorem ff_but {h h2 B B1 : Heap} {C : Addr} (sb : ∀ b, b ≠ C → h2.get? b = h.get? b) (hB : ∀ L, B.get? L = none → B1.get? L = none) {oC : Obj} (bC : B.get? C = some oC) : ∀ {l : List Env}, h.FunFrames B l → h2.FunFrames B1 l
  | [], _ => trivial
  | env :: l, hh => by
    obtain ⟨hk, ⟨L, o, hf, hn, ho, hd⟩, hr⟩ := hh
    have hLC : L ≠ C := fun z => by rw [z, bC] at hn; cases hn
    exact ⟨hk, ⟨L, o, hf, hB L hn, (sb L hLC).trans ho, hd⟩, ff_but sb hB bC hr⟩
theorem comp_passes {X : Cx} {W : WX} {σ : L2.St} {pins : List (Addr × Obj)} {s3 : Shared} {H3 : Hp} {scope : Scope} {ce : Env} {fp : List Addr} (tk : Takes X W) (hs : X.stack = X.env :: X.outer) (hf : X.env.frame = some X.env.locals) (hce : ce.frame = X.env.frame)
    (I3 : Inv X pins σ H3 s3) (f3 : ∀ b ∈ fp, FpOk X pins H3 b) (hC : ce.locals = s3.heap.objs.size) (σ' : L2.St) : PassesAt (L2.CX X.prog X.w) (blkX X s3 H3 scope ce fp) σ' (fun cls d H => W cls d σ H) := by
  intro pins' H' s' e s'' I c
  obtain ⟨a, B, H2, cls, d, rfl, fl, hok, ub, na, os, ag, hE⟩ := c
  have fl : HandSPX.FlyingZ B X.stack a (Zc cls d) s''.heap := fl
  have ub : UB (frs X.stack) H' H2 s'.heap B s''.heap := ub
  obtain ⟨G, g1, g2⟩ := restrict s''.heap fun b => (B.get? b).isSome || decide (b ∈ frs X.stack)
  have st : B.StaysIn s''.heap := fl.1
  have gB : ∀ b o, B.get? b = some o → G.get? b = some o := fun b o e => by
    rw [g1 b (by simp [e])]
    exact st b o e
  have gF : ∀ b, b ∈ frs X.stack → G.get? b = s''.heap.get? b := fun b hb => g1 b (by simp [hb])
  have og : ∀ b o, G.get? b = some o → s''.heap.get? b = some o ∧ ((B.get? b).isSome = true ∨ b ∈ frs X.stack) := fun b o e => by
    cases q : ((B.get? b).isSome || decide (b ∈ frs X.stack)) with
    | false => rw [g2 b q] at e; cases e
    | true =>
      rw [g1 b q] at e
      exact ⟨e, by simpa [Bool.or_eq_true] using q⟩
  have J : Inv (blkX X s3 H3 scope ce fp) pins' σ' H2 { s' with heap := G, gens := s''.gens, drawn := s''.drawn, toks := s''.toks } := by
    refine I.call (ch := []) ⟨fun b o e n hb _ => gB b o (ub.keep b o e n hb), fun b o e n hb _ => ?_, fun b o e n _ => ub.free b o e n, fun b o e _ => ?_, ub.tups, ub.frzs, ub.tbls⟩ (hok.kept gB) ag (fun _ z => nomatch z)
    · obtain ⟨sl, q⟩ := ub.slot b o e hb
      exact ⟨sl, by rw [gF b hb]; exact q⟩
    · by_cases hb : b ∈ frs X.stack
      · obtain ⟨sl, q⟩ := ub.slot b o e hb
        exact ⟨_, by rw [gF b hb]; exact q⟩
      · obtain ⟨o', q⟩ := ub.there b o e hb
        exact ⟨o', gB b o' q⟩
  have nb : ∀ b o, G.get? b = some o → b ∉ frs X.stack → B.get? b = some o := fun b o e hb => by
    obtain ⟨e', h⟩ := og b o e
    rcases h with h | h
    · obtain ⟨o', q⟩ := Option.isSome_iff_exists.mp h
      have z := st b o' q
      rw [e'] at z; cases z
      exact q
    · exact absurd h hb
  have hCf : ce.locals ∉ frs X.stack := fun hm => by
    obtain ⟨_, o, e, _⟩ := I.ok.funs.mem (show ce.locals ∈ frs X.stack from hm)
    have h1 := Heap.lt_size e
    have h2 : s3.heap.objs.size ≤ ce.locals := I.ok.above
    exact absurd (Nat.lt_of_lt_of_le h1 h2) (Nat.lt_irrefl _)
  obtain ⟨m, hnJ, _⟩ := J.loc
  have hnJ : G.Ns ce.locals m := hnJ
  obtain ⟨oC, eC⟩ : ∃ o, G.get? ce.locals = some o := let ⟨o, _, _, h, _⟩ := hnJ; ⟨o, h⟩
  have bC : B.get? ce.locals = some oC := nb _ _ eC hCf
  have nC : H2 ce.locals = none := J.free
  have IX : Inv X pins σ H2 { s' with heap := G, gens := s''.gens, drawn := s''.drawn, toks := s''.toks } := I3.call' (ch := fp) J.os J.base J.hok J.bare fun b hb => ⟨(f3 b hb).2.2.2.1, (f3 b hb).2.1, (f3 b hb).2.2.2.2.1, (f3 b hb).2.2.2.2.2⟩
  have FC : FpOk X pins H2 ce.locals := I3.fpOk (by rw [hC]; exact Nat.le_refl _) nC
  have hfr : X.A.frames = some (X.env :: X.outer) := by rw [I3.ok.frames, hs]
  show wpAny (model X.prog X.w) X.A (noteFrame (.ref a) ce) (fun _ s4 => CompFails (model X.prog X.w) X.A X.xe ce (.ref a) s4) _ s''
  have en : noteFrame (.ref a) ce = noteFrame (.ref a) X.env := by
    unfold noteFrame PySem.frameOf
    rw [hce]
  rw [en]
  have fl' : HandSPX.FlyingZ B (X.env :: X.outer) a (Zc cls d) s''.heap := by rw [← hs]; exact fl
  refine HandSPX.looks_onZ Zc.steady hfr hf fl' fun h' held up' => ?_
  obtain ⟨k1, k2, k3, oe, vs, T, oT, ts, he, hz, hd, h1, hnT, hTe, hT, hdT, h3⟩ := held
  refine ⟨m, hnJ.at (h' := h') fun o e => k1 _ o (nb _ _ e hCf), fun h2 m' hn2 sb => ?_⟩
  have aC : a ≠ ce.locals := fun z => by rw [z, bC] at k2; cases k2
  have TC : T ≠ ce.locals := fun z => by rw [z, bC] at hnT; cases hnT
  obtain ⟨B1, b1, b2⟩ := restrict B fun b => decide (b ≠ ce.locals)
  obtain ⟨G1, c1, c2⟩ := restrict G fun b => decide (b ≠ ce.locals)
  have B1of : ∀ b o, B1.get? b = some o → b ≠ ce.locals ∧ B.get? b = some o := fun b o e => by
    by_cases q : b = ce.locals
    · rw [b2 b (by simp [q])] at e; cases e
    · rw [b1 b (by simp [q])] at e; exact ⟨q, e⟩
  have G1of : ∀ b o, G1.get? b = some o → b ≠ ce.locals ∧ G.get? b = some o := fun b o e => by
    by_cases q : b = ce.locals
    · rw [c2 b (by simp [q])] at e; cases e
    · rw [c1 b (by simp [q])] at e; exact ⟨q, e⟩
  have B1none : ∀ L, B.get? L = none → B1.get? L = none := fun L hn => by
    cases q : B1.get? L with
    | none => rfl
    | some o => rw [(B1of L o q).2] at hn; cases hn
  have he2 : h2.get? a = some oe := (sb.2 a aC).trans he
  have hT2 : h2.get? T = some oT := (sb.2 T TC).trans hT
  have st2 : B1.StaysIn h2 := fun b o e => by
    obtain ⟨q1, q2⟩ := B1of b o e
    exact (sb.2 b q1).trans (k1 b o q2)
  have ff2 : h2.FunFrames B1 (X.env :: X.outer) := ff_but (fun b hb => sb.2 b hb) B1none bC k3
  have tr2 : HandSPX.TracedZ h2 B1 a (Zc cls d) (rawInt X.env.locals) := ⟨oe, vs, T, oT, ts, he2, hz, hd, h1, B1none T hnT, hTe, hT2, hdT, h3⟩
  have IX1 : Inv X pins σ H2 { s' with heap := G1, gens := s''.gens, drawn := s''.drawn, toks := s''.toks } := by
    obtain ⟨q0, q1, q2, q3, q4, q5⟩ := FC
    exact IX.turned (t' := s''.toks) (it := ce.locals) (h' := G1) (fun b o hb e => by rw [c1 b (by simp [hb])]; exact e) q0 q1 q3 q4 q5
  have up1 : ∀ h5, h2.UpToSlots h5 → G1.UpToSlots h5 := fun h5 u b o e hd => by
    obtain ⟨q1, q2⟩ := G1of b o e
    obtain ⟨sl, e1⟩ := up' b o (og b o q2).1 hd
    have e2 : h2.get? b = some { o with slots := sl } := (sb.2 b q1).trans e1
    obtain ⟨sl2, e3⟩ := u b _ e2 hd
    exact ⟨sl2, e3⟩
  unfold PySem.passOn
  refine wpAny_bind (wpAny_field he2 hd h1 ?_)
  rw [if_neg (show ¬ ((Value.ref T == Value.none) = true) from by simp)]
  have fin : wpAny (model X.prog X.w) X.A (setFlight (.ref a) ce.frame) (fun _ s4 => wpAny (model X.prog X.w) X.A (throw (.ref a) : Sem Value) (fun _ _ => False) X.xe s4) X.xe { s'' with heap := h2 } := by
    rw [hce, hf]
    refine HandSPX.setFlight_anyZ (base := B1) st2 ff2 tr2 fun h5 q1 q2 q3 q4 => wpAny_throw (tk _ _ ?_)
    exact ⟨a, B1, _, pins, σ, H2, cls, d, rfl, IX1, fun b o e hb => by
      obtain ⟨r1, r2⟩ := G1of b o e
      rw [b1 b (by simp [r1])]
      exact nb b o r2 hb, up1 h5 q4, .inr (.inr (by rw [hs]; exact ⟨q1, B1none a k2, q2, q3⟩)), na, os, ag, hE⟩
  first
    | exact wpAny_bind (wpAny_pure (wpAny_bind fin))
    | exact wpAny_bind fin
theorem lc_coreX {X : Cx} {W : WX} {pins : List (Addr × Obj)} {s : Shared} {σ : L2.St} {H : Hp} {Q : VK} {elt tg iter : Expr} {ifs : List Expr} {scope : Scope} {own : List (Str × Nat)} {pos pos' : Pos} {wi : TI} {g : TG} {tt : TT} {te : L2.St → TE} {use : Option (Value → Sem Unit)} {Qf : Value → Shared → Prop}
    (hc : X.calm = true) (tk : Takes X W) (hst : X.stack = X.env :: X.outer) (hf : X.env.frame = some X.env.locals) (hN : X.N.Nodup) (I : Inv X pins σ H s) (hi : PI X tg iter wi) (ok : BlkOk X.N X.env.scope scope own)
    (hg : ∀ (s : Shared) (H : Hp) (C : Addr) (cl : List (Str × Addr)) (fp : List Addr), PG (blkX X s H scope (compEnvC scope cl C X.env) fp) tg g) (ht : ∀ (s : Shared) (H : Hp) (C : Addr) (cl : List (Str × Addr)) (fp : List Addr), PTs (blkX X s H scope (compEnvC scope cl C X.env) fp) ifs tt)
    (he : ∀ (σ : L2.St) (s : Shared) (H : Hp) (C : Addr) (cl : List (Str × Addr)) (fp : List Addr), (∀ σ', PassesAt (L2.CX X.prog X.w) (blkX X s H scope (compEnvC scope cl C X.env) fp) σ' (fun cls d H => W cls d σ H)) → PE (blkX X s H scope (compEnvC scope cl C X.env) fp) elt (te σ)) (hs : ∀ x, foldedSetIterable iter X.env x = pure x)
    (h : tLc wi g tt (te σ) (own.map (·.2)) σ H Q)
    (hRR : ∀ D ce s' m H', Inv X pins σ H' s' → Q (.ref D) H' → s'.heap.Ns ce.locals m → FpOk X pins H' ce.locals → compEnds (model X.prog X.w) X.A X.xe use Qf (.ref D) ce (.ok .next) s') :
    wpAny (model X.prog X.w) X.A (comprehension (.ListComp elt [⟨tg, iter, ifs, 0⟩] scope pos) scope X.env pos' (newList []) false (eval iter X.env) use) Qf X.xe s := by
  have hfree : ∀ y ∈ scope.names, y.2 = .free → ∃ c, X.env.cells.lookup y.1 = some c := fun y hy e => by
    rcases ok.free y hy e with k | k
    · exact I.ok.has _ (.inl k)
    · exact I.ok.has _ (.inr k)
  refine comprehension_at (use := use) rfl hs (closure_ok hfree) ok.kind (fun y hy e => by rw [ok.uniq y hy, e])
    (thn (hi.run pins s σ H _ I h) fun xv s1 hx => thn hx fun itv s2 h2 => ?_)
  obtain ⟨it, fp, tn, J, H2, e, I2, T, st2, f2, q⟩ := h2
  subst e
  refine wpAny_newObj_type (newEnv_comp ?_) (by show 0 ≤ sizeLine; decide)
  generalize hD : s2.heap.objs.size = D
  have hDn : H2 D = none := I2.hok.fresh (Nat.le_of_eq hD)
  obtain ⟨W, ⟨m0, w0⟩, turn⟩ := q D hDn
  -- the new list
  generalize hs3 : ({ s2 with heap := s2.heap.push { cls := .type "list", data := .seq ([] : List Value).toArray } } : Shared) = s3
  have I3 : Inv X pins σ (upd H2 D (.lst [])) s3 := by
    rw [← hs3]
    refine I2.laid (t' := s2.toks) (fun b o e => Heap.get?_push_of_some _ e) (Nat.le_of_eq hD) ⟨Nat.zero_le _, [], 0, .nil, ?_⟩
    rw [← hD]
    exact Heap.get?_push_size _ rfl
  have h3 : s3.heap = s2.heap.push { cls := .type "list", data := .seq ([] : List Value).toArray } := by rw [← hs3]
  have sz : ∀ b ∈ fp, b < s2.heap.objs.size := fun b hb => by
    obtain ⟨o, e, _⟩ := T.obj _ _ st2 b hb
    exact Heap.lt_size e
  have f3 : ∀ b ∈ fp, FpOk X pins (upd H2 D (.lst [])) b ∧ b < s3.heap.objs.size := fun b hb => by
    have hlt := sz b hb
    refine ⟨⟨?_, (f2 b hb).2⟩, by rw [h3, Heap.size_push]; exact Nat.lt_succ_of_lt hlt⟩
    rw [upd_ne (by rw [← hD]; exact Nat.ne_of_lt hlt)]
    exact (f2 b hb).1
  have st3 : tn 0 s3.heap := T.keep _ _ _ st2 fun b _ o e => by rw [h3]; exact Heap.get?_push_of_some _ e
  have I4 := inv_toX (block_start I3 ok hN f3)
  have pg := hg s3 (upd H2 D (.lst [])) s3.heap.objs.size (cellsFrom (s3.heap.objs.size + 1) scope.names (cloFrom X.env.cells scope.names [])) fp
  have pt := ht s3 (upd H2 D (.lst [])) s3.heap.objs.size (cellsFrom (s3.heap.objs.size + 1) scope.names (cloFrom X.env.cells scope.names [])) fp
  have hpa := comp_passes (scope := scope) (ce := compEnvC scope (cellsFrom (s3.heap.objs.size + 1) scope.names (cloFrom X.env.cells scope.names [])) s3.heap.objs.size X.env) tk hst hf rfl I3 (fun b hb => (f3 b hb).1) rfl
  have pe := he σ s3 (upd H2 D (.lst [])) s3.heap.objs.size (cellsFrom (s3.heap.objs.size + 1) scope.names (cloFrom X.env.cells scope.names [])) fp hpa
  show codeAny _ _ (.compStart (.ListComp elt [⟨tg, iter, ifs, 0⟩] scope pos) 0 (.ref it) (.ref D) (compEnvC scope (cellsFrom (s3.heap.objs.size + 1) scope.names (cloFrom X.env.cells scope.names [])) s3.heap.objs.size X.env)) (compEnds (model X.prog X.w) X.A X.xe use Qf (.ref D) (compEnvC scope (cellsFrom (s3.heap.objs.size + 1) scope.names (cloFrom X.env.cells scope.names [])) s3.heap.objs.size X.env)) { s3 with heap := pushCells (s3.heap.push { cls := .type "dict", data := .dict #[] }) scope.names }
  have nfp : ∀ b ∈ fp, (upd H2 D (.lst [])) b = none := fun b hb => (f3 b hb).1.1
  generalize hce : compEnvC scope (cellsFrom (s3.heap.objs.size + 1) scope.names (cloFrom X.env.cells scope.names [])) s3.heap.objs.size X.env = ce at I4 pg pt pe hpa ⊢
  have cL : ce.locals = s3.heap.objs.size := by subst hce; rfl
  generalize hH3 : upd H2 D (.lst []) = H3 at I3 I4 pg pt pe hpa w0 nfp f3
  generalize hs4 : ({ s3 with heap := pushCells (s3.heap.push { cls := .type "dict", data := .dict #[] }) scope.names } : Shared) = s4 at I4 ⊢
  have st4 : tn 0 s4.heap := T.keep _ _ _ st3 fun b _ o e => by rw [← hs4]; exact pushCells_keeps _ _ _ _ (Heap.get?_push_of_some _ e)
  have stat : ∀ {σ' : L2.St} {H' : Hp} {s' : Shared}, Inv (blkX X s3 H3 scope ce fp) [] σ' H' s' → (∀ b ∈ fp, H' b = none) → ∀ b ∈ fp, FpOk (blkX X s3 H3 scope ce fp) [] H' b := fun {σ' H' s'} I' hn b hb =>
    ⟨hn b hb, (I'.ok.exf b hb).1, I'.ok.exfs b hb, .inl hb, fun x c e => (I'.ok.exf b hb).2 x c e, fun p hp => absurd (show p ∈ ([] : List (Addr × Obj)) ++ [] from hp) (by simp)⟩
  have loop : codeAny (model X.prog X.w) X.A (.compLoop (.ListComp elt [⟨tg, iter, ifs, 0⟩] scope pos) 0 (.ref it) (.ref D) ce) (compEnds (model X.prog X.w) X.A X.xe use Qf (.ref D) ce) s4 := by
    refine compLoop_any (fun n s' => ∃ i H', Inv (blkX X s3 H3 scope ce fp) [] (wipe σ (own.map (·.2))) H' s' ∧ tn i s'.heap ∧ (∀ b ∈ fp, H' b = none) ∧ W i n H') ?_ m0 ⟨0, H3, I4, st4, nfp, w0⟩
    rintro n s5 ⟨i, H5, I5, st5, n5, w5⟩
    rcases turn i n H5 w5 with ⟨stop, qq⟩ | ⟨go, Nx, hNx, step⟩
    · have td := T.done (blkX X s3 H3 scope ce fp) rfl rfl rfl hc i [] s5 _ H5 ((blkX X s3 H3 scope ce fp).xe) I5 (stat I5 n5) st5 stop
      refine thn td fun r s6 ⟨hr, I6⟩ => ?_
      subst hr
      -- back in the def's context
      have I7 : Inv X pins σ H5 s6 := I3.call' (ch := fp) I6.os I6.base I6.hok I6.bare fun b hb => ⟨(f3 b hb).1.2.2.2.1, (f3 b hb).1.2.1, (f3 b hb).1.2.2.2.2.1, (f3 b hb).1.2.2.2.2.2⟩
      have nC : H5 s3.heap.objs.size = none := by
        have z : H5 ce.locals = none := I6.free
        rw [cL] at z
        exact z
      obtain ⟨m, hn, _⟩ := I6.loc
      have hn : s6.heap.Ns ce.locals m := hn
      rw [cL] at hn
      exact hRR D ce s6 m H5 I7 qq (by rw [cL]; exact hn) (by rw [cL]; exact I3.fpOk (Nat.le_refl _) nC)
    · have ti := T.item (blkX X s3 H3 scope ce fp) rfl rfl rfl hc i [] s5 _ H5 ((blkX X s3 H3 scope ce fp).xe) I5 (stat I5 n5) st5 go
      refine thn ti fun r s6 ⟨u, hr, h6⟩ => ?_
      subst hr
      refine thn h6 fun _ s7 ⟨x, H7, I7, r7, y7, st7, n7⟩ => ?_
      have I7' := I7.pinned (stat I7 n7) (T.obj _ _ st7)
      refine thn (pg.run _ s7 _ H7 x u _ I7' r7 (step x H7 y7)) fun _ s8 ⟨σ8, H8, I8, hw8, q8⟩ => ?_
      refine thn (pt.run _ s8 σ8 H8 _ I8 q8) fun b s9 ⟨H9, I9, q9⟩ => ?_
      -- the turn's end
      have fin : ∀ {s' : Shared} {H' : Hp}, Inv (blkX X s3 H3 scope ce fp) ([] ++ pinsAt fp s7.heap) σ8 H' s' → Nx H' → ∃ m, m < n ∧ ∃ i H', Inv (blkX X s3 H3 scope ce fp) [] (wipe σ (own.map (·.2))) H' s' ∧ tn i s'.heap ∧ (∀ b ∈ fp, H' b = none) ∧ W i m H' := fun {s' H'} I' nx => by
        obtain ⟨m', hm, w'⟩ := hNx H' nx
        have pin' : ∀ b ∈ fp, ∀ o, s7.heap.get? b = some o → s'.heap.get? b = some o ∧ H' b = none := fun b hb o e =>
          let z := I'.pin (b, o) (List.mem_append_right _ (List.mem_append_right _ (mem_pinsAt hb e)))
          ⟨z.1, z.2.1⟩
        have hl : (wipe σ (own.map (·.2))).length = σ8.length := by rw [← hw8, wipe_length]
        refine ⟨m', hm, i + 1, H', (I'.unpinned (pins := [])).weak hl (fun j v e => ?_), T.keep _ _ _ st7 fun b hb o e => (pin' b hb o e).1, fun b hb => ?_, w'⟩
        · rw [← hw8] at e
          exact (wipe_some e).1
        · obtain ⟨o, e, _⟩ := T.obj _ _ st7 b hb
          exact (pin' b hb o e).2
      cases b with
      | false =>
        simp only [Bool.false_eq_true, if_false] at q9 ⊢
        exact fin I9 q9
      | true =>
        simp only [if_true] at q9 ⊢
        refine thn (pe.run _ s9 σ8 H9 _ I9 q9) fun z s10 ⟨yv, H10, I10, r10, acc, hD10, hz10, nx⟩ => ?_
        exact app_ok (X := blkX X s3 H3 scope ce fp) I10 hD10 hz10 r10 fun s11 I11 => fin I11 nx
  exact codeAny_compStart_list loop (T.self X.A 0 _ _ _ st4 loop)
end MP
set_option maxRecDepth 100000
set_option maxHeartbeats 4000000
set_option autoImplicit false
namespace MP
open PySem L2
def cpV : Value → List Nat
  | .str x _ => x.cps.toList
  | _ => []
theorem cmpOf_ltS {prog : Program} {w : World} {A : Around} (vs : Array Value) (hn : ∀ v ∈ vs, ∃ x t, v = Value.str x t) :
    CmpOf prog w A .Lt (fun i v => vs[i]? = some v) (fun i j => decide (cpV (vs.getD i .none) < cpV (vs.getD j .none))) := fun i j vi vj s Q E hi hj h => by
  have e1 : vs.getD i .none = vi := by simp [Array.getD_eq_getD_getElem?, hi]
  have e2 : vs.getD j .none = vj := by simp [Array.getD_eq_getD_getElem?, hj]
  simp only [e1, e2] at h
  obtain ⟨x, t, rfl⟩ := hn _ (Array.mem_of_getElem? hi)
  obtain ⟨y, u, rfl⟩ := hn _ (Array.mem_of_getElem? hj)
  exact P.lt_str h
theorem cmpOf_gtS {prog : Program} {w : World} {A : Around} (vs : Array Value) (hn : ∀ v ∈ vs, ∃ x t, v = Value.str x t) :
    CmpOf prog w A .Gt (fun i v => vs[i]? = some v) (fun i j => decide (cpV (vs.getD j .none) < cpV (vs.getD i .none))) := fun i j vi vj s Q E hi hj h => by
  have e1 : vs.getD i .none = vi := by simp [Array.getD_eq_getD_getElem?, hi]
  have e2 : vs.getD j .none = vj := by simp [Array.getD_eq_getD_getElem?, hj]
  simp only [e1, e2] at h
  obtain ⟨x, t, rfl⟩ := hn _ (Array.mem_of_getElem? hi)
  obtain ⟨y, u, rfl⟩ := hn _ (Array.mem_of_getElem? hj)
  exact P.gt_str h
section
variable {prog : Program} {w : World} {A : Around} {E : Value → Shared → Prop} {s : Shared} {Q : Value → Shared → Prop} {x y : Str} {t u : Tok}
theorem max_two_str (hh : A.handled = none) (h : ∀ h' tk, (∀ c o, s.heap.get? c = some o → h'.get? c = some o) → Q (if decide (x.cps.toList < y.cps.toList) then .str y u else .str x t) { s with heap := h', toks := tk }) :
    wpAny (model prog w) A (call (.builtin "max") [.str x t, .str y u]) Q E s := by
  have hT : (s.heap.push { cls := .type "tuple", data := .seq #[.str x t, .str y u] }).IsTuple s.heap.objs.size #[.str x t, .str y u] := ⟨_, Heap.get?_push_size _ rfl, rfl, 0, rfl⟩
  refine call_max_two (wpAny_pyIter_tuple hT ?_)
  have hsz : (s.heap.push { cls := .type "tuple", data := .seq #[Value.str x t, Value.str y u] }).objs.size = s.heap.objs.size + 1 := Heap.size_push ..
  refine ⟨_, [_, s.heap.objs.size], [_], _, _, _, _, rfl, Walks.tuple (A := A.in1) hh _ s.heap.objs.size (by rw [hsz]; exact Nat.ne_of_lt (Nat.lt_succ_self _)) #[.str x t, .str y u],
    ⟨⟨_, Heap.get?_push_size _ rfl, rfl, rfl⟩, hT.push _⟩, fun c hc => ?_, by simp, cmpOf_gtS #[.str x t, .str y u] (by simp), fun v h' tk hP hk => ?_⟩
  · show c < ((s.heap.push _).push _).objs.size
    rw [Heap.size_push, hsz]
    rcases List.mem_cons.mp hc with rfl | hc
    · rw [hsz]; exact Nat.lt_succ_self _
    · rcases List.mem_cons.mp hc with rfl | hc
      · exact Nat.lt_succ_of_lt (Nat.lt_succ_self _)
      · cases hc
  · have hold : ∀ c o, s.heap.get? c = some o → h'.get? c = some o := fun c o e => by
      refine hk c o (fun hm => ?_) (Heap.get?_push_of_some _ (Heap.get?_push_of_some _ e))
      rcases List.mem_cons.mp hm with e1 | hm
      · have := Heap.lt_size e; rw [e1, hsz] at this; exact Nat.lt_irrefl _ (Nat.lt_of_succ_lt this)
      · cases hm
    have := h h' tk hold
    have hv : v = if decide (x.cps.toList < y.cps.toList) then .str y u else .str x t := by
      cases hc : decide (x.cps.toList < y.cps.toList)
      · have hc' := of_decide_eq_false hc
        simp [argBest, cpV, hc'] at hP
        simpa using hP.symm
      · have hc' := of_decide_eq_true hc
        simp [argBest, cpV, hc'] at hP
        simpa using hP.symm
    rw [hv]; exact this
theorem min_two_str (hh : A.handled = none) (h : ∀ h' tk, (∀ c o, s.heap.get? c = some o → h'.get? c = some o) → Q (if decide (y.cps.toList < x.cps.toList) then .str y u else .str x t) { s with heap := h', toks := tk }) :
    wpAny (model prog w) A (call (.builtin "min") [.str x t, .str y u]) Q E s := by
  have hT : (s.heap.push { cls := .type "tuple", data := .seq #[.str x t, .str y u] }).IsTuple s.heap.objs.size #[.str x t, .str y u] := ⟨_, Heap.get?_push_size _ rfl, rfl, 0, rfl⟩
  refine call_min_two (wpAny_pyIter_tuple hT ?_)
  have hsz : (s.heap.push { cls := .type "tuple", data := .seq #[Value.str x t, Value.str y u] }).objs.size = s.heap.objs.size + 1 := Heap.size_push ..
  refine ⟨_, [_, s.heap.objs.size], [_], _, _, _, _, rfl, Walks.tuple (A := A.in1) hh _ s.heap.objs.size (by rw [hsz]; exact Nat.ne_of_lt (Nat.lt_succ_self _)) #[.str x t, .str y u],
    ⟨⟨_, Heap.get?_push_size _ rfl, rfl, rfl⟩, hT.push _⟩, fun c hc => ?_, by simp, cmpOf_ltS #[.str x t, .str y u] (by simp), fun v h' tk hP hk => ?_⟩
  · show c < ((s.heap.push _).push _).objs.size
    rw [Heap.size_push, hsz]
    rcases List.mem_cons.mp hc with rfl | hc
    · rw [hsz]; exact Nat.lt_succ_self _
    · rcases List.mem_cons.mp hc with rfl | hc
      · exact Nat.lt_succ_of_lt (Nat.lt_succ_self _)
      · cases hc
  · have hold : ∀ c o, s.heap.get? c = some o → h'.get? c = some o := fun c o e => by
      refine hk c o (fun hm => ?_) (Heap.get?_push_of_some _ (Heap.get?_push_of_some _ e))
      rcases List.mem_cons.mp hm with e1 | hm
      · have := Heap.lt_size e; rw [e1, hsz] at this; exact Nat.lt_irrefl _ (Nat.lt_of_succ_lt this)
      · cases hm
    have := h h' tk hold
    have hv : v = if decide (y.cps.toList < x.cps.toList) then .str y u else .str x t := by
      cases hc : decide (y.cps.toList < x.cps.toList)
      · have hc' := of_decide_eq_false hc
        simp [argBest, cpV, hc'] at hP
        simpa using hP.symm
      · have hc' := of_decide_eq_true hc
        simp [argBest, cpV, hc'] at hP
        simpa using hP.symm
    rw [hv]; exact this
end
section
variable {X : Cx}
theorem call_maxS2 (hc : X.calm = true) : CallR X (.builtin "max") (fun xs H Q => ∃ a b : List Nat, xs = [.str (S a), .str (S b)] ∧ Q (.str (S (if ltS a b then b else a))) H) := by
  intro pins s σ H xs us Q I r h
  obtain ⟨i, j, rfl, q⟩ := h
  obtain ⟨u, w', rfl, ⟨t, rfl⟩, ⟨t', rfl⟩⟩ := vals2 r
  refine max_two_str (I.ok.hd hc) fun h' tk k => ⟨_, H, I.kept k, ?_, q⟩
  have e : decide ((S i).cps.toList < (S j).cps.toList) = ltS i j := by simp [S, ltS]
  rw [e]
  cases ltS i j
  · exact ⟨_, rfl⟩
  · exact ⟨_, rfl⟩
theorem call_minS2 (hc : X.calm = true) : CallR X (.builtin "min") (fun xs H Q => ∃ a b : List Nat, xs = [.str (S a), .str (S b)] ∧ Q (.str (S (if ltS b a then b else a))) H) := by
  intro pins s σ H xs us Q I r h
  obtain ⟨i, j, rfl, q⟩ := h
  obtain ⟨u, w', rfl, ⟨t, rfl⟩, ⟨t', rfl⟩⟩ := vals2 r
  refine min_two_str (I.ok.hd hc) fun h' tk k => ⟨_, H, I.kept k, ?_, q⟩
  have e : decide ((S j).cps.toList < (S i).cps.toList) = ltS j i := by simp [S, ltS]
  rw [e]
  cases ltS j i
  · exact ⟨_, rfl⟩
  · exact ⟨_, rfl⟩
theorem minD_S (r : List (List Nat)) : ∀ a : List Nat, PySem.W.minD (.str (S a)) (r.map fun x => PyData.str (S x)) = .str (S (minS a r)) := by
  induction r with
  | nil => exact fun _ => rfl
  | cons y r ih =>
    intro a
    have e : PySem.W.dataLt (.str (S y)) (.str (S a)) = ltS y a := by rw [PySem.W.dataLt_str]; simp [S, ltS]
    unfold minS
    rw [← ih]
    unfold PySem.W.minD
    rw [List.map_cons, List.foldl_cons, e]
    cases ltS y a <;> rfl
theorem maxD_S (r : List (List Nat)) : ∀ a : List Nat, PySem.W.maxD (.str (S a)) (r.map fun x => PyData.str (S x)) = .str (S (maxS a r)) := by
  induction r with
  | nil => exact fun _ => rfl
  | cons y r ih =>
    intro a
    have e : PySem.W.dataLt (.str (S a)) (.str (S y)) = ltS a y := by rw [PySem.W.dataLt_str]; simp [S, ltS]
    unfold maxS
    rw [← ih]
    unfold PySem.W.maxD
    rw [List.map_cons, List.foldl_cons, e]
    cases ltS a y <;> rfl
theorem readsS (h : Heap) : ∀ (ss : List (List Nat)) (vs : List Value), Vals ((ss.map S).map V.str) vs → ReadsAll h vs (ss.map fun x => PyData.str (S x)) []
  | [], _, .nil => .nil
  | s :: ss, _, .cons ⟨t, e⟩ r => by
    subst e
    exact .cons (as := []) (.str _ _) (readsS h ss _ r)
theorem alikeS (ss : List (List Nat)) : PySem.W.AlikeAll (ss.map fun x => PyData.str (S x)) := by
  refine ⟨fun x hx y hy => ?_, fun x hx => ?_⟩
  · obtain ⟨a, _, rfl⟩ := List.mem_map.mp hx
    obtain ⟨b, _, rfl⟩ := List.mem_map.mp hy
    rfl
  · obtain ⟨a, _, rfl⟩ := List.mem_map.mp hx
    intro e
    cases e
theorem depS : ∀ ss : List (List Nat), PyData.depthAll (ss.map fun x => PyData.str (S x)) ≤ 1
  | [] => by rw [List.map_nil, PyData.depthAll]; exact Nat.zero_le _
  | s :: ss => by
    rw [List.map_cons, PyData.depthAll]
    exact Nat.max_le.mpr ⟨by rw [PyData.depth] <;> decide, depS ss⟩
theorem call_minSs (hc : X.calm = true) (hu : X.A.units + 65 < cLine) : CallR X (.builtin "min") (fun xs H Q => ∃ (a : Addr) (x : List Nat) (ss : List (List Nat)), xs = [.ref a] ∧ (SqL X.K H a (((x :: ss).map S).map V.str) ∨ SqT X.K H a (((x :: ss).map S).map V.str)) ∧ Q (.str (S (minS x ss))) H) := by
  intro pins s σ H xs us Q I r h
  obtain ⟨a, x, ss, rfl, hs, q⟩ := h
  have hd := depS (x :: ss)
  rw [Vals.ref1 r]
  rcases hs with hs | hs
  · obtain ⟨its, rv, hl, _⟩ := I.list hs
    refine PySem.W.min_list_data (vs := its.toArray) (I.ok.hd hc) hl.isList (readsS s.heap (x :: ss) its rv) (alikeS (x :: ss)) (by show X.A.units + 1 + PyData.depthAll ((x :: ss).map fun x => PyData.str (S x)) < _; omega) fun i v h' tk bs _ rd k => ?_
    have e := minD_S ss x
    have rd : Reads h' v (PySem.W.minD (.str (S x)) (ss.map fun x => PyData.str (S x))) bs := rd
    rw [e] at rd
    cases rd
    exact ⟨.str (S (minS x ss)), H, I.kept k, ⟨_, rfl⟩, q⟩
  · obtain ⟨its, rv, hl, _⟩ := I.tuple hs
    refine PySem.W.min_tuple_data (vs := its.toArray) (I.ok.hd hc) hl (readsS s.heap (x :: ss) its rv) (alikeS (x :: ss)) (by show X.A.units + 1 + PyData.depthAll ((x :: ss).map fun x => PyData.str (S x)) < _; omega) fun i v h' tk bs _ rd k => ?_
    have e := minD_S ss x
    have rd : Reads h' v (PySem.W.minD (.str (S x)) (ss.map fun x => PyData.str (S x))) bs := rd
    rw [e] at rd
    cases rd
    exact ⟨.str (S (minS x ss)), H, I.kept k, ⟨_, rfl⟩, q⟩
theorem call_maxSs (hc : X.calm = true) (hu : X.A.units + 65 < cLine) : CallR X (.builtin "max") (fun xs H Q => ∃ (a : Addr) (x : List Nat) (ss : List (List Nat)), xs = [.ref a] ∧ (SqL X.K H a (((x :: ss).map S).map V.str) ∨ SqT X.K H a (((x :: ss).map S).map V.str)) ∧ Q (.str (S (maxS x ss))) H) := by
  intro pins s σ H xs us Q I r h
  obtain ⟨a, x, ss, rfl, hs, q⟩ := h
  have hd := depS (x :: ss)
  rw [Vals.ref1 r]
  rcases hs with hs | hs
  · obtain ⟨its, rv, hl, _⟩ := I.list hs
    refine PySem.W.max_list_data (vs := its.toArray) (I.ok.hd hc) hl.isList (readsS s.heap (x :: ss) its rv) (alikeS (x :: ss)) (by show X.A.units + 1 + PyData.depthAll ((x :: ss).map fun x => PyData.str (S x)) < _; omega) fun i v h' tk bs _ rd k => ?_
    have e := maxD_S ss x
    have rd : Reads h' v (PySem.W.maxD (.str (S x)) (ss.map fun x => PyData.str (S x))) bs := rd
    rw [e] at rd
    cases rd
    exact ⟨.str (S (maxS x ss)), H, I.kept k, ⟨_, rfl⟩, q⟩
  · obtain ⟨its, rv, hl, _⟩ := I.tuple hs
    refine PySem.W.max_tuple_data (vs := its.toArray) (I.ok.hd hc) hl (readsS s.heap (x :: ss) its rv) (alikeS (x :: ss)) (by show X.A.units + 1 + PyData.depthAll ((x :: ss).map fun x => PyData.str (S x)) < _; omega) fun i v h' tk bs _ rd k => ?_
    have e := maxD_S ss x
    have rd : Reads h' v (PySem.W.maxD (.str (S x)) (ss.map fun x => PyData.str (S x))) bs := rd
    rw [e] at rd
    cases rd
    exact ⟨.str (S (maxS x ss)), H, I.kept k, ⟨_, rfl⟩, q⟩
theorem minD_I (r : List Int) : ∀ a : Int, PySem.W.minD (.int a) (r.map fun x => PyData.int x) = .int (minI a r) := by
  induction r with
  | nil => exact fun _ => rfl
  | cons y r ih =>
    intro a
    have e : PySem.W.dataLt (.int y) (.int a) = decide (y < a) := PySem.W.dataLt_int ..
    unfold minI
    rw [← ih]
    unfold PySem.W.minD
    rw [List.map_cons, List.foldl_cons, e]
    by_cases z : y < a
    · rw [decide_eq_true z, if_pos z]; rfl
    · rw [decide_eq_false z, if_neg z]; rfl
theorem maxD_I (r : List Int) : ∀ a : Int, PySem.W.maxD (.int a) (r.map fun x => PyData.int x) = .int (maxI a r) := by
  induction r with
  | nil => exact fun _ => rfl
  | cons y r ih =>
    intro a
    have e : PySem.W.dataLt (.int a) (.int y) = decide (a < y) := PySem.W.dataLt_int ..
    unfold maxI
    rw [← ih]
    unfold PySem.W.maxD
    rw [List.map_cons, List.foldl_cons, e]
    by_cases z : a < y
    · rw [decide_eq_true z, if_pos z]; rfl
    · rw [decide_eq_false z, if_neg z]; rfl
theorem readsI (h : Heap) : ∀ (ss : List Int) (vs : List Value), Vals (ss.map V.int) vs → ReadsAll h vs (ss.map fun x => PyData.int x) []
  | [], _, .nil => .nil
  | s :: ss, _, .cons ⟨t, e⟩ r => by
    subst e
    exact .cons (as := []) (.int _ _) (readsI h ss _ r)
theorem alikeI (ss : List Int) : PySem.W.AlikeAll (ss.map fun x => PyData.int x) := by
  refine ⟨fun x hx y hy => ?_, fun x hx => ?_⟩
  · obtain ⟨a, _, rfl⟩ := List.mem_map.mp hx
    obtain ⟨b, _, rfl⟩ := List.mem_map.mp hy
    rfl
  · obtain ⟨a, _, rfl⟩ := List.mem_map.mp hx
    intro e
    cases e
theorem depI : ∀ ss : List Int, PyData.depthAll (ss.map fun x => PyData.int x) ≤ 1
  | [] => by rw [List.map_nil, PyData.depthAll]; exact Nat.zero_le _
  | s :: ss => by
    rw [List.map_cons, PyData.depthAll]
    exact Nat.max_le.mpr ⟨by rw [PyData.depth] <;> decide, depI ss⟩
theorem call_minIs (hc : X.calm = true) (hu : X.A.units + 65 < cLine) : CallR X (.builtin "min") (fun xs H Q => ∃ (a : Addr) (x : Int) (ss : List Int), xs = [.ref a] ∧ SqL X.K H a ((x :: ss).map V.int) ∧ Q (.int (minI x ss)) H) := by
  intro pins s σ H xs us Q I r h
  obtain ⟨a, x, ss, rfl, hs, q⟩ := h
  have hd := depI (x :: ss)
  rw [Vals.ref1 r]
  obtain ⟨its, rv, hl, _⟩ := I.list hs
  refine PySem.W.min_list_data (vs := its.toArray) (I.ok.hd hc) hl.isList (readsI s.heap (x :: ss) its rv) (alikeI (x :: ss)) (by show X.A.units + 1 + PyData.depthAll ((x :: ss).map fun x => PyData.int x) < _; omega) fun i v h' tk bs _ rd k => ?_
  have e := minD_I ss x
  have rd : Reads h' v (PySem.W.minD (.int x) (ss.map fun x => PyData.int x)) bs := rd
  rw [e] at rd
  cases rd
  exact ⟨.int (minI x ss), H, I.kept k, ⟨_, rfl⟩, q⟩
theorem call_maxIs (hc : X.calm = true) (hu : X.A.units + 65 < cLine) : CallR X (.builtin "max") (fun xs H Q => ∃ (a : Addr) (x : Int) (ss : List Int), xs = [.ref a] ∧ SqL X.K H a ((x :: ss).map V.int) ∧ Q (.int (maxI x ss)) H) := by
  intro pins s σ H xs us Q I r h
  obtain ⟨a, x, ss, rfl, hs, q⟩ := h
  have hd := depI (x :: ss)
  rw [Vals.ref1 r]
  obtain ⟨its, rv, hl, _⟩ := I.list hs
  refine PySem.W.max_list_data (vs := its.toArray) (I.ok.hd hc) hl.isList (readsI s.heap (x :: ss) its rv) (alikeI (x :: ss)) (by show X.A.units + 1 + PyData.depthAll ((x :: ss).map fun x => PyData.int x) < _; omega) fun i v h' tk bs _ rd k => ?_
  have e := maxD_I ss x
  have rd : Reads h' v (PySem.W.maxD (.int x) (ss.map fun x => PyData.int x)) bs := rd
  rw [e] at rd
  cases rd
  exact ⟨.int (maxI x ss), H, I.kept k, ⟨_, rfl⟩, q⟩
end
section
variable {K : PySem.W.Frag} {A : Nat → Option Addr} {H : Hp}
inductive RepK (K : PySem.W.Frag) (A : Nat → Option Addr) (H : Hp) : List (Key × V) → List (Key × D) → Prop
  | nil : RepK K A H [] []
  | cons {k : Key} {v : V} {vs : List (Key × V)} {d : D} {ds : List (Key × D)} : KeyZ k → Rep K A H v d → RepK K A H vs ds → RepK K A H ((k, v) :: vs) ((k, d) :: ds)
theorem RepK.repk : ∀ {vs : List (Key × V)} {ds : List (Key × D)}, RepK K A H vs ds → Repk K A H vs (kdD ds)
  | _, _, .nil => .nil
  | _, _, .cons z h r => .cons z h r.repk
theorem RepK.append : ∀ {vs ws : List (Key × V)} {ds es : List (Key × D)}, RepK K A H vs ds → RepK K A H ws es → RepK K A H (vs ++ ws) (ds ++ es)
  | _, _, _, _, .nil, s => s
  | _, _, _, _, .cons z h t, s => .cons z h (RepK.append t s)
theorem RepK.any {k : Key} : ∀ {vs : List (Key × V)} {ds : List (Key × D)}, RepK K A H vs ds → (vs.any fun kv => decide (kv.1 = k)) = (ds.any fun kv => decide (kv.1 = k))
  | _, _, .nil => rfl
  | _, _, .cons _ h r => by rw [List.any_cons, List.any_cons, r.any]
theorem RepK.map {k : Key} {v : V} {d : D} (q : Rep K A H v d) : ∀ {vs : List (Key × V)} {ds : List (Key × D)}, RepK K A H vs ds → RepK K A H (vs.map fun kv => if kv.1 = k then (kv.1, v) else kv) (ds.map fun kv => if kv.1 = k then (kv.1, d) else kv)
  | _, _, .nil => .nil
  | _, _, .cons (k := k') z h r => by
    rw [List.map_cons, List.map_cons]
    by_cases e : k' = k
    · rw [if_pos e, if_pos e]
      exact .cons z q (r.map q)
    · rw [if_neg e, if_neg e]
      exact .cons z h (r.map q)
theorem RepK.put {k : Key} {v : V} {d : D} (z : KeyZ k) (q : Rep K A H v d) {vs : List (Key × V)} {ds : List (Key × D)} (r : RepK K A H vs ds) : RepK K A H (putK vs k v) (putDK ds k d) := by
  unfold putK putDK
  rw [r.any (k := k)]
  split
  · exact r.map q
  · exact r.append (.cons z q .nil)
theorem RepK.merge : ∀ {ws : List (Key × V)} {es : List (Key × D)} {vs : List (Key × V)} {ds : List (Key × D)}, RepK K A H ws es → RepK K A H vs ds → RepK K A H (mergeK vs ws) (mergeDK ds es)
  | _, _, _, _, .nil, s => s
  | _, _, _, _, .cons (k := k) z h t, s => by
    have h2 := s.put (k := k) z h
    have q := RepK.merge t h2
    exact q
theorem paired_imp {α β : Type} {F F' : α → β → Prop} (h : ∀ a b, F a b → F' a b) : ∀ {l : List α} {m : List β}, Paired F l m → Paired F' l m
  | _, _, .nil => .nil
  | _, _, .cons q r => .cons (h _ _ q) (paired_imp h r)
theorem pairs_rep : ∀ {l : List D} {ps : List (Key × D)} {vs : List V}, pairsOf l = some ps → Reps K A H vs l → ∃ (as : List Addr) (kvs : List (Key × V)), vs = as.map V.ref ∧ Paired (fun p kv => SqT K H p [kV kv.1, kv.2]) as kvs ∧ RepK K A H kvs ps
  | [], _, _, h, r => by
    cases h
    cases r
    exact ⟨[], [], rfl, .nil, .nil⟩
  | d :: l, ps, _, h, r => by
    unfold pairsOf at h
    split at h
    · rename_i e; cases e
    · rename_i k v r' e
      cases e
      split at h
      · rename_i q hq
        obtain ⟨ps', h', e⟩ := Option.map_eq_some_iff.mp h
        subst e
        cases r with
        | cons h0 rs =>
          cases h0 with
          | tup ht rt z =>
            cases rt with
            | cons hk rt => cases rt with
              | cons hv rt => cases rt with
                | nil =>
                  obtain ⟨as, kvs, e1, e2, e3⟩ := pairs_rep h' rs
                  subst e1
                  refine ⟨_ :: as, (q, _) :: kvs, rfl, .cons ?_ e2, .cons ?_ hv e3⟩
                  · cases hk <;> simp [keyOf] at hq <;> subst hq <;> exact ht
                  · cases hk <;> simp [keyOf] at hq <;> subst hq
                    · exact trivial
                    · show (tl (S _)).length ≤ sizeLine
                      rw [tl_S]
                      assumption
      · cases h
    · cases h
theorem keysS_rep : ∀ {l : List (D × D)} {ss : List (List Nat)} {kvs : List (Key × V)}, keysS l = some ss → Repk K A H kvs l → kvs.map (·.1) = (ss.map S).map Sum.inr ∧ ss.length = l.length
  | [], _, _, h, r => by
    cases h
    cases r
    exact ⟨rfl, rfl⟩
  | (d, d2) :: l, ss, _, h, r => by
    cases r with
    | @cons k _ _ _ _ _ hv r =>
      cases k with
      | inl i => simp [keyD, keysS] at h
      | inr s =>
        simp only [keyD, keysS] at h
        obtain ⟨ss', h', e⟩ := Option.map_eq_some_iff.mp h
        subst e
        obtain ⟨e1, e2⟩ := keysS_rep h' r
        refine ⟨?_, by rw [List.length_cons, List.length_cons, e2]⟩
        rw [List.map_cons, e1, List.map_cons, List.map_cons, S_tl]
theorem keysI_rep : ∀ {l : List (D × D)} {ns : List Int} {kvs : List (Key × V)}, keysI l = some ns → Repk K A H kvs l → kvs.map (·.1) = ns.map Sum.inl ∧ ns.length = l.length
  | [], _, _, h, r => by
    cases h
    cases r
    exact ⟨rfl, rfl⟩
  | (d, d2) :: l, ns, _, h, r => by
    cases r with
    | @cons k _ _ _ _ _ hv r =>
      cases k with
      | inr s => simp [keyD, keysI] at h
      | inl i =>
        simp only [keyD, keysI] at h
        obtain ⟨ns', h', e⟩ := Option.map_eq_some_iff.mp h
        subst e
        obtain ⟨e1, e2⟩ := keysI_rep h' r
        exact ⟨by rw [List.map_cons, e1, List.map_cons], by rw [List.length_cons, List.length_cons, e2]⟩
theorem keysS_sz : ∀ {l : List (D × D)} {ss : List (List Nat)} {kvs : List (Key × V)}, keysS l = some ss → Repk K A H kvs l → ∀ s ∈ ss, s.length ≤ sizeLine
  | [], _, _, h, r, _, hs => by
    cases h
    cases hs
  | (d, d2) :: l, ss, _, h, r, s, hs => by
    cases r with
    | @cons k _ _ _ _ z hv r =>
      cases k with
      | inl i => simp [keyD, keysS] at h
      | inr x =>
        simp only [keyD, keysS] at h
        obtain ⟨ss', h', e⟩ := Option.map_eq_some_iff.mp h
        subst e
        rcases List.mem_cons.mp hs with e | e
        · rw [e]; exact z
        · exact keysS_sz h' r s e
end
section
variable {c : Cn} {W : WX} {G : Addr → Prop} {L : Lay} {m : Mu} {ρ : Env'} {σ : L2.St} {H : Hp} {b : Bool} {Q : VK}
theorem Pst.dic {ds : List (D × D)} {vs : List (Key × V)} {p : Addr} (E : ESt c.K c.own G L m ρ σ H) (h : Pst c W b G L σ H Q (.ok (.dic ds) m)) (r : Repk c.K (AL L) (hide (Bd G L) H) vs ds) (z : ds.length ≤ sizeLine) (n : H p = none) : Q (.ref p) (L2.upd H p (.dK vs)) := by
  have nb := E.nb E.sok.foot n
  refine h _ L (Stp.upd n) (E.sok.upd n) _ (.inl (.dic (.inl (Rep.new n nb)) ?_ z))
  exact r.mono (Stp.upd n).hid fun _ _ h => h
end
section
variable {X : Cx}
def rSortSA (K : PySem.W.Frag) : List V → Hp → VK → Prop := fun xs H Q => ∃ (a : Addr) (l : List Str), xs = [V.ref a] ∧ SqL K H a (l.map V.str) ∧ ∀ l' p, l'.Perm l → PyProof.Rows.sortedS l' = true → H p = none → Q (.ref p) (L2.upd H p (.lst (l'.map V.str)))
theorem call_sortSA : CallR X (.builtin "sorted") (rSortSA X.K) := by
  intro pins s σ H xs us Q I r ⟨a, l, e, hs, q⟩
  subst e
  obtain ⟨us', rv, ob, z⟩ := I.list hs
  rw [Vals.ref1 r]
  have z2 : us'.length ≤ sizeLine := rv.length ▸ z
  refine PyProof.Rows.sorted_strsAny ob.isList rv.strs z2 fun made l' st pm so => ?_
  obtain ⟨k, at_⟩ := PyProof.Rows.sortedAll_at s.heap us' made
  refine ⟨.ref _, L2.upd H (s.heap.objs.size + 1) (.lst (l'.map V.str)), I.laid (t' := s.toks) (fun b u g => PyProof.Rows.sortedAll_old g) (Nat.le_succ _) ⟨?_, made.toList, k, vals_of_strs st, at_⟩, rfl, q l' _ pm so (I.hok.fresh (Nat.le_succ _))⟩
  rw [List.length_map] at z ⊢
  exact pm.length_eq ▸ z
def rSortDA : List V → Hp → VK → Prop := fun xs H Q => ∃ (a : Addr) (kvs : List (Key × V)) (l : List Str), xs = [V.ref a] ∧ Rd H a (.dK kvs) ∧ kvs.map (·.1) = l.map Sum.inr ∧ ∀ l' p, l'.Perm l → PyProof.Rows.sortedS l' = true → H p = none → Q (.ref p) (L2.upd H p (.lst (l'.map V.str)))
theorem call_sortDA (hc : X.calm = true) : CallR X (.builtin "sorted") rSortDA := by
  intro pins s σ H xs us Q I r ⟨a, kvs, l, e, hd, ek, q⟩
  subst e
  rw [Vals.ref1 r]
  obtain ⟨z, lo, vs, rel, dd⟩ := dk_rd I.hok hd
  have kk : vs.map (·.1) = l.map Sum.inr := rel.keys ▸ ek
  have ln : vs.length = l.length := by simpa using congrArg List.length kk
  have z1 : vs.length ≤ sizeLine := rel.length ▸ z
  obtain ⟨ep, at_⟩ := dd.dictAt
  refine Calls.call_function_entry PyProof.Rows.kind_sorted PyProof.Rows.plain_sorted PyProof.Rows.entry_sorted (PyProof.Rows.args_sorted1 _) (wpAny_bind (m := checkCount "sorted" 1 1 _) (wpAny_pure (wpAny_bind ?_)))
  refine PySem.W.kdu_collect (A := X.A.in1) (PySem.W.kdl_dict (knd := mixKind X.prog X.w) (kvs := vs) (ep := ep) lo) (I.ok.hd hc) at_ z1 fun g tk got kept items => ?_
  have hz : got.toList.length = l.length := by rw [Array.length_toList, items.1, ln]
  have sa : PyProof.Rows.StrsAre got.toList l := strs_at hz fun j v ev => by
    rw [Array.getElem?_toList] at ev
    obtain ⟨k, x, e1, e2⟩ := items.2 j v ev
    have e3 : (l.map (Sum.inr : Str → Key))[j]? = some k := by rw [← kk, List.getElem?_map, e1]; rfl
    rw [List.getElem?_map] at e3
    obtain ⟨y, e4, e5⟩ := Option.map_eq_some_iff.mp e3
    subst e5
    obtain ⟨t, ev⟩ := Value.isStrOf_shape (x := y) (v := v) e2
    exact ⟨y, t, e4, ev⟩
  have I1 : Inv X pins σ H { s with heap := g, toks := tk } := I.kept kept
  have z3 : got.toList.length ≤ sizeLine := by rw [hz, ← ln]; exact z1
  refine wpAny_bind (wpAny_newList ?_ z3)
  have ho : (g.push (PyProof.Rows.seqObj "list" got.toList.toArray 0)).get? g.objs.size = some (PyProof.Rows.seqObj "list" got.toList.toArray 0) := Heap.get?_push_size _ rfl
  refine wpAny_bind (wpAny_holding (wpAny_call_entry PyProof.Rows.slot_list_sort ⟨_, ho, rfl⟩ PyProof.Rows.entry_list_sort (PyProof.Rows.list_sort_treeKAny PyProof.Rows.strKind_oneLt (s := { s with heap := g.push (PyProof.Rows.seqObj "list" got.toList.toArray 0), toks := tk }) ho sa.keysOf (fun v1 v2 rest ev => PyProof.Rows.keyKind_strs (ev ▸ sa)) z3 fun st pm so => ⟨_, rfl, ?_⟩) (PyProof.Rows.args_list_sort _)))
  obtain ⟨l', g1, g2, g3⟩ := PyProof.Rows.sorted_out_str sa pm so
  obtain ⟨k, hk⟩ := PyProof.Rows.sortedHeap_at (vs := got.toList) (out := (PyProof.Rows.arrOf st).map (·.2)) ho
  have z4 : (l'.map V.str).length ≤ sizeLine := by rw [List.length_map, g2.length_eq, ← hz]; exact z3
  refine wpAny_pure ⟨_, rfl, .ref g.objs.size, L2.upd H g.objs.size (.lst (l'.map V.str)), I1.laid (t' := tk) (fun b u ev => ?_) (Nat.le_refl _) ⟨z4, ((PyProof.Rows.arrOf st).map (·.2)).toList, k, vals_of_strs g1, by rw [Array.toArray_toList]; exact hk⟩, rfl, q l' _ g2 g3 (I1.hok.fresh (Nat.le_refl _))⟩
  have lt := Heap.lt_size ev
  rw [PyProof.Rows.sortedHeap_old (Nat.ne_of_lt lt) (by rw [PyProof.Rows.size_push']; exact Nat.lt_succ_of_lt lt)]
  exact Heap.get?_push_of_some _ ev
end
end MP
set_option maxRecDepth 100000
set_option maxHeartbeats 4000000
set_option autoImplicit false
namespace MP
open PySem L2
theorem sortedS_pw : ∀ (ys : List Str), PyProof.Rows.sortedS ys = true → (ys.map tl).Pairwise (fun a b => leS a b = true)
  | [], _ => .nil
  | x :: r, h => by
    have go : ∀ (p : Str) (r : List Str), PyProof.Rows.risingS p r = true → ((p :: r).map tl).Pairwise (fun a b => leS a b = true) := fun p r => by
      induction r generalizing p with
      | nil => exact fun _ => List.pairwise_singleton _ _
      | cons y r ih =>
        intro h
        unfold PyProof.Rows.risingS at h
        rw [Bool.and_eq_true] at h
        have h2 := ih y h.2
        have h1 : leS (tl p) (tl y) = true := by
          have := h.1
          rw [PyProof.Rows.ltCps_eq] at this
          exact this
        rw [List.map_cons, List.map_cons]
        rw [List.map_cons] at h2
        refine List.pairwise_cons.mpr ⟨fun z hz => ?_, h2⟩
        rcases List.mem_cons.mp hz with hz | hz
        · rw [hz]; exact h1
        · exact leS_tr _ _ _ h1 ((List.pairwise_cons.mp h2).1 z hz)
    exact go x r h
section
variable {K : PySem.W.Frag} {A : Nat → Option Addr} {H : Hp}
theorem ints_of : ∀ {l : List D} {ns : List Int} {vs : List V}, intsOf l = some ns → Reps K A H vs l → vs = ns.map V.int
  | [], _, _, h, r => by
    cases h
    cases r
    rfl
  | .int i :: l, ns, _, h, r => by
    unfold intsOf at h
    obtain ⟨ns', h', e⟩ := Option.map_eq_some_iff.mp h
    subst e
    cases r with
    | cons r rs =>
      cases r
      rw [ints_of h' rs]
      rfl
  | .non :: _, _, _, h, _ => by cases h
  | .bl _ :: _, _, _, h, _ => by cases h
  | .str _ :: _, _, _, h, _ => by cases h
  | .tup _ :: _, _, _, h, _ => by cases h
  | .lst _ :: _, _, _, h, _ => by cases h
  | .dic _ :: _, _, _, h, _ => by cases h
  | .obj _ :: _, _, _, h, _ => by cases h
  | .exc _ :: _, _, _, h, _ => by cases h
theorem strs_of : ∀ {l : List D} {ss : List (List Nat)} {vs : List V}, strsOf l = some ss → Reps K A H vs l → vs = (ss.map S).map V.str ∧ ∀ s ∈ ss, s.length ≤ sizeLine
  | [], _, _, h, r => by
    cases h
    cases r
    exact ⟨rfl, fun _ q => by cases q⟩
  | .str s :: l, ns, _, h, r => by
    unfold strsOf at h
    obtain ⟨ns', h', e⟩ := Option.map_eq_some_iff.mp h
    subst e
    cases r with
    | cons r rs =>
      cases r with
      | str _ z =>
        obtain ⟨e1, e2⟩ := strs_of h' rs
        rw [e1]
        exact ⟨rfl, fun s hs => (List.mem_cons.mp hs).elim (fun e => by rw [e]; exact z) (e2 s)⟩
  | .non :: _, _, _, h, _ => by cases h
  | .bl _ :: _, _, _, h, _ => by cases h
  | .int _ :: _, _, _, h, _ => by cases h
  | .tup _ :: _, _, _, h, _ => by cases h
  | .lst _ :: _, _, _, h, _ => by cases h
  | .dic _ :: _, _, _, h, _ => by cases h
  | .obj _ :: _, _, _, h, _ => by cases h
  | .exc _ :: _, _, _, h, _ => by cases h
theorem bls_of : ∀ {l : List D} {ss : List Bool} {vs : List V}, blsOf l = some ss → Reps K A H vs l → vs = ss.map V.bl
  | [], _, _, h, r => by
    cases h
    cases r
    rfl
  | .bl s :: l, ns, _, h, r => by
    unfold blsOf at h
    obtain ⟨ns', h', e⟩ := Option.map_eq_some_iff.mp h
    subst e
    cases r with
    | cons r rs =>
      cases r
      rw [bls_of h' rs]
      rfl
  | .non :: _, _, _, h, _ => by cases h
  | .str _ :: _, _, _, h, _ => by cases h
  | .int _ :: _, _, _, h, _ => by cases h
  | .tup _ :: _, _, _, h, _ => by cases h
  | .lst _ :: _, _, _, h, _ => by cases h
  | .dic _ :: _, _, _, h, _ => by cases h
  | .obj _ :: _, _, _, h, _ => by cases h
  | .exc _ :: _, _, _, h, _ => by cases h
theorem reps_int : ∀ (ns : List Int), Reps K A H (ns.map V.int) (ns.map D.int)
  | [] => .nil
  | n :: ns => .cons (.int n) (reps_int ns)
theorem reps_str : ∀ (ss : List (List Nat)), (∀ s ∈ ss, s.length ≤ sizeLine) → Reps K A H ((ss.map S).map V.str) (ss.map D.str)
  | [], _ => .nil
  | s :: ss, h => .cons (.str s (h s List.mem_cons_self)) (reps_str ss fun t ht => h t (List.mem_cons_of_mem _ ht))
theorem mt_sindexF {X : Cx} : MtR X "str.index" (fun x xs H Q => ∃ a b i k rest, x = .str a ∧ xs = [.str b, .int i] ∧ Builtin.Str.occurrences a b (PySem.fromIndex a.length i) a.length 1 = k :: rest ∧ Q (.int (k : Nat)) H) := by
  intro pins s σ H x xs v us Q I rx rs h
  obtain ⟨a, b, i, k, rest, e1, e2, ho, q⟩ := h
  subst e1
  subst e2
  obtain ⟨t, e⟩ := rx
  subst e
  cases rs with
  | cons r1 rs =>
    cases rs with
    | cons r2 rs =>
      cases rs
      obtain ⟨u, e⟩ := r1
      subst e
      obtain ⟨z, e⟩ := r2
      subst e
      exact call_gives PySem.F.slot_str_index (typeIs_str _ _ _) PySem.F.entry_str_index (PySem.F.args_str_index_3 _ _ _) (gives_str_index_from a b i t u z k rest ho) ⟨.int (k : Nat), H, I.tok _, ⟨_, rfl⟩, q⟩
theorem minS_sz {n : Nat} : ∀ {ss : List (List Nat)} {x : List Nat}, (∀ s ∈ x :: ss, s.length ≤ n) → (minS x ss).length ≤ n
  | [], x, h => h x List.mem_cons_self
  | y :: r, x, h => by
    unfold minS
    refine minS_sz fun s hs => ?_
    rcases List.mem_cons.mp hs with e | e
    · rw [e]
      split
      · exact h y (List.mem_cons_of_mem _ List.mem_cons_self)
      · exact h x List.mem_cons_self
    · exact h s (List.mem_cons_of_mem _ (List.mem_cons_of_mem _ e))
theorem maxS_sz {n : Nat} : ∀ {ss : List (List Nat)} {x : List Nat}, (∀ s ∈ x :: ss, s.length ≤ n) → (maxS x ss).length ≤ n
  | [], x, h => h x List.mem_cons_self
  | y :: r, x, h => by
    unfold maxS
    refine maxS_sz fun s hs => ?_
    rcases List.mem_cons.mp hs with e | e
    · rw [e]
      split
      · exact h y (List.mem_cons_of_mem _ List.mem_cons_self)
      · exact h x List.mem_cons_self
    · exact h s (List.mem_cons_of_mem _ (List.mem_cons_of_mem _ e))
end
def biName : BI → Str
  | .len => "len" | .sum => "sum" | .sorted => "sorted" | .min => "min" | .max => "max" | .all => "all" | .any => "any" | .list => "list" | .tuple => "tuple" | .str => "str" | .int => "int" | .dict => "dict" | .divmod => "divmod"
def biVal : BI → Value
  | .len => .builtin "len" | .sum => .builtin "sum" | .sorted => .builtin "sorted" | .min => .builtin "min" | .max => .builtin "max" | .all => .builtin "all" | .any => .builtin "any" | .list => .type "list" | .tuple => .type "tuple" | .str => .type "str" | .int => .type "int" | .dict => .type "dict" | .divmod => .builtin "divmod"
theorem callNo {X : Cx} {f : Value} : CallR X f (fun _ _ _ => False) := fun _ _ _ _ _ _ _ _ _ h => h.elim
section
variable {X : Cx} {c : Cn} {W : WX} {b : Bool} {ea eb ec : E} {x y z : Expr} {pos : Pos}
theorem call_lenR : CallR X (.builtin "len") (fun xs H Q => ∃ a kvs, xs = [V.ref a] ∧ Rd H a (.dK kvs) ∧ Q (.int kvs.length) H) := by
  intro pins s σ H xs us Q I r h
  obtain ⟨a, kvs, rfl, ha, q⟩ := h
  obtain ⟨u, rfl, ru⟩ := vals1 r
  cases ru
  exact d_len I ha fun t s' I' => ⟨.int kvs.length, H, I', ⟨t, rfl⟩, q⟩
def rListStr : List V → Hp → VK → Prop := fun xs H Q => ∃ s, xs = [V.str (S s)] ∧ s.length ≤ sizeLine ∧ ∀ p, H p = none → Q (.ref p) (upd H p (.lst (s.map fun ch => V.str (S [ch]))))
theorem call_listStr (hc : X.calm = true) : CallR X (.type "list") rListStr := by
  intro pins s σ H xs us Q I r h
  obtain ⟨t, rfl, z, q⟩ := h
  obtain ⟨u, rfl, tk, rfl⟩ := vals1 r
  refine PySem.call_list_str (I.ok.hd hc) (S t) tk (fun h' k acc' c' hk hS hacc => ?_) (by simpa [S] using z)
  refine ⟨.ref s.heap.objs.size, upd H s.heap.objs.size (.lst (t.map fun ch => V.str (S [ch]))), I.laid (t' := k) hk (Nat.le_refl _) ?_, rfl, q _ I.fresh⟩
  have hl : acc'.toList.length = t.length := by
    have := hacc.1
    rw [Array.length_toList, this]
    simp [S]
  refine ⟨by rw [List.length_map]; exact z, acc'.toList, c', ?_, hS⟩
  have key : ∀ (us : List V) (ws : List Value), us.length = ws.length → (∀ (j : Nat) (v : V) (w : Value), us[j]? = some v → ws[j]? = some w → RelV v w) → Vals us ws := fun us => by
    induction us with
    | nil => intro ws hl _; cases ws with
      | nil => exact .nil
      | cons _ _ => cases hl
    | cons v us ih =>
      intro ws hl h
      cases ws with
      | nil => cases hl
      | cons w ws => exact .cons (h 0 v w rfl rfl) (ih ws (by simpa using hl) fun j => h (j + 1))
  refine key _ _ (by rw [List.length_map, hl]) fun j v w h1 h2 => ?_
  have hj : j < t.length := by
    have := (List.getElem?_eq_some_iff.mp h1).1
    rw [List.length_map] at this
    exact this
  obtain ⟨ch, hch, ev⟩ := by
    rw [List.getElem?_map] at h1
    exact Option.map_eq_some_iff.mp h1
  subst ev
  obtain ⟨c1, u1, h3, h4⟩ := hacc.2 j w (by rw [← Array.getElem?_toList]; exact h2)
  have h5 : t[j]? = some c1 := by simpa [S] using h3
  rw [hch] at h5
  cases h5
  exact ⟨u1, h4⟩
theorem call_dcopy0 {X : Cx} : CallR X (.type "dict") (fun xs H Q => ∃ a kvs, xs = [.ref a] ∧ Rd H a (.dK kvs) ∧ ∀ p, H p = none → Q (.ref p) (upd H p (.dK kvs))) := by
  intro pins s σ H xs us Q I r h
  obtain ⟨a, kvs, rfl, e, q⟩ := h
  obtain ⟨u, rfl, ru⟩ := r.one
  cases ru
  exact d_copyOf I e fun p s' n I' => ⟨.ref p, _, I', rfl, q p n⟩
theorem bi_rule (hc : X.calm = true) (hu : X.A.units + 65 < cLine) (o : BI) (ds : List D) (z : D) (h : biD o ds = some z) : ∃ R : List V → Hp → VK → Prop, CallR X (biVal o) R ∧ ∀ (G : Addr → Prop) (L : Lay) (m : Mu) (ρ : Env') (σ : L2.St) (H : Hp) (Q : VK) (vs : List V), ESt X.K c.own G L m ρ σ H → RDs X.K G L H vs ds → Pst c W false G L σ H Q (.ok z m) → (hK : c.K = X.K) → R vs H Q := by
  have one : ∀ {G : Addr → Prop} {L : Lay} {H : Hp} {vs : List V} {d : D}, RDs X.K G L H vs [d] → ∃ v, vs = [v] ∧ RD X.K G L H v d := fun r => by
    cases r with
    | cons r rs => cases rs; exact ⟨_, rfl, r⟩
  have two : ∀ {G : Addr → Prop} {L : Lay} {H : Hp} {vs : List V} {d e : D}, RDs X.K G L H vs [d, e] → ∃ v w, vs = [v, w] ∧ RD X.K G L H v d ∧ RD X.K G L H w e := fun r => by
    cases r with
    | cons r rs => cases rs with
      | cons r2 rs => cases rs; exact ⟨_, _, rfl, r, r2⟩
  unfold biD at h
  split at h
  · cases h
    refine ⟨_, call_len, fun G L m ρ σ H Q vs E r0 q hK => ?_⟩
    obtain ⟨v, e, r⟩ := one r0
    obtain ⟨a, ws, e1, hr, rs, hz⟩ := r.lst
    subst e e1
    exact ⟨_, ws.length, rfl, .inl ⟨ws, hr, rfl⟩, by rw [rs.length]; exact q H L (Stp.refl _ _) (hK ▸ E.sok) _ (.inl (.int _))⟩
  · cases h
    refine ⟨_, call_len, fun G L m ρ σ H Q vs E r0 q hK => ?_⟩
    obtain ⟨v, e, r⟩ := one r0
    obtain ⟨a, ws, e1, hr, rs, hz⟩ := r.tup
    subst e e1
    exact ⟨_, ws.length, rfl, .inr ⟨ws, hr, rfl⟩, by rw [rs.length]; exact q H L (Stp.refl _ _) (hK ▸ E.sok) _ (.inl (.int _))⟩
  · cases h
    refine ⟨_, call_len, fun G L m ρ σ H Q vs E r0 q hK => ?_⟩
    obtain ⟨v, e, r⟩ := one r0
    rw [r.str.1] at e
    subst e
    exact ⟨_, _, rfl, ⟨by rw [S_len]; exact r.str.2, rfl⟩, by rw [S_len]; exact q H L (Stp.refl _ _) (hK ▸ E.sok) _ (.inl (.int _))⟩
  · cases h
    refine ⟨_, call_lenR, fun G L m ρ σ H Q vs E r0 q hK => ?_⟩
    obtain ⟨v, e, r⟩ := one r0
    obtain ⟨a, ws, e1, hr, rs, hz⟩ := r.dic
    subst e e1
    have hl : ws.length = _ := Repk.length rs
    exact ⟨_, ws, rfl, hr, by rw [hl]; exact q H L (Stp.refl _ _) (hK ▸ E.sok) _ (.inl (.int _))⟩
  · obtain ⟨ns, hn, ez⟩ := Option.map_eq_some_iff.mp h
    subst ez
    refine ⟨_, cr_sum hc, fun G L m ρ σ H Q vs E r0 q hK => ?_⟩
    obtain ⟨v, e, r⟩ := one r0
    obtain ⟨a, ws, e1, hr, rs, hz⟩ := r.lst
    subst e e1
    exact ⟨a, ns, rfl, by rw [← ints_of hn rs]; exact hr, q H L (Stp.refl _ _) (hK ▸ E.sok) _ (.inl (.int _))⟩
  · rename_i l
    split at h
    · rename_i h64
      cases hn : intsOf l with
      | some ns =>
        rw [hn] at h
        cases h
        refine ⟨_, cr_sortedI, fun G L m ρ σ H Q vs E r0 q hK => ?_⟩
        obtain ⟨v, e, r⟩ := one r0
        obtain ⟨a, ws, e1, hr, rs, hz⟩ := r.lst
        subst e e1
        have ew := ints_of hn rs
        have hlen : ns.length = l.length := by rw [← rs.length, ew, List.length_map]
        refine ⟨a, ns, rfl, by rw [← ew]; exact hr, fun ns' p hp hs n => ?_⟩
        have eu : ns' = sortL (fun a b => decide (a ≤ b)) ns := sortL_uniq (fun a b h => by simp at h ⊢; omega) (fun a b c h h2 => by simp at h h2 ⊢; omega) (fun a b h h2 => by simp at h h2; omega) hp (hs.imp fun h => by simpa using h)
        rw [eu]
        exact Pst.lst (c := c) (hK ▸ E) q (hK ▸ reps_int _) (by rw [List.length_map, (sortL_perm ns).length_eq, hlen]; exact hz) n
      | none =>
        rw [hn] at h
        cases hn2 : strsOf l with
        | none => rw [hn2] at h; cases h
        | some ss =>
          rw [hn2] at h
          cases h
          refine ⟨_, call_sortSA, fun G L m ρ σ H Q vs E r0 q hK => ?_⟩
          obtain ⟨v, e, r⟩ := one r0
          obtain ⟨a, ws, e1, hr, rs, hz⟩ := r.lst
          subst e e1
          obtain ⟨ew, hsz⟩ := strs_of hn2 rs
          have hlen : ss.length = l.length := by rw [← rs.length, ew, List.length_map, List.length_map]
          refine ⟨a, ss.map S, rfl, by rw [← ew]; exact hr, fun ys p hp hs n => ?_⟩
          have hp' : (ys.map tl).Perm ss := by
            have := hp.map tl
            rw [List.map_map] at this
            have e2 : ss.map (tl ∘ S) = ss := by
              have : (tl ∘ S) = id := funext fun s => tl_S s
              rw [this, List.map_id]
            rw [e2] at this
            exact this
          have eu : ys.map tl = sortL leS ss := sortL_uniq leS_tot leS_tr leS_anti hp' (sortedS_pw ys hs)
          have ey : ys = (sortL leS ss).map S := by
            rw [← eu, List.map_map]
            have : (S ∘ tl) = id := funext fun s => S_tl s
            rw [this, List.map_id]
          rw [ey]
          exact Pst.lst (c := c) (hK ▸ E) q (hK ▸ reps_str _ fun s hs => hsz s ((sortL_perm ss).mem_iff.mp hs)) (by rw [List.length_map, (sortL_perm ss).length_eq, hlen]; exact hz) n
    · cases h
  · cases h
    refine ⟨_, call_min2 hc, fun G L m ρ σ H Q vs E r0 q hK => ?_⟩
    obtain ⟨v, w, e, r1, r2⟩ := two r0
    exact ⟨_, _, by rw [e, r1.int, r2.int], q H L (Stp.refl _ _) (hK ▸ E.sok) _ (.inl (.int _))⟩
  · cases h
    refine ⟨_, call_max2 hc, fun G L m ρ σ H Q vs E r0 q hK => ?_⟩
    obtain ⟨v, w, e, r1, r2⟩ := two r0
    exact ⟨_, _, by rw [e, r1.int, r2.int], q H L (Stp.refl _ _) (hK ▸ E.sok) _ (.inl (.int _))⟩
  · obtain ⟨bs, hn, ez⟩ := Option.map_eq_some_iff.mp h
    subst ez
    refine ⟨_, cr_all hc, fun G L m ρ σ H Q vs E r0 q hK => ?_⟩
    obtain ⟨v, e, r⟩ := one r0
    obtain ⟨a, ws, e1, hr, rs, hz⟩ := r.lst
    subst e e1
    exact ⟨a, bs, rfl, by rw [← bls_of hn rs]; exact hr, q H L (Stp.refl _ _) (hK ▸ E.sok) _ (.inl (.bl _))⟩
  · obtain ⟨bs, hn, ez⟩ := Option.map_eq_some_iff.mp h
    subst ez
    refine ⟨_, cr_any hc, fun G L m ρ σ H Q vs E r0 q hK => ?_⟩
    obtain ⟨v, e, r⟩ := one r0
    obtain ⟨a, ws, e1, hr, rs, hz⟩ := r.lst
    subst e e1
    exact ⟨a, bs, rfl, by rw [← bls_of hn rs]; exact hr, q H L (Stp.refl _ _) (hK ▸ E.sok) _ (.inl (.bl _))⟩
  · cases h
    refine ⟨_, call_list_of, fun G L m ρ σ H Q vs E r0 q hK => ?_⟩
    obtain ⟨v, e, r⟩ := one r0
    obtain ⟨a, ws, e1, hr, rs, hz⟩ := r.lst
    subst e e1
    exact ⟨a, ws, rfl, .inl hr, fun p n => Pst.lst (c := c) (hK ▸ E) q (hK ▸ rs) hz n⟩
  · cases h
    refine ⟨_, call_list_of, fun G L m ρ σ H Q vs E r0 q hK => ?_⟩
    obtain ⟨v, e, r⟩ := one r0
    obtain ⟨a, ws, e1, hr, rs, hz⟩ := r.tup
    subst e e1
    exact ⟨a, ws, rfl, .inr hr, fun p n => Pst.lst (c := c) (hK ▸ E) q (hK ▸ rs) hz n⟩
  · cases h
    refine ⟨_, call_listStr hc, fun G L m ρ σ H Q vs E r0 q hK => ?_⟩
    obtain ⟨v, e, r⟩ := one r0
    rw [r.str.1] at e
    subst e
    rename_i t
    refine ⟨t, rfl, r.str.2, fun p n => Pst.lst (c := c) (hK ▸ E) q ?_ (by rw [List.length_map]; exact r.str.2) n⟩
    have go : ∀ s : List Nat, Reps c.K (AL L) (hide (Bd G L) H) (s.map fun ch => V.str (S [ch])) (s.map fun ch => D.str [ch]) := fun s => by
      induction s with
      | nil => exact .nil
      | cons ch s ih => exact .cons (.str [ch] (by show 1 ≤ sizeLine; decide)) ih
    exact go t
  · cases h
    refine ⟨_, call_int1, fun G L m ρ σ H Q vs E r0 q hK => ?_⟩
    obtain ⟨v, e, r⟩ := one r0
    exact .inl ⟨_, by rw [e, r.int], q H L (Stp.refl _ _) (hK ▸ E.sok) _ (.inl (.int _))⟩
  · cases h
    refine ⟨_, call_int1, fun G L m ρ σ H Q vs E r0 q hK => ?_⟩
    obtain ⟨v, e, r⟩ := one r0
    exact .inr ⟨_, by rw [e, r.bl], q H L (Stp.refl _ _) (hK ▸ E.sok) _ (.inl (.int _))⟩
  · split at h
    · rename_i hz
      obtain ⟨n, hn, ez⟩ := Option.map_eq_some_iff.mp h
      subst ez
      refine ⟨_, call_int_str, fun G L m ρ σ H Q vs E r0 q hK => ?_⟩
      obtain ⟨v, e, r⟩ := one r0
      exact ⟨_, n, by rw [e, r.str.1], hn, by rw [S_len]; exact hz, q H L (Stp.refl _ _) (hK ▸ E.sok) _ (.inl (.int _))⟩
    · cases h
  · cases h
    refine ⟨_, call_tuple_of, fun G L m ρ σ H Q vs E r0 q hK => ?_⟩
    obtain ⟨v, e, r⟩ := one r0
    obtain ⟨a, ws, e1, hr, rs, hz⟩ := r.lst
    subst e e1
    exact ⟨a, ws, rfl, .inl ⟨hr, fun p n => Pst.tup (c := c) (hK ▸ E) q (hK ▸ rs) hz n⟩⟩
  · cases h
    refine ⟨_, call_tuple_of, fun G L m ρ σ H Q vs E r0 q hK => ?_⟩
    obtain ⟨v, e, r⟩ := one r0
    obtain ⟨a, ws, e1, hr, rs, hz⟩ := r.tup
    subst e e1
    exact ⟨a, ws, rfl, .inr ⟨hr, q H L (Stp.refl _ _) (hK ▸ E.sok) _ (.inl (hK ▸ r.tupR))⟩⟩
  · split at h
    · rename_i hz
      cases h
      refine ⟨_, call_str_int, fun G L m ρ σ H Q vs E r0 q hK => ?_⟩
      obtain ⟨v, e, r⟩ := one r0
      rw [r.int] at e
      subst e
      rename_i k
      obtain ⟨n, rfl⟩ := Int.eq_ofNat_of_zero_le hz.1
      have hb : (Int.ofNat n).natAbs < 2 ^ 400 := Nat.lt_of_lt_of_le (show n < 10 ^ 100 by have := hz.2; omega) (by decide)
      refine ⟨(n : Int), rfl, Nat.lt_of_lt_of_le (PySem.Flt.log2_lt_of (by decide) hb) (by decide), ?_⟩
      have e2 : (toString (n : Int) : Str) = S (numS n) := by
        rw [← S_tl (toString (n : Int) : Str)]
        exact congrArg S (TL.tl_num n)
      rw [e2]
      refine q H L (Stp.refl _ _) (hK ▸ E.sok) _ (.inl (.str _ ?_))
      exact Nat.le_trans (TL.numL_len (k := 100) (by decide) (by have := hz.2; omega)) (by decide)
    · cases h
  · cases h
    refine ⟨_, call_minS2 hc, fun G L m ρ σ H Q vs E r0 q hK => ?_⟩
    obtain ⟨v, w, e, r1, r2⟩ := two r0
    exact ⟨_, _, by rw [e, r1.str.1, r2.str.1], q H L (Stp.refl _ _) (hK ▸ E.sok) _ (.inl (.str _ (by split; exact r2.str.2; exact r1.str.2)))⟩
  · cases h
    refine ⟨_, call_maxS2 hc, fun G L m ρ σ H Q vs E r0 q hK => ?_⟩
    obtain ⟨v, w, e, r1, r2⟩ := two r0
    exact ⟨_, _, by rw [e, r1.str.1, r2.str.1], q H L (Stp.refl _ _) (hK ▸ E.sok) _ (.inl (.str _ (by split; exact r2.str.2; exact r1.str.2)))⟩
  · unfold orI at h
    split at h
    · rename_i hbb
      obtain ⟨ss, hn, ez⟩ := Option.bind_eq_some_iff.mp hbb
      cases ss with
      | nil => cases ez
      | cons x ss =>
        cases ez
        cases h
        refine ⟨_, call_minSs hc hu, fun G L m ρ σ H Q vs E r0 q hK => ?_⟩
        obtain ⟨v, e, r⟩ := one r0
        obtain ⟨a, ws, e1, hr, rs, hz⟩ := r.lst
        subst e e1
        obtain ⟨ew, hsz⟩ := strs_of hn rs
        subst ew
        exact ⟨a, x, ss, rfl, .inl hr, q H L (Stp.refl _ _) (hK ▸ E.sok) _ (.inl (.str _ (minS_sz hsz)))⟩
    · obtain ⟨ss, hn, ez⟩ := Option.bind_eq_some_iff.mp h
      cases ss with
      | nil => cases ez
      | cons x ss =>
        cases ez
        refine ⟨_, call_minIs hc hu, fun G L m ρ σ H Q vs E r0 q hK => ?_⟩
        obtain ⟨v, e, r⟩ := one r0
        obtain ⟨a, ws, e1, hr, rs, hz⟩ := r.lst
        subst e e1
        have ew := ints_of hn rs
        subst ew
        exact ⟨a, x, ss, rfl, hr, q H L (Stp.refl _ _) (hK ▸ E.sok) _ (.inl (.int _))⟩
  · obtain ⟨ss, hn, ez⟩ := Option.bind_eq_some_iff.mp h
    cases ss with
    | nil => cases ez
    | cons x ss =>
      cases ez
      refine ⟨_, call_minSs hc hu, fun G L m ρ σ H Q vs E r0 q hK => ?_⟩
      obtain ⟨v, e, r⟩ := one r0
      obtain ⟨a, ws, e1, hr, rs, hz⟩ := r.tup
      subst e e1
      obtain ⟨ew, hsz⟩ := strs_of hn rs
      subst ew
      exact ⟨a, x, ss, rfl, .inr hr, q H L (Stp.refl _ _) (hK ▸ E.sok) _ (.inl (.str _ (minS_sz hsz)))⟩
  · unfold orI at h
    split at h
    · rename_i hbb
      obtain ⟨ss, hn, ez⟩ := Option.bind_eq_some_iff.mp hbb
      cases ss with
      | nil => cases ez
      | cons x ss =>
        cases ez
        cases h
        refine ⟨_, call_maxSs hc hu, fun G L m ρ σ H Q vs E r0 q hK => ?_⟩
        obtain ⟨v, e, r⟩ := one r0
        obtain ⟨a, ws, e1, hr, rs, hz⟩ := r.lst
        subst e e1
        obtain ⟨ew, hsz⟩ := strs_of hn rs
        subst ew
        exact ⟨a, x, ss, rfl, .inl hr, q H L (Stp.refl _ _) (hK ▸ E.sok) _ (.inl (.str _ (maxS_sz hsz)))⟩
    · obtain ⟨ss, hn, ez⟩ := Option.bind_eq_some_iff.mp h
      cases ss with
      | nil => cases ez
      | cons x ss =>
        cases ez
        refine ⟨_, call_maxIs hc hu, fun G L m ρ σ H Q vs E r0 q hK => ?_⟩
        obtain ⟨v, e, r⟩ := one r0
        obtain ⟨a, ws, e1, hr, rs, hz⟩ := r.lst
        subst e e1
        have ew := ints_of hn rs
        subst ew
        exact ⟨a, x, ss, rfl, hr, q H L (Stp.refl _ _) (hK ▸ E.sok) _ (.inl (.int _))⟩
  · obtain ⟨ss, hn, ez⟩ := Option.bind_eq_some_iff.mp h
    cases ss with
    | nil => cases ez
    | cons x ss =>
      cases ez
      refine ⟨_, call_maxSs hc hu, fun G L m ρ σ H Q vs E r0 q hK => ?_⟩
      obtain ⟨v, e, r⟩ := one r0
      obtain ⟨a, ws, e1, hr, rs, hz⟩ := r.tup
      subst e e1
      obtain ⟨ew, hsz⟩ := strs_of hn rs
      subst ew
      exact ⟨a, x, ss, rfl, .inr hr, q H L (Stp.refl _ _) (hK ▸ E.sok) _ (.inl (.str _ (maxS_sz hsz)))⟩
  · obtain ⟨ps, hn, ez⟩ := Option.map_eq_some_iff.mp h
    subst ez
    refine ⟨_, call_dictP hc, fun G L m ρ σ H Q vs E r0 q hK => ?_⟩
    obtain ⟨v, e, r⟩ := one r0
    obtain ⟨a, ws, e1, hr, rs, hz⟩ := r.lst
    subst e e1
    obtain ⟨as, kvs, e2, e3, e4⟩ := pairs_rep hn rs
    subst e2
    refine ⟨a, as, kvs, rfl, hr, ?_, fun p n => Pst.dic (c := c) (hK ▸ E) q (hK ▸ (RepK.merge e4 .nil).repk) ?_ n⟩
    · exact paired_imp (fun _ _ h => Same.sqT hide_sub h) e3
    · unfold kdD
      rw [List.length_map]
      refine Nat.le_trans (length_mergeDK ps []) ?_
      rw [pairsOf_len hn]
      simpa using hz
  · cases h
    refine ⟨_, call_dcopy0, fun G L m ρ σ H Q vs E r0 q hK => ?_⟩
    obtain ⟨v, e, r⟩ := one r0
    obtain ⟨a, kvs, e1, hr, rk, z⟩ := r.dic
    subst e e1
    exact ⟨a, kvs, rfl, hr, fun p n => Pst.dic (c := c) (hK ▸ E) q (hK ▸ rk) z n⟩
  · split at h
    · rename_i h64
      generalize hn : keysS _ = oks at h
      cases oks with
      | none =>
        dsimp only at h
        split at h
        case isFalse => cases h
        rename_i h64
        obtain ⟨ns, hn2, ez⟩ := Option.map_eq_some_iff.mp h
        subst ez
        refine ⟨_, call_sortedDI hc, fun G L m ρ σ H Q vs E r0 q hK => ?_⟩
        obtain ⟨v, e, r⟩ := one r0
        obtain ⟨a, ws, e1, hr, rs, hz⟩ := r.dic
        subst e e1
        obtain ⟨ek, hl⟩ := keysI_rep hn2 rs
        refine ⟨a, ws, ns, rfl, hr, ek, by rw [hl]; exact h64, fun ys p hp hs n => ?_⟩
        have eu : ys = sortL (fun a b => decide (a ≤ b)) ns := sortL_uniq (fun a b h => by simp at h ⊢; omega) (fun a b c h h2 => by simp at h h2 ⊢; omega) (fun a b h h2 => by simp at h h2; omega) hp (hs.imp fun h => by simpa using h)
        rw [eu]
        exact Pst.lst (c := c) (hK ▸ E) q (hK ▸ reps_int _) (by rw [List.length_map, (sortL_perm ns).length_eq, hl]; exact small64 h64) n
      | some ss =>
      cases h
      refine ⟨_, call_sortDA hc, fun G L m ρ σ H Q vs E r0 q hK => ?_⟩
      obtain ⟨v, e, r⟩ := one r0
      obtain ⟨a, ws, e1, hr, rs, hz⟩ := r.dic
      subst e e1
      obtain ⟨ek, hl⟩ := keysS_rep hn rs
      refine ⟨a, ws, ss.map S, rfl, hr, ek, fun ys p hp hs n => ?_⟩
      have hp' : (ys.map tl).Perm ss := by
        have := hp.map tl
        rw [List.map_map] at this
        have e2 : ss.map (tl ∘ S) = ss := by
          have : (tl ∘ S) = id := funext fun s => tl_S s
          rw [this, List.map_id]
        rw [e2] at this
        exact this
      have eu : ys.map tl = sortL leS ss := sortL_uniq leS_tot leS_tr leS_anti hp' (sortedS_pw ys hs)
      have ey : ys = (sortL leS ss).map S := by
        rw [← eu, List.map_map]
        have : (S ∘ tl) = id := funext fun s => S_tl s
        rw [this, List.map_id]
      rw [ey]
      exact Pst.lst (c := c) (hK ▸ E) q (hK ▸ reps_str _ fun s hs => keysS_sz hn rs s ((sortL_perm ss).mem_iff.mp hs)) (by rw [List.length_map, (sortL_perm ss).length_eq, hl]; exact hz) n
    · cases h
  · split at h
    · rename_i hq
      cases h
      refine ⟨_, call_divmodW, fun G L m ρ σ H Q vs E r0 q hK => ?_⟩
      obtain ⟨v, w, e, r1, r2⟩ := two r0
      exact ⟨_, _, by rw [e, r1.int, r2.int], ⟨hq.1, PyProof.noPylong_of_log2 hq.2⟩, fun p n => Pst.tup (c := c) (hK ▸ E) q (.cons (.int _) (.cons (.int _) .nil)) (by show (2 : Nat) ≤ _; rw [sizeLine_eq]; omega) n⟩
    · cases h
  · cases h
theorem s_bi_run (hK : c.K = X.K) (hc : X.calm = true) (hu : X.A.units + 65 < cLine) (o : BI) {l : Es} {σ : L2.St} {H : Hp} {Q : VK} (h : TEr c W false (.bi o l) σ H Q) : ∃ R : List V → Hp → VK → Prop, CallR X (biVal o) R ∧ tCB R (TAr c W true l) σ H Q := by
  obtain ⟨G, L, m, ρ, E, h⟩ := h
  rw [evE] at h
  by_cases hz : ∃ ds m1 z, evEs c.cfg l ρ m = .ok ds m1 ∧ biD o (drs m1 ds) = some z
  · obtain ⟨ds, m1, z, e1, e2⟩ := hz
    obtain ⟨r, hr, k⟩ := bi_rule (X := X) (c := c) (W := W) hc hu o (drs m1 ds) z e2
    refine ⟨r, hr, ?_⟩
    refine TAr.bind E h fun ds' m1' vs H1 L1 q1 s1 E1 r1 h1 => ?_
    rw [e1] at q1
    cases q1
    rw [e2] at h1
    exact k G L1 _ ρ σ H1 Q vs (hK ▸ E1) (hK ▸ r1.rds E1.sok) h1 hK
  · refine ⟨_, callNo, ?_⟩
    refine TAr.bind E h fun ds' m1' vs H1 L1 q1 s1 E1 r1 h1 => ?_
    cases e3 : biD o (drs m1' ds') with
    | none => rw [e3] at h1; exact h1
    | some z => exact hz ⟨_, _, _, q1, e3⟩
theorem bi_boot (o : BI) : bootBuiltins (biName o) = some (biVal o) := by cases o <;> decide +kernel
theorem bi_name (o : BI) : biName o ≠ "__name__" ∧ (biName o == ("__debug__" : Str)) = false := by cases o <;> decide +kernel
theorem s_bi {p : Pos} {e : Expr} {es : List Expr} {l : Es} (hK : c.K = X.K) (hc : X.calm = true) (hu : X.A.units + 65 < cLine) (o : BI) (hg : Gl X (biName o)) (hm : X.mg (biName o) = none) (ha : PA X (e :: es) (TAr c W true l)) (hn : (e :: es).all notStar = true) : PE X (.Call (.Name (biName o) p) (e :: es) [] pos) (TEr c W false (.bi o l)) := by
  have hn1 : notStar e = true := by
    rw [List.all_cons, Bool.and_eq_true] at hn
    exact hn.1
  have hn2 : es.all notStar = true := by
    rw [List.all_cons, Bool.and_eq_true] at hn
    exact hn.2
  refine ⟨fun pins s σ H Q I h => ?_⟩
  obtain ⟨R, hR, h⟩ := s_bi_run hK hc hu o h
  have hb := bi_boot o
  have hv : (∃ id, biVal o = .builtin id) ∨ ∃ T, biVal o = .type T := by
    cases o <;> first | exact .inl ⟨_, rfl⟩ | exact .inr ⟨_, rfl⟩
  rcases hv with ⟨id, e1⟩ | ⟨T, e1⟩
  · rw [e1] at hR hb
    exact (pe_callB hR hg hm hb ha (bi_name o).1 (bi_name o).2 (star_of hn1) (by rw [back_any]; exact star_any hn2)).run pins s σ H Q I h
  · rw [e1] at hR hb
    exact (pe_callTy hR hg hm hb ha (bi_name o).1 (bi_name o).2 (star_of hn1) (by rw [back_any]; exact star_any hn2)).run pins s σ H Q I h
def tyName : Ty → Str
  | .int => "int" | .bool => "bool" | .str => "str" | .list => "list" | .tuple => "tuple" | .dict => "dict"
def tyStr : Ty → String
  | .int => "int" | .bool => "bool" | .str => "str" | .list => "list" | .tuple => "tuple" | .dict => "dict"
theorem kit_d (t : Ty) (d : D) (s : String) (h : clsD d = some s) : kitB s (tyStr t) = some (tyD t d) := by
  cases d <;> cases h <;> cases t <;> first | (show kitB _ _ = some true; decide +kernel) | (show kitB _ _ = some false; decide +kernel)
theorem ty_boot (t : Ty) : bootBuiltins (tyName t) = some (.type (tyStr t)) := by cases t <;> decide +kernel
theorem ty_name (t : Ty) : tyName t ≠ "__name__" ∧ (tyName t == ("__debug__" : Str)) = false := by cases t <;> decide +kernel
theorem boot_isi : bootBuiltins "isinstance" = some (.builtin "isinstance") := by decide +kernel
theorem tyx_of {K : PySem.W.Frag} {G : Addr → Prop} {L : Lay} {H : Hp} {v : V} {d : D} {s : String} (r : RD K G L H v d) (h : clsD d = some s) : TyX K H v (.type s) := by
  cases d with
  | non => cases h; rw [r.non]; exact .base .non
  | bl i => cases h; rw [r.bl]; exact .base (.bl i)
  | int i => cases h; rw [r.int]; exact .base (.int i)
  | str i => cases h; rw [r.str.1]; exact .base (.str _)
  | tup l =>
    cases h
    obtain ⟨a, vs, e, hs, rs, z⟩ := r.tup
    subst e
    rcases hs with (hs | ⟨o, hs⟩) | ⟨o, its, n, hk, hcl, _⟩
    · exact .base (.tup hs)
    · exact .fTuple hs
    · exact .kTuple hk hcl
  | lst l =>
    cases h
    obtain ⟨a, vs, e, hs, rs, z⟩ := r.lst
    subst e
    rcases hs with (hs | ⟨o, hs⟩) | ⟨o, its, n, hk, hcl, _⟩
    · exact .base (.lst hs)
    · exact .base (.frz hs)
    · exact .kList hk hcl
  | dic l =>
    cases h
    obtain ⟨a, vs, e, hs, rs, z⟩ := r.dic
    subst e
    rcases hs with hs | ⟨o, hs⟩
    · exact .base (.dK hs)
    · exact .fDict hs
  | obj n => cases h
  | exc n => cases h
theorem s_isi1 {p p2 : Pos} {k : Nat} {e : Expr} (t : Ty) (hK : c.K = X.K) (hg : Gl X "isinstance") (hm : X.mg "isinstance" = none) (hg2 : Gl X (tyName t)) (hm2 : X.mg (tyName t) = none) (ha : PE X e (TEr c W b ea)) (hn : notStar e = true) :
    PE X (.Call (.Name "isinstance" p) [e, .Name (tyName t) p2] [] pos) (TEr c W false (.isi [t] ea)) := by
  have he : PE X (.Name (tyName t) p2) (tC (.ty (tyStr t))) := pe_bltn hg2 hm2 (ty_boot t) rfl (ty_name t).1 (ty_name t).2
  refine pe_imp (pe_callB call_isi hg hm boot_isi (pa_cons ha (pa_cons he pa_nil rfl) (star_of hn)) (by decide +kernel) (by decide +kernel) (star_of hn) rfl) fun σ H Q h => ?_
  obtain ⟨G, L, m, ρ, E, h⟩ := h
  rw [evE] at h
  refine TEr.bind E h fun d m1 v H1 L1 q1 s1 E1 r1 h1 => ?_
  show rIsi X.K [v, .ty (tyStr t)] H1 Q
  have rr := r1.drd E1.sok
  generalize dr m1 d = d at *
  cases hc : clsD d with
  | none => rw [hc] at h1; exact (show False from h1).elim
  | some s =>
    rw [hc] at h1
    refine ⟨v, _, .type s, .type (tyStr t), tyD t d, rfl, .ty _, hK ▸ tyx_of rr hc, kit_ty (kit_d t d s hc), ?_⟩
    have := Pst.val E1 h1 (.inl (.bl _))
    simpa using this
theorem s_isi2 {p p2 p3 p4 : Pos} {k : Nat} {e : Expr} (t u : Ty) (hK : c.K = X.K) (hg : Gl X "isinstance") (hm : X.mg "isinstance" = none) (hg2 : Gl X (tyName t)) (hm2 : X.mg (tyName t) = none) (hg3 : Gl X (tyName u)) (hm3 : X.mg (tyName u) = none)
    (ha : PE X e (TEr c W b ea)) (hn : notStar e = true) :
    PE X (.Call (.Name "isinstance" p) [e, .Tuple [.Name (tyName t) p2, .Name (tyName u) p3] k p4] [] pos) (TEr c W false (.isi [t, u] ea)) := by
  have he : PE X (.Name (tyName t) p2) (tC (.ty (tyStr t))) := pe_bltn hg2 hm2 (ty_boot t) rfl (ty_name t).1 (ty_name t).2
  have he2 : PE X (.Name (tyName u) p3) (tC (.ty (tyStr u))) := pe_bltn hg3 hm3 (ty_boot u) rfl (ty_name u).1 (ty_name u).2
  have het : PE X (.Tuple [.Name (tyName t) p2, .Name (tyName u) p3] k p4) (tTup (tCons (tC (.ty (tyStr t))) (tCons (tC (.ty (tyStr u))) tNil))) := pe_tup (pa_cons he (pa_cons he2 pa_nil rfl) rfl)
  refine pe_imp (pe_callB call_isiT hg hm boot_isi (pa_cons ha (pa_cons het pa_nil rfl) (star_of hn)) (by decide +kernel) (by decide +kernel) (star_of hn) rfl) fun σ H Q h => ?_
  obtain ⟨G, L, m, ρ, E, h⟩ := h
  rw [evE] at h
  refine TEr.bind E h fun d m1 v H1 L1 q1 s1 E1 r1 h1 => ?_
  refine ⟨by show 2 ≤ sizeLine; decide, fun tp n => ?_⟩
  have st : Stp L1 L1 H1 (upd H1 tp (.tup [V.ty (tyStr t), V.ty (tyStr u)])) := Stp.upd n
  have r2 := (r1.step E1 st).drd (E1.sok.upd n)
  generalize dr m1 d = d at *
  show rIsiT X.K [v, .ref tp] _ Q
  cases hc : clsD d with
  | none => rw [hc] at h1; exact (show False from h1).elim
  | some s =>
    rw [hc] at h1
    have q := (h1.step st) _ _ (Stp.refl _ _) (E1.sok.upd n) _ (.inl (.bl _))
    refine ⟨v, tp, _, .type s, [.type (tyStr t), .type (tyStr u)], [t, u].any (fun t => tyD t d), rfl, upd_same, .cons (.ty _) (.cons (.ty _) .nil), hK ▸ tyx_of r2 hc, ?_, q⟩
    refine kitAny_cons (kit_ty (kit_d t d s hc)) (fun ht => ?_) fun ht => by rw [List.any_cons, ht]; rfl
    refine kitAny_cons (kit_ty (kit_d u d s hc)) (fun hu => ?_) fun hu => by rw [List.any_cons, List.any_cons, hu, Bool.true_or, Bool.or_true]
    rw [List.any_cons, List.any_cons, List.any_nil, ht, hu]
    exact kitAny_nil
end
section
variable {X : Cx} {c : Cn} {W : WX} {ba bb : Bool} {ea eb : E} {x y : Expr} {pos : Pos}
def mtName : MT → Str
  | .sjoin => "join" | .sfind => "find" | .sindex => "index" | .sstarts => "startswith" | .ssplit => "split" | .szfill => "zfill" | .lindex => "index" | .dget => "get" | .supper => "upper"
def mtId : MT → String
  | .sjoin => "str.join" | .sfind => "str.find" | .sindex => "str.index" | .sstarts => "str.startswith" | .ssplit => "str.split" | .szfill => "str.zfill" | .lindex => "list.index" | .dget => "dict.get" | .supper => "str.upper"
theorem mt_slot (o : MT) (h : mtTxt o = true) : Slot "str" (mtName o) (mtId o) := by
  cases o with
  | sjoin => exact PySem.F.slot_str_join
  | sfind => exact PySem.F.slot_str_find
  | sindex => exact PySem.F.slot_str_index
  | sstarts => exact PySem.F.slot_str_startswith
  | ssplit => exact PySem.F.slot_str_split
  | szfill => exact PySem.F.slot_str_zfill
  | supper => exact PySem.F.slot_str_upper
  | _ => cases h
theorem mt_ty (o : MT) (h : mtTxt o = true) : typeOf (.builtin (mtId o)) = pure (.type "method_descriptor") := by
  cases o with
  | sjoin => exact PySem.F.type_str_join
  | sfind => exact PySem.F.type_str_find
  | sindex => exact PySem.F.type_str_index
  | sstarts => exact PySem.F.type_str_startswith
  | ssplit => exact PySem.F.type_str_split
  | szfill => exact PySem.F.type_str_zfill
  | supper => exact PySem.F.type_str_upper
  | _ => cases h
theorem mtNo {id : String} : MtR X id (fun _ _ _ _ => False) := fun _ _ _ _ _ _ _ _ _ _ _ _ h => h.elim
theorem strD_of {G : Addr → Prop} {L : Lay} {m : Mu} {ρ : Env'} {σ : L2.St} {H : Hp} {Q : VK} {s : Str} {z : D} (h : strD s = some z) (E : ESt c.K c.own G L m ρ σ H) (q : Pst c W false G L σ H Q (.ok z m)) : Q (.str s) H := by
  unfold strD at h
  split at h
  · rename_i hz
    cases h
    refine q H L (Stp.refl _ _) E.sok _ (.inl ?_)
    have := Rep.str (K := c.K) (A := AL L) (H := hide (Bd G L) H) (tl s) (by
      have : (tl s).length = s.length := by simp [tl, Str.length]
      rw [this]
      exact hz)
    rw [S_tl] at this
    exact this
  · cases h
theorem reps_strs {K : PySem.W.Frag} {A : Nat → Option Addr} {H : Hp} : ∀ l : List Str, (∀ x ∈ l, x.length ≤ sizeLine) → Reps K A H (l.map V.str) (l.map fun x => D.str (tl x))
  | [], _ => .nil
  | x :: l, h => by
    have hx : Rep K A H (.str (S (tl x))) (.str (tl x)) := .str _ (by
      have : (tl x).length = x.length := by simp [tl, Str.length]
      rw [this]
      exact h x List.mem_cons_self)
    rw [S_tl] at hx
    exact .cons hx (reps_strs l fun y hy => h y (List.mem_cons_of_mem _ hy))
theorem upper_S {a : List Nat} (h : a.all (· < 128) = true) : Txt.upper (S a) = S (a.map PyProof.Rows.up1) := by
  rw [PyProof.Rows.upper_ascii (x := S a) (fun c hc => of_decide_eq_true (List.all_eq_true.mp h c hc))]
  simp [S]
theorem mt_rule (o : MT) (d : D) (ds : List D) (z : D) (h : mtD o d ds = some z) : ∃ R : V → List V → Hp → VK → Prop, MtR X (mtId o) R ∧ ∀ (G : Addr → Prop) (L : Lay) (m : Mu) (ρ : Env') (σ : L2.St) (H : Hp) (Q : VK) (v : V) (vs : List V), ESt c.K c.own G L m ρ σ H → RB c.K ba G L H v d → RBs c.K bb G L H vs ds → Pst c W false G L σ H Q (.ok z m) → c.K = X.K → (∃ a, v = .str a) ∧ R v vs H Q := by
  have one : ∀ {G : Addr → Prop} {L : Lay} {H : Hp} {vs : List V} {d : D}, RBs c.K bb G L H vs [d] → ∃ v, vs = [v] ∧ RB c.K bb G L H v d := fun r => by
    cases r with
    | cons r rs => cases rs; exact ⟨_, rfl, r⟩
  have two : ∀ {G : Addr → Prop} {L : Lay} {H : Hp} {vs : List V} {d e : D}, RBs c.K bb G L H vs [d, e] → ∃ v w, vs = [v, w] ∧ RB c.K bb G L H v d ∧ RB c.K bb G L H w e := fun r => by
    cases r with
    | cons r rs => cases rs with
      | cons r2 rs => cases rs; exact ⟨_, _, rfl, r, r2⟩
  unfold mtD at h
  split at h
  · obtain ⟨ys, hy, h⟩ := Option.bind_eq_some_iff.mp h
    split at h
    · rename_i hz
      refine ⟨_, mt_join, fun G L m ρ σ H Q v vs E rv rs q hK => ?_⟩
      obtain ⟨w, ew, rw'⟩ := one rs
      obtain ⟨p, ws, e1, hr, rr, hl⟩ := rw'.lst
      have hws := (strs_of hy rr).1
      subst ew e1
      have ev := rv.str.1
      refine ⟨⟨_, ev⟩, _, p, ys.map S, ev, rfl, .inl (by rw [← hws]; exact hK ▸ hr), ?_, strD_of h E q⟩
      have e2 : ((ys.map S).map (·.length)) = ys.map List.length := by
        rw [List.map_map]
        exact List.map_congr_left fun a _ => S_len a
      rw [e2, List.length_map, S_len]
      exact hz
    · cases h
  · cases h
    refine ⟨_, mt_find3, fun G L m ρ σ H Q v vs E rv rs q hK => ?_⟩
    obtain ⟨w, u, ew, r1, r2⟩ := two rs
    exact ⟨⟨_, rv.str.1⟩, _, _, _, rv.str.1, by rw [ew, r1.str.1, r2.int], q H L (Stp.refl _ _) E.sok _ (.inl (.int _))⟩
  · cases h
    refine ⟨_, mt_find, fun G L m ρ σ H Q v vs E rv rs q hK => ?_⟩
    obtain ⟨w, ew, r1⟩ := one rs
    exact ⟨⟨_, rv.str.1⟩, _, _, rv.str.1, by rw [ew, r1.str.1], q H L (Stp.refl _ _) E.sok _ (.inl (.int _))⟩
  · obtain ⟨k, hk, ez⟩ := Option.map_eq_some_iff.mp h
    subst ez
    refine ⟨_, mt_sindex, fun G L m ρ σ H Q v vs E rv rs q hK => ?_⟩
    obtain ⟨w, ew, r1⟩ := one rs
    unfold Txt.index0 at hk
    obtain ⟨rest, hr⟩ := List.head?_eq_some_iff.mp hk
    exact ⟨⟨_, rv.str.1⟩, _, _, k, rest, rv.str.1, by rw [ew, r1.str.1], hr, q H L (Stp.refl _ _) E.sok _ (.inl (.int _))⟩
  · obtain ⟨k, hk, ez⟩ := Option.map_eq_some_iff.mp h
    subst ez
    refine ⟨_, mt_sindexF, fun G L m ρ σ H Q v vs E rv rs q hK => ?_⟩
    obtain ⟨w, u, ew, r1, r2⟩ := two rs
    unfold Txt.indexFrom at hk
    obtain ⟨rest, hr⟩ := List.head?_eq_some_iff.mp hk
    exact ⟨⟨_, rv.str.1⟩, _, _, _, k, rest, rv.str.1, by rw [ew, r1.str.1, r2.int], hr, q H L (Stp.refl _ _) E.sok _ (.inl (.int _))⟩
  · cases h
    refine ⟨_, mt_startswith, fun G L m ρ σ H Q v vs E rv rs q hK => ?_⟩
    obtain ⟨w, ew, r1⟩ := one rs
    exact ⟨⟨_, rv.str.1⟩, _, _, rv.str.1, by rw [ew, r1.str.1], q H L (Stp.refl _ _) E.sok _ (.inl (.bl _))⟩
  · split at h
    · rename_i hz
      cases h
      refine ⟨_, mt_split, fun G L m ρ σ H Q v vs E rv rs q hK => ?_⟩
      obtain ⟨w, ew, r1⟩ := one rs
      exact ⟨⟨_, rv.str.1⟩, _, _, rv.str.1, by rw [ew, r1.str.1], hz.1, by rw [S_len]; exact hz.2.1, fun p n => Pst.lst E q (reps_strs _ hz.2.2.2) (by rw [List.length_map]; exact hz.2.2.1) n⟩
    · cases h
  · split at h
    · rename_i hz
      refine ⟨_, mt_zfill, fun G L m ρ σ H Q v vs E rv rs q hK => ?_⟩
      obtain ⟨w, ew, r1⟩ := one rs
      exact ⟨⟨_, rv.str.1⟩, _, _, rv.str.1, by rw [ew, r1.int], hz, strD_of h E q⟩
    · cases h
  · split at h
    · rename_i hz
      cases h
      refine ⟨_, mt_upper, fun G L m ρ σ H Q v vs E rv rs q hK => ?_⟩
      cases rs
      refine ⟨⟨_, rv.str.1⟩, _, rv.str.1, rfl, by rw [S_len]; exact hz.2, ?_⟩
      rw [upper_S hz.1]
      exact q H L (Stp.refl _ _) E.sok _ (.inl (.str _ (by rw [List.length_map]; exact Nat.le_trans hz.2 (by decide))))
    · cases h
  · cases h
def notCall0 : Expr → Bool
  | .Call (.Name _ _) [] [] _ => false
  | _ => true
theorem base_of {o : Expr} {name : Str} {env : Env} {t : Sem Value} (h : notCall0 o = true) : attributeBase o name env t = t := by
  unfold attributeBase
  unfold notCall0 at h
  split
  · cases h
  · rfl
theorem s_mth0 {o : MT} {x : Expr} {apos cpos : Pos} (hT : mtTxt o = true) (hK : c.K = X.K) (ho : PE X x (TEr c W ba ea)) (hb : notCall0 x = true) (hline : (apos.endLine == cpos.line) = true) :
    PE X (.Call (.Attribute x (mtName o) apos) [] [] cpos) (TEr c W false (.mth o ea .nil)) := by
  refine ⟨fun pins s σ H Q I h => ?_⟩
  have run : ∀ {r : V → List V → Hp → VK → Prop}, MtR X (mtId o) r → PE X (.Call (.Attribute x (mtName o) apos) [] [] cpos) (tBM0 X.K "str" r (TEr c W ba ea)) := fun hm =>
    pe_bm0 PySem.F.plainAttrs_str (mt_slot o hT) (mt_ty o hT) hm ho (base_of hb) hline
  obtain ⟨G, L, m, ρ, E, h⟩ := h
  rw [evE] at h
  have isS : ∀ {d : D}, mtOn o d = true → ∃ a, d = .str a := fun {d} h => by
    cases d with
    | str a => exact ⟨a, rfl⟩
    | _ => cases h
  by_cases hz : ∃ d m1 z, evE c.cfg ea ρ m = .ok d m1 ∧ mtD o d [] = some z
  · obtain ⟨d, m1, z, e1, e3⟩ := hz
    obtain ⟨r, hr, k⟩ := mt_rule (X := X) (c := c) (W := W) (ba := ba) (bb := false) o d [] z e3
    refine (run hr).run pins s σ H Q I ?_
    refine TEr.bind E h fun d' m1' v H1 L1 q1 s1 E1 r1 h1 => ?_
    rw [e1] at q1
    cases q1
    by_cases hd : mtOn o d = true
    · rw [if_pos hd] at h1
      obtain ⟨a, rfl⟩ := isS hd
      refine ⟨by rw [r1.str.1]; rfl, ?_⟩
      rw [evEs, Res.bind_ok, e3] at h1
      exact (k G L1 _ ρ σ H1 Q v [] E1 r1 .nil h1 hK).2
    · rw [if_neg hd] at h1
      exact (show False from h1).elim
  · refine (run mtNo).run pins s σ H Q I ?_
    refine TEr.bind E h fun d' m1' v H1 L1 q1 s1 E1 r1 h1 => ?_
    by_cases hd : mtOn o d' = true
    · rw [if_pos hd] at h1
      obtain ⟨a, rfl⟩ := isS hd
      refine ⟨by rw [r1.str.1]; rfl, ?_⟩
      rw [evEs, Res.bind_ok] at h1
      cases e3 : mtD o (.str a) [] with
      | none => rw [e3] at h1; exact h1
      | some z => exact hz ⟨_, _, _, q1, e3⟩
    · rw [if_neg hd] at h1
      exact (show False from h1).elim
theorem s_mth {l : Es} {o : MT} {x e : Expr} {es : List Expr} {apos cpos : Pos} (hT : mtTxt o = true) (hK : c.K = X.K) (ho : PE X x (TEr c W ba ea)) (ha : PA X (e :: es) (TAr c W bb l)) (hn : (e :: es).all notStar = true) (hz : es.length ≤ 3) (hb : notCall0 x = true) (hline : (apos.endLine == cpos.line) = true) :
    PE X (.Call (.Attribute x (mtName o) apos) (e :: es) [] cpos) (TEr c W false (.mth o ea l)) := by
  have hn1 : notStar e = true := by
    rw [List.all_cons, Bool.and_eq_true] at hn
    exact hn.1
  have hn2 : es.all notStar = true := by
    rw [List.all_cons, Bool.and_eq_true] at hn
    exact hn.2
  refine ⟨fun pins s σ H Q I h => ?_⟩
  have run : ∀ {r : V → List V → Hp → VK → Prop}, MtR X (mtId o) r → PE X (.Call (.Attribute x (mtName o) apos) (e :: es) [] cpos) (tBM X.K "str" r (TEr c W ba ea) (TAr c W bb l)) := fun hm => by
    refine pe_bm PySem.F.plainAttrs_str (mt_slot o hT) (mt_ty o hT) hm ho ha (base_of hb) ?_ hline (star_of hn1) (by rw [back_any]; exact star_any hn2)
    have h1 : (backTo cpos (starEach (e :: es) X.env)).all (fun x => !x.1) = true := by
      have := back_any cpos (starEach (e :: es) X.env)
      rw [star_any hn] at this
      rw [List.all_eq_not_any_not]
      simp only [Bool.not_not]
      rw [this]
      rfl
    rw [h1]
    have h2 : (backToKw cpos (keywordEach [] X.env)).all (fun x => x.1.isSome) = true := rfl
    rw [h2]
    simp only [Bool.and_true, Bool.true_and, decide_eq_true_eq, List.length_cons, List.length_nil, List.isEmpty_nil, if_true]
    omega
  obtain ⟨G, L, m, ρ, E, h⟩ := h
  rw [evE] at h
  have isS : ∀ {d : D}, mtOn o d = true → ∃ a, d = .str a := fun {d} h => by
    cases d with
    | str a => exact ⟨a, rfl⟩
    | _ => cases h
  by_cases hz : ∃ d m1 ds m2 z, evE c.cfg ea ρ m = .ok d m1 ∧ evEs c.cfg l ρ m1 = .ok ds m2 ∧ mtD o d ds = some z
  · obtain ⟨d, m1, ds, m2, z, e1, e2, e3⟩ := hz
    obtain ⟨r, hr, k⟩ := mt_rule (X := X) (c := c) (W := W) (ba := ba) (bb := bb) o d ds z e3
    refine (run hr).run pins s σ H Q I ?_
    refine TEr.bind E h fun d' m1' v H1 L1 q1 s1 E1 r1 h1 => ?_
    rw [e1] at q1
    cases q1
    by_cases hd : mtOn o d = true
    · rw [if_pos hd] at h1
      obtain ⟨a, rfl⟩ := isS hd
      refine ⟨by rw [r1.str.1]; rfl, ?_⟩
      refine TAr.bind E1 h1 fun ds' m2' vs H2 L2 q2 s2 E2 r2 h2 => ?_
      rw [e2] at q2
      cases q2
      rw [e3] at h2
      exact (k G L2 _ ρ σ H2 Q v vs E2 (r1.step E1 s2) r2 h2 hK).2
    · rw [if_neg hd] at h1
      exact (show False from h1).elim
  · refine (run mtNo).run pins s σ H Q I ?_
    refine TEr.bind E h fun d' m1' v H1 L1 q1 s1 E1 r1 h1 => ?_
    by_cases hd : mtOn o d' = true
    · rw [if_pos hd] at h1
      obtain ⟨a, rfl⟩ := isS hd
      refine ⟨by rw [r1.str.1]; rfl, ?_⟩
      refine TAr.bind E1 h1 fun ds m2 vs H2 L2 q2 s2 E2 r2 h2 => ?_
      cases e3 : mtD o (.str a) ds with
      | none => rw [e3] at h2; exact h2
      | some z => exact hz ⟨_, _, _, _, _, q1, q2, e3⟩
    · rw [if_neg hd] at h1
      exact (show False from h1).elim
end
end MP
set_option maxRecDepth 100000
set_option maxHeartbeats 4000000
set_option autoImplicit false
namespace MP
open PySem L2
def oT : OpN → String
  | .get | .pop | .clear | .upd | .sdef => "dict"
  | _ => "list"
def oN : OpN → Str
  | .get => "get" | .pop => "pop" | .lpop => "pop" | .lindex => "index" | .app => "append" | .ext => "extend" | .rev => "reverse" | .count => "count" | .clear => "clear" | .upd => "update" | .sdef => "setdefault" | .fld _ => ""
def oI : OpN → String
  | .get => "dict.get" | .pop => "dict.pop" | .lpop => "list.pop" | .lindex => "list.index" | .app => "list.append" | .ext => "list.extend" | .rev => "list.reverse" | .count => "list.count" | .clear => "dict.clear" | .upd => "dict.update" | .sdef => "dict.setdefault" | .fld _ => ""
def oOk : OpN → Bool
  | .get | .pop | .lpop | .lindex | .app | .rev | .clear | .upd => true
  | _ => false
theorem oS (o : OpN) (h : oOk o = true) : Slot (oT o) (oN o) (oI o) := by
  cases o <;> first | exact PySem.F.slot_dict_get | exact PySem.F.slot_dict_pop | exact PySem.F.slot_list_pop | exact PySem.F.slot_list_index | exact PySem.F.slot_list_append | exact PySem.F.slot_list_reverse | exact PySem.F.slot_dict_clear | exact PySem.F.slot_dict_update | cases h
theorem oTy (o : OpN) (h : oOk o = true) : typeOf (.builtin (oI o)) = pure (.type "method_descriptor") := by
  cases o <;> first | exact PySem.F.type_dict_get | exact PySem.F.type_dict_pop | exact PySem.F.type_list_pop | exact PySem.F.type_list_index | exact PySem.F.type_list_append | exact PySem.F.type_list_reverse | exact PySem.F.type_dict_clear | exact PySem.F.type_dict_update | cases h
theorem oPl (o : OpN) : PlainAttrs (oT o) := by cases o <;> first | exact PySem.F.plainAttrs_dict | exact PySem.F.plainAttrs_list
section
variable {X : Cx}
theorem mt_dget (hu : X.A.units + 1 < cLine) : MtR X "dict.get" (fun x xs H Q => ∃ a kvs k, x = .ref a ∧ H a = some (.dK kvs) ∧ ((xs = [kV k] ∧ Q ((valV kvs k).getD .non) H) ∨ ∃ d, xs = [kV k, d] ∧ Q ((valV kvs k).getD d) H)) := by
  intro pins s σ H x xs v us Q I rx rxs h
  obtain ⟨a, kvs, k, rfl, e, h⟩ := h
  cases rx
  rcases h with ⟨rfl, q⟩ | ⟨d, rfl, q⟩
  · obtain ⟨u, rfl, ru⟩ := rxs.one
    exact d_get1 hu I (DGet.k e) ru fun w' s' I' r => ⟨_, H, I', r, q⟩
  · cases rxs with
    | cons r1 rs => cases rs with
      | cons r2 rs =>
        cases rs
        exact d_get2 hu I (DGet.k e) r1 r2 fun w' s' I' r => ⟨_, H, I', r, q⟩
theorem mt_dpop : MtR X "dict.pop" (fun x xs H Q => ∃ a kvs k, x = .ref a ∧ H a = some (.dK kvs) ∧ ((xs = [kV k] ∧ ∃ v, valV kvs k = some v ∧ Q v (upd H a (.dK (dropK kvs k)))) ∨
    ∃ d, xs = [kV k, d] ∧ (∀ v, valV kvs k = some v → Q v (upd H a (.dK (dropK kvs k)))) ∧ (valV kvs k = none → Q d H))) := by
  intro pins s σ H x xs v us Q I rx rxs h
  obtain ⟨a, kvs, k, rfl, e, h⟩ := h
  cases rx
  rcases h with ⟨rfl, v, hv, q⟩ | ⟨d, rfl, q1, q2⟩
  · obtain ⟨u, rfl, ru⟩ := rxs.one
    exact d_pop I e ru hv (.inl rfl) fun w' s' I' r => ⟨_, _, I', r, q⟩
  · cases rxs with
    | cons r1 rs => cases rs with
      | cons r2 rs =>
        cases rs
        cases hv : valV kvs k with
        | some v => exact d_pop I e r1 hv (.inr ⟨_, rfl⟩) fun w' s' I' r => ⟨_, _, I', r, q1 v hv⟩
        | none => exact d_popD I e r1 hv fun s' I' => ⟨_, H, I', r2, q2 hv⟩
theorem mt_dclear : MtR X "dict.clear" (fun x xs H Q => ∃ a kvs, x = .ref a ∧ xs = [] ∧ H a = some (.dK kvs) ∧ Q .non (upd H a (.dK []))) := by
  intro pins s σ H x xs v us Q I rx rxs h
  obtain ⟨a, kvs, rfl, rfl, e, q⟩ := h
  cases rx
  have := rxs.zero
  subst this
  exact d_clear I e fun s' I' => ⟨.non, _, I', rfl, q⟩
theorem d_update {pins : List (Addr × Obj)} {σ : L2.St} {H : Hp} {s : Shared} {a b : Addr} {kvs more : List (Key × V)} {A : Around} {E : Value → Shared → Prop} {Q : Value → Shared → Prop} (I : Inv X pins σ H s) (e : H a = some (.dK kvs)) (e2 : Rd H b (.dK more)) (ne : a ≠ b) (hz : kvs.length + more.length ≤ sizeLine)
    (h : ∀ s', Inv X pins σ (upd H a (.dK (mergeK kvs more))) s' → Q .none s') : wpAny (model X.prog X.w) A (call (.builtin "dict.update") [.ref a, .ref b]) Q E s := by
  obtain ⟨z, hd, vs, rel, dd⟩ := dk_of I.hok e
  obtain ⟨z2, hd2, ws, rel2, dd2⟩ := dk_rd I.hok e2
  refine call_meetsIn PySem.F.slot_dict_update dd.typeIs PySem.F.entry_dict_update (PySem.F.args_dict_update_2 _ _) (meets_dict_update (mixKind X.prog X.w) a b ne hd2) ⟨vs, ws, dd, dd2, by rw [← rel.length, ← rel2.length]; exact hz, fun h' dd' dd2' hs => h _ ?_⟩
  have he : ∃ q, h'.get? a = some q := let ⟨q, _, _, hq, _⟩ := dd'; ⟨q, hq⟩
  have hl : (mergeK kvs more).length ≤ sizeLine := Nat.le_trans (length_mergeK _ _) hz
  exact d_write (t' := s.toks) I (by rw [e]; exact True.intro) hs he (dk_new hl hd (KV.merge rel2 rel) dd')
theorem mt_dupd : MtR X "dict.update" (fun x xs H Q => ∃ a b kvs more, x = .ref a ∧ xs = [.ref b] ∧ a ≠ b ∧ H a = some (.dK kvs) ∧ Rd H b (.dK more) ∧ kvs.length + more.length ≤ sizeLine ∧ Q .non (upd H a (.dK (mergeK kvs more)))) := by
  intro pins s σ H x xs v us Q I rx rxs h
  obtain ⟨a, b, kvs, more, rfl, rfl, ne, e, e2, z, q⟩ := h
  cases rx
  obtain ⟨u, rfl, ru⟩ := rxs.one
  cases ru
  exact d_update I e e2 ne z fun s' I' => ⟨.non, _, I', rfl, q⟩
theorem Repk.merge {K : PySem.W.Frag} {A : Nat → Option Addr} {H : Hp} : ∀ {more : List (Key × V)} {es : List (D × D)} {kvs : List (Key × V)} {ds : List (D × D)}, Repk K A H more es → Repk K A H kvs ds → Repk K A H (mergeK kvs more) (mrgKD ds es)
  | [], [], _, _, _, r => r
  | (q, v) :: more, (_, d) :: es, kvs, ds, .cons z h m, r => by
    have e : mrgKD ds ((keyD q, d) :: es) = mrgKD (putKD q d ds) es := by
      rw [mrgKD, keyOf_D]
    rw [e]
    exact Repk.merge (kvs := putK kvs q v) m (r.put q z h)
theorem mt_indexP (hu : X.A.units + 65 < cLine) : MtR X "list.index" (fun x xs H Q => ∃ (a : Addr) (y : V) (d : PyData) (ds : List PyData) (j : Nat) (z : PyData), x = V.ref a ∧ xs = [y] ∧ Dp X.K H (V.ref a) (.list ds) ∧ Dp X.K H y d ∧
    PyData.plainAll ds = true ∧ d.plain = true ∧ d.depth ≤ 60 ∧ ds[j]? = some z ∧ PyData.eqv z d = true ∧ (∀ (m : Nat) (z' : PyData), m < j → ds[m]? = some z' → PyData.eqv z' d = false) ∧ Q (.int (j : Nat)) H) := by
  intro pins s σ H x xs v us Q I rx rxs h
  obtain ⟨a, y, d, ds, j, z, rfl, rfl, hl, hy, sl, sd, sz, hz, hzj, hno, q⟩ := h
  cases rx
  cases rxs with
  | cons ry rt =>
    rename_i uy ut
    cases rt
    obtain ⟨bs, r1⟩ := Dp.reads I d y uy hy ry
    have hroom : X.A.units + 1 + min (PyData.depthAll ds) d.depth < cLine := by
      have : min (PyData.depthAll ds) d.depth ≤ d.depth := Nat.min_le_right _ _
      omega
    cases hl with
    | lst hs ha =>
      obtain ⟨its, rv, ⟨⟨cls, dd, data, sls⟩, n, ho, hc, hdn, hdt⟩, hlen⟩ := I.list hs
      simp only at hc hdt
      subst hc hdt
      obtain ⟨as, h4⟩ := Dp.readsAll I ds _ its ha rv
      have hn : its.length = ds.length := SeqAt.ReadsAll.length ds its as h4
      have hmap : its.map (SeqAt.readOf s.heap) = ds := SeqAt.readsAll_map_plain ds its as sl h4
      have hvl := rv.length
      have hsl := sizeLine_eq
      obtain ⟨hjd, _⟩ := List.getElem?_eq_some_iff.mp hz
      have hjl : j < its.length := by omega
      have hj : j < its.toArray.size := by simpa using hjl
      have at_ : ∀ (m : Nat) (hm : m < its.toArray.size) (z' : PyData), ds[m]? = some z' → SeqAt.readOf s.heap its.toArray[m] = z' := by
        intro m hm z' hz'
        have hml : m < its.length := by simpa using hm
        rw [← hmap, List.getElem?_map, List.getElem?_eq_getElem hml] at hz'
        have e1 : SeqAt.readOf s.heap its[m] = z' := Option.some.inj (show some (SeqAt.readOf s.heap its[m]) = some z' from hz')
        simpa using e1
      refine call_meets PySem.F.slot_list_index ⟨_, ho, rfl⟩ PySem.F.entry_list_index (PySem.F.args_list_index_2 _ _)
        (SeqAt.list_indexAt a its.toArray n dd sls uy (fun u => PyData.eqv (SeqAt.readOf s.heap u) d) j hj (by omega) ?_ ?_) ⟨ho, SeqAt.items_plain (vs := its.toArray) (by simpa using h4) r1 sl sd hroom, ?_⟩
      · show PyData.eqv (SeqAt.readOf s.heap its.toArray[j]) d = true
        rw [at_ j hj z hz]
        exact hzj
      · intro m hm hmj
        have hmd : m < ds.length := by omega
        have hz' : ds[m]? = some ds[m] := List.getElem?_eq_getElem hmd
        show PyData.eqv (SeqAt.readOf s.heap its.toArray[m]) d = false
        rw [at_ m hm _ hz']
        exact hno m _ hmj hz'
      · exact ⟨.int (j : Nat), H, I.tok _, ⟨_, rfl⟩, q⟩
end
section
variable {X : Cx} {c : Cn} {W : WX} {ba bb : Bool} {ea eb : E} {x y : Expr} {pos : Pos}
theorem Reps.one {K : PySem.W.Frag} {A : Nat → Option Addr} {H : Hp} {vs : List V} {d : D} (r : Reps K A H vs [d]) : ∃ v, vs = [v] ∧ Rep K A H v d := by
  cases r with
  | cons r rs => cases rs; exact ⟨_, rfl, r⟩
theorem Reps.two {K : PySem.W.Frag} {A : Nat → Option Addr} {H : Hp} {vs : List V} {d e : D} (r : Reps K A H vs [d, e]) : ∃ v w, vs = [v, w] ∧ Rep K A H v d ∧ Rep K A H w e := by
  cases r with
  | cons r rs => cases rs with
    | cons r2 rs => cases rs; exact ⟨_, _, rfl, r, r2⟩
theorem rd_rule (hu : X.A.units + 65 < cLine) (o : OpN) (d : D) (ds : List D) (z : D) (h : rdD o d ds = some z) : ∃ R, MtR X (oI o) R ∧ ∀ (G : Addr → Prop) (L : Lay) (H : Hp) (Q : VK) (p : Addr) (u : HO) (vs : List V), H p = some u → CU X.K (AL L) (hide (Bd G L) H) u d →
    Reps X.K (AL L) (hide (Bd G L) H) vs ds → (∀ v, Rep X.K (AL L) (hide (Bd G L) H) v z → Q v H) → R (.ref p) vs H Q := by
  unfold rdD at h
  split at h
  · obtain ⟨q, hq, ez⟩ := Option.map_eq_some_iff.mp h
    subst ez
    refine ⟨_, mt_dget (by omega), fun G L H Q p u vs hp cu r k => ?_⟩
    cases cu with
    | dic rk z =>
      obtain ⟨v, rfl, rv⟩ := r.one
      refine ⟨p, _, q, rfl, hp, .inl ⟨by rw [(RD.key (.inl rv) hq).1], k _ ?_⟩⟩
      rcases rk.get q with ⟨h1, h2⟩ | ⟨v', d', h1, h2, h3⟩ <;> rw [h1, h2]
      · exact .non
      · exact h3
  · obtain ⟨q, hq, ez⟩ := Option.map_eq_some_iff.mp h
    subst ez
    refine ⟨_, mt_dget (by omega), fun G L H Q p u vs hp cu r k => ?_⟩
    cases cu with
    | dic rk z =>
      obtain ⟨v, w, rfl, rv, rw'⟩ := r.two
      refine ⟨p, _, q, rfl, hp, .inr ⟨w, by rw [(RD.key (.inl rv) hq).1], k _ ?_⟩⟩
      rcases rk.get q with ⟨h1, h2⟩ | ⟨v', d', h1, h2, h3⟩ <;> rw [h1, h2]
      · exact rw'
      · exact h3
  · rename_i l y
    split at h
    · rename_i hc
      obtain ⟨j, hj, ez⟩ := Option.map_eq_some_iff.mp h
      subst ez
      refine ⟨_, mt_indexP hu, fun G L H Q p u vs hp cu r k => ?_⟩
      cases cu with
      | lst rs z =>
        obtain ⟨v, rfl, rv⟩ := r.one
        obtain ⟨hjl, hje, hjn⟩ := List.findIdx?_eq_some_iff_getElem.mp hj
        refine ⟨p, v, y.toPy, D.toPys l, j, (l[j]).toPy, rfl, rfl, .lst (.inl (.inl hp)) (Rep.dp.gos hide_sub rs hc.1), Rep.dp hide_sub hc.2.1 rv, toPy_plain.gos l hc.1, toPy_plain _ hc.2.1, by rw [toPy_dep]; exact hc.2.2.2.1, ?_, hje, fun m z' hm hz => ?_, k _ (.int _)⟩
        · rw [toPys_map, List.getElem?_map, List.getElem?_eq_getElem hjl]
          rfl
        · rw [toPys_map, List.getElem?_map] at hz
          obtain ⟨w, hw, ew⟩ := Option.map_eq_some_iff.mp hz
          subst ew
          have hml : m < l.length := (List.getElem?_eq_some_iff.mp hw).1
          have := hjn m hm
          have e2 : l[m] = w := by
            have := List.getElem?_eq_getElem hml
            rw [hw] at this
            exact (Option.some.inj this).symm
          rw [e2] at this
          simpa using this
    · cases h
  · cases h
theorem wr_rule (o : OpN) (ho : oOk o = true) (d : D) (ds : List D) (z d' : D) (h : wrD o d ds = some (z, d')) : ∃ R, MtR X (oI o) R ∧ ∀ (G : Addr → Prop) (L : Lay) (H : Hp) (Q : VK) (p : Addr) (u : HO) (vs : List V), Bd G L p → H p = some u → CU X.K (AL L) (hide (Bd G L) H) u d →
    Reps X.K (AL L) (hide (Bd G L) H) vs ds → (∀ v u', Rep X.K (AL L) (hide (Bd G L) H) v z → CU X.K (AL L) (hide (Bd G L) H) u' d' → Q v (upd H p u')) → R (.ref p) vs H Q := by
  have same : ∀ {H : Hp} {p : Addr} {u : HO}, H p = some u → upd H p u = H := fun {H p u} hp => by
    funext b
    by_cases e : b = p
    · rw [e, upd_same, hp]
    · rw [upd_ne e]
  unfold wrD at h
  split at h
  · obtain ⟨q, hq, h⟩ := Option.bind_eq_some_iff.mp h
    obtain ⟨v0, hv, e⟩ := Option.map_eq_some_iff.mp h
    cases e
    refine ⟨_, mt_dpop, fun G L H Q p u vs hbd hp cu r k => ?_⟩
    cases cu with
    | dic rk z =>
      obtain ⟨v, rfl, rv⟩ := r.one
      rcases rk.get q with ⟨h1, h2⟩ | ⟨v', d', h1, h2, h3⟩
      · rw [hv] at h2; cases h2
      · rw [hv] at h2
        cases h2
        exact ⟨p, _, q, rfl, hp, .inl ⟨by rw [(RD.key (.inl rv) hq).1], v', h1, k _ _ h3 (.dic (rk.drop q) (Nat.le_trans (dropKD_len _ _) z))⟩⟩
  · obtain ⟨q, hq, e⟩ := Option.map_eq_some_iff.mp h
    refine ⟨_, mt_dpop, fun G L H Q p u vs hbd hp cu r k => ?_⟩
    cases cu with
    | dic rk zz =>
      obtain ⟨v, w, rfl, rv, rw'⟩ := r.two
      rcases rk.get q with ⟨h1, h2⟩ | ⟨v', d', h1, h2, h3⟩
      · rw [h2] at e
        cases e
        refine ⟨p, _, q, rfl, hp, .inr ⟨w, by rw [(RD.key (.inl rv) hq).1], (fun v hv => by rw [h1] at hv; cases hv), fun _ => ?_⟩⟩
        have := k w _ rw' (.dic rk zz)
        rw [same hp] at this
        exact this
      · rw [h2] at e
        cases e
        refine ⟨p, _, q, rfl, hp, .inr ⟨w, by rw [(RD.key (.inl rv) hq).1], fun v hv => ?_, fun hv => by rw [h1] at hv; cases hv⟩⟩
        rw [h1] at hv
        cases hv
        exact k _ _ h3 (.dic (rk.drop q) (Nat.le_trans (dropKD_len _ _) zz))
  · rename_i l
    obtain ⟨v0, hv, e⟩ := Option.map_eq_some_iff.mp h
    cases e
    refine ⟨_, mt_pop, fun G L H Q p u vs hbd hp cu r k => ?_⟩
    cases cu with
    | lst rs z =>
      cases r
      rename_i ws
      obtain ⟨v, h1, h2⟩ := rs.get hv
      refine ⟨p, ws, v, rfl, rfl, hp, by rw [rs.length]; exact h1, k _ _ h2 (.lst ?_ ?_)⟩
      · rw [List.dropLast_eq_take, List.dropLast_eq_take, rs.length]
        exact rs.take _
      · rw [List.length_dropLast]; omega
  · split at h
    · rename_i hz
      cases h
      refine ⟨_, mt_append, fun G L H Q p u vs hbd hp cu r k => ?_⟩
      cases cu with
      | lst rs z =>
        obtain ⟨v, rfl, rv⟩ := r.one
        exact ⟨p, _, v, rfl, rfl, hp, by rw [rs.length]; exact hz, k _ _ .non (.lst (rs.append (.cons rv .nil)) (by rw [List.length_append]; exact hz))⟩
    · cases h
  · cases ho
  · cases h
    refine ⟨_, mt_reverse, fun G L H Q p u vs hbd hp cu r k => ?_⟩
    cases cu with
    | lst rs z =>
      cases r
      exact ⟨p, _, rfl, rfl, hp, k _ _ .non (.lst rs.rev (by rw [List.length_reverse]; exact z))⟩
  · cases h
    refine ⟨_, mt_dclear, fun G L H Q p u vs hbd hp cu r k => ?_⟩
    cases cu with
    | dic rk z =>
      cases r
      exact ⟨p, _, rfl, rfl, hp, k _ _ .non (.dic .nil (Nat.zero_le _))⟩
  · split at h
    · rename_i hz
      cases h
      refine ⟨_, mt_dupd, fun G L H Q p u vs hbd hp cu r k => ?_⟩
      cases cu with
      | dic rk z =>
        obtain ⟨v, rfl, rv⟩ := r.one
        cases rv with
        | dic hr r2 z2 =>
          rename_i b kvs2
          have ne : p ≠ b := fun e => by
            subst e
            rcases hr with hr | ⟨o, hr⟩
            · exact (hide_some hr).1 hbd
            · exact (hide_some hr).1 hbd
          have hr' : Rd H b (.dK kvs2) := Same.rd hide_sub hr
          have z3 := Repk.merge r2 rk
          refine ⟨p, b, _, _, rfl, rfl, ne, hp, hr', by rw [rk.length, r2.length]; exact hz, k _ _ .non (.dic z3 ?_)⟩
          rw [← z3.length]
          refine Nat.le_trans (length_mergeK _ _) ?_
          rw [rk.length, r2.length]
          exact hz
    · cases h
  · cases h
end
end MP
set_option maxRecDepth 100000
set_option maxHeartbeats 4000000
set_option autoImplicit false
namespace MP
open PySem L2
theorem fN_get {f : Nat} (h : f < fNames.length) : fNames[f]? = some (fName f) := by
  unfold fName
  rw [List.getD_eq_getElem?_getD, List.getElem?_eq_getElem h]
  rfl
theorem fName_inj {f g : Nat} (hf : f < fNames.length) (hg : g < fNames.length) (e : fName f = fName g) : f = g := by
  have h1 := fN_get hf
  have h2 := fN_get hg
  rw [← e, ← h1] at h2
  exact (nodup_inj ff_nd hf hg (by
    have := h2
    rw [List.getElem?_eq_getElem hg, List.getElem?_eq_getElem hf] at this
    exact (Option.some.inj this).symm))
theorem fm_ne' {f k : Nat} (hf : f < fNames.length) : ¬ fName f = mName k := fun e => by
  have h1 : fName f ∈ fNames := List.mem_of_getElem? (fN_get hf)
  have h2 : mName k ∈ mNames := by
    unfold mName
    rw [List.getD_eq_getElem?_getD]
    cases q : mNames[k]? with
    | none => exact List.mem_of_getElem? (i := 0) (by rfl)
    | some x => exact List.mem_of_getElem? q
  have := List.all_eq_true.mp (List.all_eq_true.mp fm_ne _ h1) _ h2
  simp [e] at this
section
variable {K : PySem.W.Frag} {A : Nat → Option Addr} {H : Hp}
theorem RepF.get {f : Nat} {d : D} : ∀ {vs : List (Str × V)} {fs : List (Nat × D)}, RepF K A H vs fs → getN f fs = some d → ∃ v, vs.lookup (fName f) = some v ∧ Rep K A H v d
  | _, _, .nil, h => by cases h
  | _, _, .cons (f := g) (v := w) hg r t, h => by
    rw [getN] at h
    by_cases e : g = f
    · rw [if_pos e] at h
      cases h
      subst e
      exact ⟨w, by rw [List.lookup, beq_self_eq_true], r⟩
    · rw [if_neg e] at h
      obtain ⟨v, h1, h2⟩ := RepF.get t h
      refine ⟨v, ?_, h2⟩
      have hf : f < fNames.length := mem t h
      rw [List.lookup, show (fName f == fName g) = false from by
        rw [beq_eq_false_iff_ne]
        exact fun q => e (fName_inj hg hf q.symm)]
      exact h1
where
  mem : ∀ {vs : List (Str × V)} {fs : List (Nat × D)}, RepF K A H vs fs → getN f fs = some d → f < fNames.length
  | _, _, .nil, h => by cases h
  | _, _, .cons (f := g) hg r t, h => by
    rw [getN] at h
    by_cases e : g = f
    · rw [← e]; exact hg
    · rw [if_neg e] at h
      exact mem t h
theorem RepF.meth (k : Nat) : ∀ {vs : List (Str × V)} {fs : List (Nat × D)}, RepF K A H vs fs → vs.lookup (mName k) = none
  | _, _, .nil => rfl
  | _, _, .cons (f := g) hg r t => by
    rw [List.lookup, show (mName k == fName g) = false from by
      rw [beq_eq_false_iff_ne]
      exact fun q => fm_ne' hg q.symm]
    exact RepF.meth k t
theorem RepF.length : ∀ {vs : List (Str × V)} {fs : List (Nat × D)}, RepF K A H vs fs → vs.length = fs.length
  | _, _, .nil => rfl
  | _, _, .cons _ _ t => congrArg (· + 1) (RepF.length t)
theorem RepF.put {f : Nat} {v : V} {d : D} (hf : f < fNames.length) (r : Rep K A H v d) : ∀ {vs : List (Str × V)} {fs : List (Nat × D)}, RepF K A H vs fs → RepF K A H (putF (fName f) v vs) (putN f d fs)
  | _, _, .nil => .cons hf r .nil
  | _, _, .cons (f := g) (v := w) (vs := vs) hg r' t => by
    show RepF K A H (if fName g = fName f then (fName g, v) :: vs else (fName g, w) :: putF (fName f) v vs) _
    rw [putN]
    by_cases e : g = f
    · subst e
      rw [if_pos rfl, if_pos rfl]
      exact .cons hg r t
    · rw [if_neg (fun q => e (fName_inj hg hf q)), if_neg e]
      exact .cons hg r' (RepF.put hf r t)
end
theorem getN_mem {f : Nat} {d : D} {c : Nat} : ∀ {fs : List (Nat × D)}, (fs.all fun p => (clsF c).contains p.1) = true → getN f fs = some d → (clsF c).contains f = true
  | [], _, h => by cases h
  | (g, e) :: r, ha, h => by
    rw [List.all_cons, Bool.and_eq_true] at ha
    rw [getN] at h
    by_cases q : g = f
    · rw [← q]; exact ha.1
    · rw [if_neg q] at h
      exact getN_mem ha.2 h
theorem putN_mem {f : Nat} {d : D} {c : Nat} (hf : (clsF c).contains f = true) : ∀ {fs : List (Nat × D)}, (fs.all fun p => (clsF c).contains p.1) = true → ((putN f d fs).all fun p => (clsF c).contains p.1) = true
  | [], _ => by rw [putN, List.all_cons, hf]; rfl
  | (g, e) :: r, ha => by
    rw [List.all_cons, Bool.and_eq_true] at ha
    rw [putN]
    by_cases q : g = f
    · rw [if_pos q, List.all_cons, ha.1, ha.2]; rfl
    · rw [if_neg q, List.all_cons, ha.1, putN_mem hf ha.2]; rfl
def ObF (K : PySem.W.Frag) : Prop := ∀ k C, ClsA K k C → Cls K C ∧ ∀ f, (clsF k).contains f = true → NoAttr K C (fName f)
section
variable {X : Cx} {c : Cn} {W : WX} {ba bb : Bool} {ea eb : E} {x y : Expr} {pos : Pos}
theorem SOk.ins {K : PySem.W.Frag} {G : Addr → Prop} {L : Lay} {m : Mu} {H : Hp} {n k : Nat} {fs : List (Nat × D)} (h : SOk K G L m H) (e : m[n]? = some (.ins k fs)) : ∃ p C dx vs, L[n]? = some p ∧ ClsA K k C ∧ H p = some (.ins C dx vs) ∧ RepF K (AL L) (hide (Bd G L) H) vs fs ∧ (fs.all fun p => (clsF k).contains p.1) = true := by
  obtain ⟨p, hL, q⟩ := h.at e
  cases q with
  | ins q1 q2 q3 q4 => exact ⟨p, _, _, _, hL, q1, q2, q3, q4⟩
theorem SOk.box {K : PySem.W.Frag} {G : Addr → Prop} {L : Lay} {m : Mu} {H : Hp} {n : Nat} {d : D} (h : SOk K G L m H) (e : m[n]? = some (.box false d)) : ∃ p u, L[n]? = some p ∧ H p = some u ∧ CU K (AL L) (hide (Bd G L) H) u d ∧ (∀ x y, u ≠ .frz x y) := by
  obtain ⟨p, hL, q⟩ := h.at e
  cases q with
  | box q1 q2 => exact ⟨p, _, hL, q1, q2, fun x y e => by subst e; cases q2⟩
theorem RB.obj {K : PySem.W.Frag} {b : Bool} {G : Addr → Prop} {L : Lay} {H : Hp} {v : V} {n : Nat} (r : RB K b G L H v (.obj n)) : ∃ p, v = .ref p ∧ L[n]? = some p := r.rd.obj
theorem s_fld {f : Nat} (hob : ObF X.K) (hK : c.K = X.K) (ha : PE X x (TEr c W ba ea)) (hb : attributeBase x (fName f) X.env (eval x X.env) = eval x X.env) : PE X (.Attribute x (fName f) pos) (TEr c W false (.mop (.fld f) ea .nil)) := by
  refine pe_imp (pe_fld ha hb) fun σ H Q h => ?_
  obtain ⟨G, L, m, ρ, E, h⟩ := h
  rw [evE] at h
  refine TEr.bind E h fun d m1 v H1 L1 q1 s1 E1 r1 h1 => ?_
  have h2 : Pst c W false G L1 σ H1 Q (opD (.fld f) d [] m1) := by
    have h1' : Pst c W false G L1 σ H1 Q ((evEs c.cfg .nil ρ m1).bind fun ds m2 => opD (.fld f) d ds m2) := h1
    rw [evEs] at h1'
    exact h1'
  rw [opD_fld] at h2
  cases d with
  | obj n =>
    dsimp only at h2
    cases q : m1[n]? with
    | none => rw [q] at h2; exact (show False from h2).elim
    | some i =>
      cases i with
      | box lk d => rw [q] at h2; exact (show False from h2).elim
      | tab => rw [q] at h2; exact (show False from h2).elim
      | ins k fs =>
        rw [q] at h2
        dsimp only at h2
        cases g : getN f fs with
        | none => rw [g] at h2; exact (show False from h2).elim
        | some z =>
          rw [g] at h2
          obtain ⟨p, C, dx, vs, hL, hC, hp, rf, al⟩ := E1.sok.ins q
          obtain ⟨p', ev, hL'⟩ := r1.obj
          rw [hL] at hL'
          cases hL'
          obtain ⟨w, hw, rw'⟩ := rf.get g
          obtain ⟨c1, c2⟩ := hob k C (hK ▸ hC)
          exact ⟨p, C, dx, vs, w, ev, hp, c1, c2 f (getN_mem al g), hw, Pst.val E1 h2 (.inl rw')⟩
  | _ => exact (show False from h2).elim
theorem opD_m {o : OpN} (ho : oOk o = true) {x : D} {ds : List D} {m : Mu} : opD o x ds m = (match lkD x m with
    | some (n, d) => if isRd o = true then .opt (rdD o d ds) m else (match wrD o d ds with
      | some (r, d') => .ok r (m.set n (.box false d'))
      | none => .stuck)
    | none => .stuck) := by
  cases o <;> first | rfl | cases ho
theorem okR_m {o : OpN} (ho : oOk o = true) {x : D} {m : Mu} (h : okR o x m = true) : ∃ n d, lkD x m = some (n, d) ∧ ((oT o = "dict" ∧ ∃ l, d = .dic l) ∨ (oT o = "list" ∧ ∃ l, d = .lst l)) := by
  cases q : lkD x m with
  | none => cases o <;> first | (simp [okR, q] at h; done) | cases ho
  | some nd =>
    obtain ⟨n, d⟩ := nd
    refine ⟨n, d, rfl, ?_⟩
    cases d <;> cases o <;> first | (cases ho; done) | (simp [okR, q] at h; done) | exact .inl ⟨rfl, _, rfl⟩ | exact .inr ⟨rfl, _, rfl⟩
def doneO (o : OpN) (d : D) (ds : List D) : Bool := if isRd o = true then (rdD o d ds).isSome else (wrD o d ds).isSome
theorem mop_rule (hu : X.A.units + 65 < cLine) (hK : c.K = X.K) {o : OpN} (ho : oOk o = true) {d : D} {ds : List D} (hd : doneO o d ds = true) : ∃ R, MtR X (oI o) R ∧ ∀ (G : Addr → Prop) (L : Lay) (m : Mu) (ρ : Env') (σ : L2.St) (H : Hp) (Q : VK) (n : Nat) (p : Addr) (vs : List V),
    ESt c.K c.own G L m ρ σ H → lkD (.obj n) m = some (n, d) → L[n]? = some p → Reps c.K (AL L) (hide (Bd G L) H) vs ds → Pst c W false G L σ H Q (opD o (.obj n) ds m) → R (.ref p) vs H Q := by
  unfold doneO at hd
  by_cases hr : isRd o = true
  · rw [if_pos hr] at hd
    obtain ⟨z, hz⟩ := Option.isSome_iff_exists.mp hd
    obtain ⟨R, h1, h2⟩ := rd_rule (X := X) hu o d ds z hz
    refine ⟨R, h1, fun G L m ρ σ H Q n p vs E e hL r q => ?_⟩
    rw [opD_m ho, e] at q
    dsimp only at q
    rw [if_pos hr, hz] at q
    obtain ⟨p', u, hL', hp, cu, nf⟩ := E.sok.box (lkD_some e).2
    rw [hL] at hL'
    cases hL'
    exact h2 G L H Q p u vs hp (hK ▸ cu) (hK ▸ r) fun v rv => Pst.val E q (.inl (hK ▸ rv))
  · rw [if_neg hr] at hd
    obtain ⟨⟨z, d'⟩, hz⟩ := Option.isSome_iff_exists.mp hd
    obtain ⟨R, h1, h2⟩ := wr_rule (X := X) o ho d ds z d' hz
    refine ⟨R, h1, fun G L m ρ σ H Q n p vs E e hL r q => ?_⟩
    rw [opD_m ho, e] at q
    dsimp only at q
    rw [if_neg hr, hz] at q
    obtain ⟨p', u, hL', hp, cu, nf⟩ := E.sok.box (lkD_some e).2
    rw [hL] at hL'
    cases hL'
    refine h2 G L H Q p u vs (.inr (List.mem_of_getElem? hL)) hp (hK ▸ cu) (hK ▸ r) fun v u' rv cu' => ?_
    obtain ⟨ok, st⟩ := E.sok.set hL hp nf (.box upd_same (hK ▸ cu'))
    exact q _ L st ok v (.inl ((show Rep c.K _ _ v z from hK ▸ rv).mono st.hid st.al))
theorem mop_ty {o : OpN} (hK : c.K = X.K) (ho : oOk o = true) {G : Addr → Prop} {L : Lay} {m : Mu} {H : Hp} {v : V} {d : D} {b : Bool} (s : SOk c.K G L m H) (r : RB c.K b G L H v d) (h : okR o d m = true) : ∃ n p, d = .obj n ∧ v = .ref p ∧ L[n]? = some p ∧ tyV X.K (oT o) (.ref p) H := by
  obtain ⟨n, e, h1, h2⟩ := okR_m ho h
  obtain ⟨rfl, h3⟩ := lkD_some h1
  obtain ⟨p, u, hL, hp, cu, nf⟩ := s.box h3
  obtain ⟨p', ev, hL'⟩ := r.obj
  rw [hL] at hL'
  cases hL'
  refine ⟨n, p, rfl, ev, hL, ?_⟩
  rcases h2 with ⟨h4, l, rfl⟩ | ⟨h4, l, rfl⟩
  · cases cu with
    | dic rk z => exact .inr (.inr (.inl ⟨h4, .inl ⟨_, hp⟩⟩))
  · cases cu with
    | lst rs z => exact .inl ⟨h4, _, .inl (.inl hp)⟩
theorem lkD_n {n k : Nat} {m : Mu} {d : D} (h : lkD (.obj n) m = some (k, d)) : k = n := by
  obtain ⟨e, _⟩ := lkD_some h
  cases e
  rfl
theorem s_mop {l : Es} {o : OpN} {e : Expr} {es : List Expr} {apos cpos : Pos} (hu : X.A.units + 65 < cLine) (hoo : oOk o = true) (hK : c.K = X.K) (ho : PE X x (TEr c W ba ea)) (ha : PA X (e :: es) (TAr c W false l)) (hn : (e :: es).all notStar = true) (hz : es.length ≤ 3) (hb : notCall0 x = true) (hline : (apos.endLine == cpos.line) = true) :
    PE X (.Call (.Attribute x (oN o) apos) (e :: es) [] cpos) (TEr c W false (.mop o ea l)) := by
  have hn1 : notStar e = true := by
    rw [List.all_cons, Bool.and_eq_true] at hn
    exact hn.1
  have hn2 : es.all notStar = true := by
    rw [List.all_cons, Bool.and_eq_true] at hn
    exact hn.2
  refine ⟨fun pins s σ H Q I h => ?_⟩
  have run : ∀ {r : V → List V → Hp → VK → Prop}, MtR X (oI o) r → PE X (.Call (.Attribute x (oN o) apos) (e :: es) [] cpos) (tBM X.K (oT o) r (TEr c W ba ea) (TAr c W false l)) := fun hm => by
    refine pe_bm (oPl o) (oS o hoo) (oTy o hoo) hm ho ha (base_of hb) ?_ hline (star_of hn1) (by rw [back_any]; exact star_any hn2)
    have h1 : (backTo cpos (starEach (e :: es) X.env)).all (fun x => !x.1) = true := by
      have := back_any cpos (starEach (e :: es) X.env)
      rw [star_any hn] at this
      rw [List.all_eq_not_any_not]
      simp only [Bool.not_not]
      rw [this]
      rfl
    rw [h1]
    have h2 : (backToKw cpos (keywordEach [] X.env)).all (fun x => x.1.isSome) = true := rfl
    rw [h2]
    simp only [Bool.and_true, Bool.true_and, decide_eq_true_eq, List.length_cons, List.length_nil, List.isEmpty_nil, if_true]
    omega
  obtain ⟨G, L, m, ρ, E, h⟩ := h
  rw [evE] at h
  by_cases hz : ∃ d m1 ds m2 n b, evE c.cfg ea ρ m = .ok d m1 ∧ evEs c.cfg l ρ m1 = .ok ds m2 ∧ lkD d m2 = some (n, b) ∧ doneO o b ds = true
  · obtain ⟨d, m1, ds, m2, n, b, e1, e2, e3, e4⟩ := hz
    obtain ⟨r, hr, k⟩ := mop_rule (X := X) (c := c) (W := W) hu hK hoo e4
    refine (run hr).run pins s σ H Q I ?_
    refine TEr.bind E h fun d' m1' v H1 L1 q1 s1 E1 r1 h1 => ?_
    rw [e1] at q1
    cases q1
    by_cases hd : okR o d m1 = true
    · rw [if_pos hd] at h1
      obtain ⟨n', p, rfl, rfl, hL, ty⟩ := mop_ty hK hoo E1.sok r1 hd
      refine ⟨ty, ?_⟩
      refine TAr.bind E1 h1 fun ds' m2' vs H2 L2 q2 s2 E2 r2 h2 => ?_
      rw [e2] at q2
      cases q2
      have := lkD_n e3
      subst this
      exact k G L2 _ ρ σ H2 Q n p vs E2 e3 (s2.al n p hL) r2.reps h2
    · rw [if_neg hd] at h1
      exact (show False from h1).elim
  · refine (run mtNo).run pins s σ H Q I ?_
    refine TEr.bind E h fun d' m1' v H1 L1 q1 s1 E1 r1 h1 => ?_
    by_cases hd : okR o d' m1' = true
    · rw [if_pos hd] at h1
      obtain ⟨n', p, rfl, rfl, hL, ty⟩ := mop_ty hK hoo E1.sok r1 hd
      refine ⟨ty, ?_⟩
      refine TAr.bind E1 h1 fun ds m2 vs H2 L2 q2 s2 E2 r2 h2 => ?_
      rw [opD_m hoo] at h2
      cases e3 : lkD (.obj n') m2 with
      | none => rw [e3] at h2; exact h2
      | some nb =>
        obtain ⟨n, b⟩ := nb
        rw [e3] at h2
        dsimp only at h2
        refine hz ⟨_, _, _, _, n, b, q1, q2, e3, ?_⟩
        unfold doneO
        by_cases hr : isRd o = true
        · rw [if_pos hr] at h2 ⊢
          cases e4 : rdD o b ds with
          | none => rw [e4] at h2; exact (show False from h2).elim
          | some z => rfl
        · rw [if_neg hr] at h2 ⊢
          cases e4 : wrD o b ds with
          | none => rw [e4] at h2; exact (show False from h2).elim
          | some z => rfl
    · rw [if_neg hd] at h1
      exact (show False from h1).elim
theorem s_mop0 {o : OpN} {apos cpos : Pos} (hu : X.A.units + 65 < cLine) (hoo : oOk o = true) (hK : c.K = X.K) (ho : PE X x (TEr c W ba ea)) (hb : notCall0 x = true) (hline : (apos.endLine == cpos.line) = true) :
    PE X (.Call (.Attribute x (oN o) apos) [] [] cpos) (TEr c W false (.mop o ea .nil)) := by
  refine ⟨fun pins s σ H Q I h => ?_⟩
  have run : ∀ {r : V → List V → Hp → VK → Prop}, MtR X (oI o) r → PE X (.Call (.Attribute x (oN o) apos) [] [] cpos) (tBM0 X.K (oT o) r (TEr c W ba ea)) := fun hm =>
    pe_bm0 (oPl o) (oS o hoo) (oTy o hoo) hm ho (base_of hb) hline
  obtain ⟨G, L, m, ρ, E, h⟩ := h
  rw [evE] at h
  by_cases hz : ∃ d m1 n b, evE c.cfg ea ρ m = .ok d m1 ∧ lkD d m1 = some (n, b) ∧ doneO o b [] = true
  · obtain ⟨d, m1, n, b, e1, e3, e4⟩ := hz
    obtain ⟨r, hr, k⟩ := mop_rule (X := X) (c := c) (W := W) hu hK hoo e4
    refine (run hr).run pins s σ H Q I ?_
    refine TEr.bind E h fun d' m1' v H1 L1 q1 s1 E1 r1 h1 => ?_
    rw [e1] at q1
    cases q1
    by_cases hd : okR o d m1 = true
    · rw [if_pos hd, evEs, Res.bind_ok] at h1
      obtain ⟨n', p, rfl, rfl, hL, ty⟩ := mop_ty hK hoo E1.sok r1 hd
      have := lkD_n e3
      subst this
      exact ⟨ty, k G L1 _ ρ σ H1 Q n p [] E1 e3 hL .nil h1⟩
    · rw [if_neg hd] at h1
      exact (show False from h1).elim
  · refine (run mtNo).run pins s σ H Q I ?_
    refine TEr.bind E h fun d' m1' v H1 L1 q1 s1 E1 r1 h1 => ?_
    by_cases hd : okR o d' m1' = true
    · rw [if_pos hd, evEs, Res.bind_ok] at h1
      obtain ⟨n', p, rfl, rfl, hL, ty⟩ := mop_ty hK hoo E1.sok r1 hd
      refine ⟨ty, ?_⟩
      rw [opD_m hoo] at h1
      cases e3 : lkD (.obj n') m1' with
      | none => rw [e3] at h1; exact h1
      | some nb =>
        obtain ⟨n, b⟩ := nb
        rw [e3] at h1
        dsimp only at h1
        refine hz ⟨_, _, n, b, q1, e3, ?_⟩
        unfold doneO
        by_cases hr : isRd o = true
        · rw [if_pos hr] at h1 ⊢
          cases e4 : rdD o b [] with
          | none => rw [e4] at h1; exact (show False from h1).elim
          | some z => rfl
        · rw [if_neg hr] at h1 ⊢
          cases e4 : wrD o b [] with
          | none => rw [e4] at h1; exact (show False from h1).elim
          | some z => rfl
    · rw [if_neg hd] at h1
      exact (show False from h1).elim
end
end MP
set_option maxRecDepth 100000
set_option maxHeartbeats 4000000
set_option autoImplicit false
namespace MP
open PySem L2
section
variable {X : Cx} {CX : CXT} {k : Nat} {f C : Addr} {fd : FuncData} {ps : List Str} {sp : Sp} {dvs : List V} {ds : List Value} {E : L2.St → XK} {x m : Str} {p pos apos : Pos} {e o : Expr} {es : List Expr} {ta : TE} {t : TA}
def tMethD (X : Cx) (CX : CXT) (m : Str) (E : L2.St → XK) (ta : TE) (t : TA) : TE := fun σ H Q => ta σ H fun x H1 => ∃ a C dx fs f fd k ps sp dvs ds, x = .ref a ∧ H1 a = some (.ins C dx fs) ∧ Cls X.K C ∧ Meth X.K C m f ∧ fs.lookup m = none ∧
  FnOk X.prog X.w X.K X.mg X.base CX k f fd ps sp ∧ Room k X.A ∧ Binds X.K fd ps ds ∧ Vals dvs ds ∧ t σ H1 fun vs H2 => sp (x :: (vs ++ dvs)) H2 Q (E σ)
theorem pe_methD {pl : Sem Bool} (he : PE X o ta) (hx : ∀ σ, PassesAt CX X σ (E σ)) (ha : PA X (e :: es) t)
    (hst : starEach (e :: es) X.env = (false, eval e X.env) :: starEach es X.env) (hpl : (backTo pos (starEach es X.env)).any (·.1) = false)
    (ht : eval (.Call (.Attribute o m apos) (e :: es) [] pos) X.env = (do
      let ov ← eval o X.env
      standAt apos.atName
      let (f, first) ← holding [ov] (getMethod ov m pl)
      callWith pos f first (backTo pos (starEach (e :: es) X.env)) (backToKw pos (keywordEach [] X.env)))) :
    PE X (.Call (.Attribute o m apos) (e :: es) [] pos) (tMethD X CX m E ta t) := by
  refine ⟨fun pins s σ H Q I h => ?_⟩
  refine PySem.W.methodCall_KW (pl := pl) (thn (he.run pins s σ H _ I h) fun u s1 ⟨x, H1, I1, rx, a, C, dx, fs, f, fd, k, ps, sp, dvs, ds, ex, ea, c, hm, l, F, hr, hb, hd, q⟩ => ?_) ht
  subst ex
  obtain rfl : u = Value.ref a := rx
  refine getmeth_ok I1 ea c hm l ?_
  refine PySem.W.callWith_K (first := [.ref a]) (h₀ := X.base) I.ok.mod.kin hm.kp (thn (ha.run pos pins s1 σ H1 _ I1 q) fun us s2 ⟨vs, H2, I2, r, q2⟩ => ⟨I2.kIn, ?_⟩) hst hpl
  exact run_fnSD (us := .ref a :: us) (vs := .ref a :: vs) F hr hb hd (hx σ) I2 (.cons rfl r) q2
theorem pe_methD0 {pl : Sem Bool} (he : PE X o ta) (hx : ∀ σ, PassesAt CX X σ (E σ))
    (ht : eval (.Call (.Attribute o m apos) [] [] pos) X.env = (do
      let ov ← eval o X.env
      standAt apos.atName
      let (f, first) ← holding [ov] (getMethod ov m pl)
      callWith pos f first (backTo pos (starEach [] X.env)) (backToKw pos (keywordEach [] X.env)))) :
    PE X (.Call (.Attribute o m apos) [] [] pos) (tMethD X CX m E ta tNil) := by
  refine ⟨fun pins s σ H Q I h => ?_⟩
  refine PySem.W.methodCall_KW (pl := pl) (thn (he.run pins s σ H _ I h) fun u s1 ⟨x, H1, I1, rx, a, C, dx, fs, f, fd, k, ps, sp, dvs, ds, ex, ea, c, hm, l, F, hr, hb, hd, q⟩ => ?_) ht
  subst ex
  obtain rfl : u = Value.ref a := rx
  refine getmeth_ok I1 ea c hm l ?_
  exact PySem.W.callWith_K0 (first := [.ref a]) I1.kIn hm.kp (run_fnSD (us := [.ref a]) (vs := [.ref a]) F hr hb hd (hx σ) I1 (.cons rfl .nil) q)
def tMakeS (C : Addr) (sp : Sp) (dvs : List V) (E : L2.St → XK) (t : TA) : TE := fun σ H Q => t σ H fun vs H1 => ∀ x dx, H1 x = none → H1 dx = none → dx ≠ x →
  sp (.ref x :: (vs ++ dvs)) (upd (upd H1 dx (.own x)) x (.ins C dx [])) (fun v H2 => v = .non ∧ Q (.ref x) H2) (E σ)
theorem run_makeS {pins : List (Addr × Obj)} {σ : L2.St} {H : Hp} {s : Shared} {Q : VK} {us : List Value} {vs : List V} (M : Mk X.K C f) (F : FnOk X.prog X.w X.K X.mg X.base CX k f fd ps sp) (hr : Room (k + 1) X.A) (hb : Binds X.K fd ps ds) (hd : Vals dvs ds)
    (hx : PassesAt CX X σ (E σ)) (I : Inv X pins σ H s) (r : Vals vs us)
    (h : ∀ x dx, H x = none → H dx = none → dx ≠ x → sp (.ref x :: (vs ++ dvs)) (upd (upd H dx (.own x)) x (.ins C dx [])) (fun v H2 => v = .non ∧ Q (.ref x) H2) (E σ)) :
    wpAny (model X.prog X.w) X.A (call (.ref C) us) (EP X pins σ Q) X.xe s := by
  have hq := h (s.heap.objs.size + 1) s.heap.objs.size (I.hok.fresh (Nat.le_succ _)) (I.hok.fresh (Nat.le_refl _)) (Nat.ne_of_lt (Nat.lt_succ_self _))
  have I2 := Inv.made (C := C) I
  have r2 : Vals (V.ref (s.heap.objs.size + 1) :: (vs ++ dvs)) (Value.ref (s.heap.objs.size + 1) :: (us ++ ds)) := .cons rfl (r.append hd)
  have hl : (Value.ref (s.heap.objs.size + 1) :: us ++ ds).length = ps.length := by
    have e := r2.length
    rw [F.len _ _ _ _ hq] at e
    exact e.symm
  refine wpAny_call (make_map (f := f) I.kIn M.makes M.init (beq_iff_eq.mp M.fn) (codeAny_mono (F.run _ X.stack _ _ ⟨Value.ref (s.heap.objs.size + 1) :: us, []⟩ (Value.ref (s.heap.objs.size + 1) :: (us ++ ds)) _ _ (E σ) (hr.make C us [])
    (I2.env0.make C us []) (hb _ (Value.ref (s.heap.objs.size + 1) :: us) I2.kIn hl) r2 hq) fun r s' hq' => ?_))
  cases r with
  | error e => exact hx pins _ _ e s' I2 hq'
  | ok fl =>
    cases fl with
    | ret u =>
      obtain ⟨v, H', I3, rv, ev, q3⟩ := I2.after hq'
      subst ev
      exact ⟨rv, ⟨V.ref (s.heap.objs.size + 1), H', I3, rfl, q3⟩⟩
    | next => exact False.elim hq'
    | brk => exact False.elim hq'
    | cont => exact False.elim hq'
theorem pe_makeS (M : Mk X.K C f) (F : FnOk X.prog X.w X.K X.mg X.base CX k f fd ps sp) (hr : Room (k + 1) X.A) (hg : Gl X x) (hm : X.mg x = some (.ref C)) (hb : Binds X.K fd ps ds) (hd : Vals dvs ds) (hx : ∀ σ, PassesAt CX X σ (E σ))
    (ha : PA X (e :: es) t) (hdb : (x == ("__debug__" : Str)) = false) (he : starEach (e :: es) X.env = (false, eval e X.env) :: starEach es X.env) (hpl : (backTo pos (starEach es X.env)).any (·.1) = false) :
    PE X (.Call (.Name x p) (e :: es) [] pos) (tMakeS C sp dvs E t) := by
  refine ⟨fun pins s σ H Q I h => ?_⟩
  refine wpAny_Call_Name_kw (ld_glob I hg hm ?_ hdb)
  refine PySem.W.callWith_K (h₀ := X.base) I.ok.mod.kin M.kp (thn (ha.run pos pins s σ H _ I h) fun us s1 ⟨vs, H1, I1, r, q⟩ => ⟨I1.kIn, ?_⟩) he hpl
  exact run_makeS M F hr hb hd (hx σ) I1 r q
theorem pe_makeS0 (M : Mk X.K C f) (F : FnOk X.prog X.w X.K X.mg X.base CX k f fd ps sp) (hr : Room (k + 1) X.A) (hg : Gl X x) (hm : X.mg x = some (.ref C)) (hb : Binds X.K fd ps ds) (hd : Vals dvs ds) (hx : ∀ σ, PassesAt CX X σ (E σ))
    (hdb : (x == ("__debug__" : Str)) = false) : PE X (.Call (.Name x p) [] [] pos) (tMakeS C sp dvs E tNil) := by
  refine ⟨fun pins s σ H Q I h => ?_⟩
  refine wpAny_Call_Name_kw (ld_glob I hg hm ?_ hdb)
  exact PySem.W.callWith_K0 I.kIn M.kp (run_makeS (us := []) M F hr hb hd (hx σ) I .nil h)
theorem pe_callSD0 (F : FnOk X.prog X.w X.K X.mg X.base CX k f fd ps sp) (hr : Room k X.A) (hg : Gl X x) (hm : X.mg x = some (.ref f)) (hk : PySem.W.keepIn X.K (.ref f) = true) (hb : Binds X.K fd ps ds) (hd : Vals dvs ds) (hx : ∀ σ, PassesAt CX X σ (E σ))
    (hdb : (x == ("__debug__" : Str)) = false) : PE X (.Call (.Name x p) [] [] pos) (tCallSD sp dvs E tNil) := by
  refine ⟨fun pins s σ H Q I h => ?_⟩
  refine wpAny_Call_Name_kw (ld_glob I hg hm ?_ hdb)
  exact PySem.W.callWith_K0 I.kIn hk (run_fnSD (us := []) F hr hb hd (hx σ) I .nil h)
end
inductive Dv (K : PySem.W.Frag) : List D → List V → List Value → Prop
  | nil : Dv K [] [] []
  | cons {d : D} {v : V} {u : Value} {ds : List D} {vs : List V} {us : List Value} : (∀ A H, Rep K A H v d) → RelV v u → Dv K ds vs us → Dv K (d :: ds) (v :: vs) (u :: us)
theorem Dv.reps {K : PySem.W.Frag} {A : Nat → Option Addr} {H : Hp} : ∀ {ds : List D} {vs : List V} {us : List Value}, Dv K ds vs us → Reps K A H vs ds
  | _, _, _, .nil => .nil
  | _, _, _, .cons h _ t => .cons (h A H) (Dv.reps t)
theorem Dv.vals {K : PySem.W.Frag} : ∀ {ds : List D} {vs : List V} {us : List Value}, Dv K ds vs us → Vals vs us
  | _, _, _, .nil => .nil
  | _, _, _, .cons _ h t => .cons h (Dv.vals t)
section
variable {X : Cx} {c : Cn} {W : WX} {ba bb : Bool} {ea eb : E} {x y : Expr} {pos : Pos}
theorem sp_of {G : Addr → Prop} {L : Lay} {m : Mu} {ρ : Env'} {σ : L2.St} {H : Hp} {Q : VK} {fr : Bool} {par fn : Nat} {vs : List V} {ds : List D} (hK : c.K = X.K) (E : ESt c.K c.own G L m ρ σ H) (r : Reps c.K (AL L) (hide (Bd G L) H) vs ds) (hl : ds.length = par)
    (h : PstG c W G L σ H (fun d _ H' L' => ∀ v, RB c.K false G L' H' v d → Q v H') (c.cfg.call fn ds m)) : spD X.K c.cls fr par (c.cfg.call fn) vs H Q (WE W σ) := by
  refine ⟨G, L, m, ds, E.gok, hK ▸ E.sok, hK ▸ r, hl, ?_⟩
  cases hres : c.cfg.call fn ds m with
  | ok d m' =>
    rw [hres] at h
    exact fun v H' L' st o => h H' L' st (hK ▸ o.weak.1) v (.inl (hK ▸ o.weak.2))
  | err k m' =>
    rw [hres] at h
    exact fun H' L' st ok => h H' L' st (hK ▸ ok)
  | stuck =>
    rw [hres] at h
    exact h
theorem s_callD {n fn : Nat} {f : Addr} {fd : FuncData} {ps : List Str} {nm : Str} {p : Pos} {e : Expr} {es : List Expr} {l : Es} {par : Nat} {fr : Bool} {dv : List D} {dvs : List V} {us : List Value} (hK : c.K = X.K) (F : FnOk X.prog X.w X.K X.mg X.base (L2.CX X.prog X.w) n f fd ps (spD X.K c.cls fr par (c.cfg.call fn))) (hr : Room n X.A) (hg : Gl X nm) (hm : X.mg nm = some (.ref f))
    (hk : PySem.W.keepIn X.K (.ref f) = true) (hb : Binds X.K fd ps us) (hd : Dv X.K dv dvs us) (pa : ∀ σ, PassesAt (L2.CX X.prog X.w) X σ (WE W σ)) (ha : PA X (e :: es) (TAr c W false l)) (hl : l.len + dv.length = par) (hdb : (nm == ("__debug__" : Str)) = false) (hn : (e :: es).all notStar = true) : PE X (.Call (.Name nm p) (e :: es) [] pos) (TEr c W false (.callD fn l dv)) := by
  rw [List.all_cons, Bool.and_eq_true] at hn
  refine pe_imp (pe_callSD (E := WE W) F hr hg hm hk hb hd.vals pa ha hdb (star_of hn.1) (by rw [back_any]; exact star_any hn.2)) fun σ H Q h => ?_
  obtain ⟨G, L, m, ρ, E, h⟩ := h
  rw [evE] at h
  refine TAr.bind E h fun ds m1 vs H1 L1 e1 s1 E1 r1 h1 => ?_
  exact sp_of hK E1 (r1.reps.append (hK ▸ hd.reps)) (by rw [List.length_append, evEs_len e1, hl]) h1
theorem s_callD0 {n fn : Nat} {f : Addr} {fd : FuncData} {ps : List Str} {nm : Str} {p : Pos} {par : Nat} {fr : Bool} {dv : List D} {dvs : List V} {us : List Value} (hK : c.K = X.K) (F : FnOk X.prog X.w X.K X.mg X.base (L2.CX X.prog X.w) n f fd ps (spD X.K c.cls fr par (c.cfg.call fn))) (hr : Room n X.A) (hg : Gl X nm) (hm : X.mg nm = some (.ref f))
    (hk : PySem.W.keepIn X.K (.ref f) = true) (hb : Binds X.K fd ps us) (hd : Dv X.K dv dvs us) (pa : ∀ σ, PassesAt (L2.CX X.prog X.w) X σ (WE W σ)) (hl : dv.length = par) (hdb : (nm == ("__debug__" : Str)) = false) : PE X (.Call (.Name nm p) [] [] pos) (TEr c W false (.callD fn .nil dv)) := by
  refine pe_imp (pe_callSD0 (E := WE W) F hr hg hm hk hb hd.vals pa hdb) fun σ H Q h => ?_
  obtain ⟨G, L, m, ρ, E, h⟩ := h
  rw [evE, evEs, Res.bind_ok] at h
  show spD X.K c.cls fr par (c.cfg.call fn) ([] ++ dvs) H Q (WE W σ)
  exact sp_of hK E (hK ▸ hd.reps) hl h
structure MthOk (X : Cx) (c : Cn) (n k nm par : Nat) (dv : List D) : Prop where
  ex : ∃ C f fd ps fr us dvs, ClsA X.K k C ∧ Cls X.K C ∧ Meth X.K C (mName nm) f ∧ FnOk X.prog X.w X.K X.mg X.base (L2.CX X.prog X.w) n f fd ps (spD X.K c.cls fr par (c.cfg.call (mnum k nm))) ∧ Binds X.K fd ps us ∧ Dv X.K dv dvs us
theorem meth_red {G : Addr → Prop} {L : Lay} {m : Mu} {H : Hp} {σ : L2.St} {Q : VK} {k : Nat} {d : D} {r : Nat → Res D} (h : Pst c W false G L σ H Q (match d with
    | .obj n => (match m[n]? with
      | some (.ins j _) => if j = k then r n else .stuck
      | _ => .stuck)
    | _ => .stuck)) : ∃ n fs, d = .obj n ∧ m[n]? = some (.ins k fs) ∧ Pst c W false G L σ H Q (r n) := by
  cases d with
  | obj n =>
    dsimp only at h
    cases q : m[n]? with
    | none => rw [q] at h; exact (show False from h).elim
    | some i =>
      cases i with
      | box lk d => rw [q] at h; exact (show False from h).elim
      | tab => rw [q] at h; exact (show False from h).elim
      | ins j fs =>
        rw [q] at h
        dsimp only at h
        by_cases e : j = k
        · rw [if_pos e] at h
          exact ⟨n, fs, rfl, by rw [q, e], h⟩
        · rw [if_neg e] at h
          exact (show False from h).elim
  | _ => exact (show False from h).elim
theorem s_meth {n k nm par : Nat} {apos : Pos} {e : Expr} {es : List Expr} {l : Es} {dv : List D} (hK : c.K = X.K) (M : MthOk X c n k nm par dv) (hr : Room n X.A) (pa : ∀ σ, PassesAt (L2.CX X.prog X.w) X σ (WE W σ)) (hx : PE X x (TEr c W ba ea)) (ha : PA X (e :: es) (TAr c W false l)) (hl : l.len + dv.length + 1 = par) (hn : (e :: es).all notStar = true) {pl : Sem Bool}
    (ht : eval (.Call (.Attribute x (mName nm) apos) (e :: es) [] pos) X.env = (do
      let ov ← eval x X.env
      standAt apos.atName
      let (f, first) ← holding [ov] (getMethod ov (mName nm) pl)
      callWith pos f first (backTo pos (starEach (e :: es) X.env)) (backToKw pos (keywordEach [] X.env)))) :
    PE X (.Call (.Attribute x (mName nm) apos) (e :: es) [] pos) (TEr c W false (.meth k nm ea l dv)) := by
  rw [List.all_cons, Bool.and_eq_true] at hn
  obtain ⟨C, f, fd, ps, fr, us, dvs, hC, cl, hm, F, hb, hd⟩ := M.ex
  refine pe_imp (pe_methD (E := WE W) (pl := pl) hx pa ha (star_of hn.1) (by rw [back_any]; exact star_any hn.2) ht) fun σ H Q h => ?_
  obtain ⟨G, L, m, ρ, E, h⟩ := h
  rw [evE] at h
  refine TEr.bind E h fun d m1 v H1 L1 q1 s1 E1 r1 h1 => ?_
  obtain ⟨j, fs, rfl, q, h2⟩ := meth_red h1
  obtain ⟨p, C', dx, vs, hL, hC', hp, rf, al⟩ := E1.sok.ins q
  obtain ⟨p', ev, hL'⟩ := r1.obj
  rw [hL] at hL'
  cases hL'
  have := hC.eq (hK ▸ hC')
  subst this
  refine ⟨p, C, dx, vs, f, fd, n, ps, _, dvs, us, ev, hp, cl, hm, rf.meth nm, F, hr, hb, hd.vals, ?_⟩
  refine TAr.bind E1 h2 fun ds m2 ws H2 L2' e2 s2 E2 r2 h3 => ?_
  rw [ev]
  refine sp_of hK E2 (.cons (.obj (s2.al j p hL)) (r2.reps.append (hK ▸ hd.reps))) ?_ h3
  rw [List.length_cons, List.length_append, evEs_len e2, hl]
theorem s_meth0 {n k nm par : Nat} {apos : Pos} {dv : List D} (hK : c.K = X.K) (M : MthOk X c n k nm par dv) (hr : Room n X.A) (pa : ∀ σ, PassesAt (L2.CX X.prog X.w) X σ (WE W σ)) (hx : PE X x (TEr c W ba ea)) (hl : dv.length + 1 = par) {pl : Sem Bool}
    (ht : eval (.Call (.Attribute x (mName nm) apos) [] [] pos) X.env = (do
      let ov ← eval x X.env
      standAt apos.atName
      let (f, first) ← holding [ov] (getMethod ov (mName nm) pl)
      callWith pos f first (backTo pos (starEach [] X.env)) (backToKw pos (keywordEach [] X.env)))) :
    PE X (.Call (.Attribute x (mName nm) apos) [] [] pos) (TEr c W false (.meth k nm ea .nil dv)) := by
  obtain ⟨C, f, fd, ps, fr, us, dvs, hC, cl, hm, F, hb, hd⟩ := M.ex
  refine pe_imp (pe_methD0 (E := WE W) (pl := pl) hx pa ht) fun σ H Q h => ?_
  obtain ⟨G, L, m, ρ, E, h⟩ := h
  rw [evE] at h
  refine TEr.bind E h fun d m1 v H1 L1 q1 s1 E1 r1 h1 => ?_
  obtain ⟨j, fs, rfl, q, h2⟩ := meth_red h1
  obtain ⟨p, C', dx, vs, hL, hC', hp, rf, al⟩ := E1.sok.ins q
  obtain ⟨p', ev, hL'⟩ := r1.obj
  rw [hL] at hL'
  cases hL'
  have := hC.eq (hK ▸ hC')
  subst this
  refine ⟨p, C, dx, vs, f, fd, n, ps, _, dvs, us, ev, hp, cl, hm, rf.meth nm, F, hr, hb, hd.vals, ?_⟩
  rw [ev]
  rw [evEs, Res.bind_ok] at h2
  show spD X.K c.cls fr par (c.cfg.call (mnum k nm)) (.ref p :: ([] ++ dvs)) H1 Q (WE W σ)
  exact sp_of hK E1 (.cons (.obj hL) (hK ▸ hd.reps)) (by rw [List.length_cons, List.nil_append, hl]) h2
structure MkOk (X : Cx) (c : Cn) (n k par : Nat) (dv : List D) : Prop where
  ex : ∃ C f fd ps fr us dvs, ClsA X.K k C ∧ X.mg (clName k) = some (.ref C) ∧ Mk X.K C f ∧ FnOk X.prog X.w X.K X.mg X.base (L2.CX X.prog X.w) n f fd ps (spD X.K c.cls fr par (c.cfg.call (mnum k 0))) ∧ Binds X.K fd ps us ∧ Dv X.K dv dvs us
theorem make_sp {G : Addr → Prop} {L : Lay} {m : Mu} {ρ : Env'} {σ : L2.St} {H : Hp} {Q : VK} {fr : Bool} {par k : Nat} {C : Addr} {vs : List V} {ds : List D} (hK : c.K = X.K) (hC : ClsA X.K k C) (E : ESt c.K c.own G L m ρ σ H) (r : Reps c.K (AL L) (hide (Bd G L) H) vs ds) (hl : ds.length + 1 = par)
    (h : Pst c W false G L σ H Q ((c.cfg.call (mnum k 0) (.obj m.length :: ds) (m ++ [.ins k []])).bind fun x m2 => madeD m.length x m2)) :
    ∀ x dx, H x = none → H dx = none → dx ≠ x → spD X.K c.cls fr par (c.cfg.call (mnum k 0)) (.ref x :: vs) (upd (upd H dx (.own x)) x (.ins C dx [])) (fun v H2 => v = .non ∧ Q (.ref x) H2) (WE W σ) := by
  intro x dx nx ndx ne
  have nx1 : upd H dx (.own x) x = none := by rw [upd_ne (Ne.symm ne)]; exact nx
  have ok1 := E.sok.upd (o := .own x) ndx
  have st1 : Stp L L H (upd H dx (.own x)) := Stp.upd ndx
  have E1 := E.step st1 ok1
  have ng : ¬ G x := fun g => by
    obtain ⟨⟨o, e⟩, _⟩ := E.gok x g
    rw [nx] at e; cases e
  obtain ⟨ok2, st2⟩ := ok1.new (o := .ins C dx []) (i := .ins k []) nx1 ng (.ins (hK ▸ hC) upd_same .nil rfl)
  have E2 := E1.step st2 ok2
  have hlen : L.length = m.length := E.sok.len
  have hLx : (L ++ [x])[m.length]? = some x := by rw [← hlen, List.getElem?_append_right (Nat.le_refl _), Nat.sub_self]; rfl
  refine ⟨G, L ++ [x], m ++ [.ins k []], .obj m.length :: ds, E2.gok, hK ▸ ok2, hK ▸ .cons (.obj hLx) (r.mono (st1.trans st2).hid (st1.trans st2).al), by rw [List.length_cons, hl], ?_⟩
  cases hres : c.cfg.call (mnum k 0) (.obj m.length :: ds) (m ++ [.ins k []]) with
  | ok d m' =>
    rw [hres] at h
    intro v H' L' st o
    have h' : Pst c W false G L σ H Q (madeD m.length d m') := h
    cases d with
    | non =>
      have ov := (hK ▸ o.weak.2 : Rep c.K (AL L') (hide (Bd G L') H') v .non)
      refine ⟨by cases ov; rfl, ?_⟩
      have h2 : Pst c W false G L σ H Q (.ok (.obj m.length) m') := h'
      exact h2 H' L' ((st1.trans st2).trans st) (hK ▸ o.weak.1) _ (.inl (.obj (st.al _ _ hLx)))
    | _ => exact (show False from h').elim
  | err k m' =>
    rw [hres] at h
    exact fun H' L' st ok => h H' L' ((st1.trans st2).trans st) (hK ▸ ok)
  | stuck =>
    rw [hres] at h
    exact h
theorem s_make {n k par : Nat} {p : Pos} {e : Expr} {es : List Expr} {l : Es} {dv : List D} (hK : c.K = X.K) (M : MkOk X c n k par dv) (hr : Room (n + 1) X.A) (hg : Gl X (clName k)) (pa : ∀ σ, PassesAt (L2.CX X.prog X.w) X σ (WE W σ)) (ha : PA X (e :: es) (TAr c W false l)) (hl : l.len + dv.length + 1 = par) (hdb : (clName k == ("__debug__" : Str)) = false) (hn : (e :: es).all notStar = true) :
    PE X (.Call (.Name (clName k) p) (e :: es) [] pos) (TEr c W false (.make k l dv)) := by
  rw [List.all_cons, Bool.and_eq_true] at hn
  obtain ⟨C, f, fd, ps, fr, us, dvs, hC, hm, mk, F, hb, hd⟩ := M.ex
  refine pe_imp (pe_makeS (E := WE W) mk F hr hg hm hb hd.vals pa ha hdb (star_of hn.1) (by rw [back_any]; exact star_any hn.2)) fun σ H Q h => ?_
  obtain ⟨G, L, m, ρ, E, h⟩ := h
  rw [evE] at h
  refine TAr.bind E h fun ds m1 vs H1 L1 e1 s1 E1 r1 h1 => ?_
  exact make_sp hK hC E1 (r1.reps.append (hK ▸ hd.reps)) (by rw [List.length_append, evEs_len e1, hl]) h1
theorem s_make0 {n k par : Nat} {p : Pos} {dv : List D} (hK : c.K = X.K) (M : MkOk X c n k par dv) (hr : Room (n + 1) X.A) (hg : Gl X (clName k)) (pa : ∀ σ, PassesAt (L2.CX X.prog X.w) X σ (WE W σ)) (hl : dv.length + 1 = par) (hdb : (clName k == ("__debug__" : Str)) = false) :
    PE X (.Call (.Name (clName k) p) [] [] pos) (TEr c W false (.make k .nil dv)) := by
  obtain ⟨C, f, fd, ps, fr, us, dvs, hC, hm, mk, F, hb, hd⟩ := M.ex
  refine pe_imp (pe_makeS0 (E := WE W) mk F hr hg hm hb hd.vals pa hdb) fun σ H Q h => ?_
  obtain ⟨G, L, m, ρ, E, h⟩ := h
  rw [evE, evEs, Res.bind_ok] at h
  show ∀ x dx, _ → _ → _ → spD X.K c.cls fr par (c.cfg.call (mnum k 0)) (.ref x :: ([] ++ dvs)) _ _ _
  exact make_sp hK hC E (hK ▸ hd.reps) (by rw [List.nil_append]; exact hl) h
end
end MP
set_option maxRecDepth 100000
set_option maxHeartbeats 4000000
set_option autoImplicit false
namespace MP
open PySem L2
section
variable {X : Cx} {c : Cn} {W : WX} {ba bb : Bool} {ea eb : E} {x y : Expr} {pos : Pos} {G : Addr → Prop} {L L' : Lay} {m m' : Mu} {ρ : Env'} {σ : L2.St} {H H' : Hp} {Q : VK} {fr : Bool}
theorem box_new {p : Addr} {u : HO} {d : D} (E : ESt c.K c.own G L m ρ σ H) (n : H p = none) (cu : CU c.K (AL L) (hide (Bd G L) H) u d) (q : Pst c W false G L σ H Q (.ok (.obj m.length) (m ++ [.box false d]))) : Q (.ref p) (upd H p u) := by
  have ng : ¬ G p := fun g => by
    obtain ⟨⟨o, e⟩, _⟩ := E.gok p g
    rw [n] at e; cases e
  have st0 : Stp L (L ++ [p]) H (upd H p u) := by
    refine ⟨fun a u _ e => by rw [upd_ne (ne_of_none e n)]; exact e, fun a fa => ?_, fun a u e => ⟨u, by rw [upd_ne (ne_of_none e n)]; exact e⟩, fun j x e => ?_, fun a q u e => by rw [upd_ne (ne_of_none e n)]; exact e⟩
    · rcases List.mem_append.mp fa with q | q
      · exact .inl q
      · rw [List.mem_singleton.mp q]; exact .inr n
    · show (L ++ [p])[j]? = some x
      rw [List.getElem?_append_left (List.getElem?_eq_some_iff.mp e).1]
      exact e
  obtain ⟨ok, st⟩ := E.sok.new (o := u) (i := .box false d) n ng (.box upd_same (cu.mono st0.hid st0.al))
  refine q _ _ st ok _ (.inl (.obj ?_))
  show (L ++ [p])[m.length]? = some p
  rw [← E.sok.len, List.getElem?_append_right (Nat.le_refl _), Nat.sub_self]
  rfl
theorem s_newD : PE X (.Dict [] [] pos) (TEr c W false (.new .dic .nil)) := by
  refine pe_imp pe_dnewK fun σ H Q h => ?_
  obtain ⟨G, L, m, ρ, E, h⟩ := h
  rw [evE, evEs, Res.bind_ok] at h
  exact fun p n => box_new E n (.dic .nil (Nat.zero_le _)) h
theorem s_newL {es : List Expr} {l : Es} (ha : PA X es (TAr c W false l)) (hz : l.len ≤ 1000) : PE X (.List es pos) (TEr c W false (.new .lst l)) := by
  refine pe_imp (pe_lst ha) fun σ H Q h => ?_
  obtain ⟨G, L, m, ρ, E, h⟩ := h
  rw [evE] at h
  refine TAr.bind E h fun ds m1 vs H1 L1 e1 s1 E1 r1 h1 => ⟨by rw [r1.length, evEs_len e1]; exact sz1000 hz, fun p n => ?_⟩
  exact box_new E1 n (.lst r1.reps (by rw [evEs_len e1]; exact sz1000 hz)) h1
theorem call_dcopy : CallR X (.type "dict") (fun xs H Q => ∃ a kvs, xs = [.ref a] ∧ Rd H a (.dK kvs) ∧ ∀ p, H p = none → Q (.ref p) (upd H p (.dK kvs))) := by
  intro pins s σ H xs us Q I r h
  obtain ⟨a, kvs, rfl, e, q⟩ := h
  obtain ⟨u, rfl, ru⟩ := r.one
  cases ru
  exact d_copyOf I e fun p s' n I' => ⟨.ref p, _, I', rfl, q p n⟩
theorem dict_rule (hc : X.calm = true) (hK : c.K = X.K) (d : D) : ∃ R, CallR X (.type "dict") R ∧ ∀ (G : Addr → Prop) (L : Lay) (m : Mu) (ρ : Env') (σ : L2.St) (H : Hp) (Q : VK) (v : V), ESt c.K c.own G L m ρ σ H → RD c.K G L H v d →
    Pst c W false G L σ H Q (match d with
      | .dic l => .ok (.obj m.length) (m ++ [.box false (.dic l)])
      | .lst l => (match pairsOf l with
        | some ps => .ok (.obj m.length) (m ++ [.box false (.dic (kdD (mergeDK [] ps)))])
        | none => .stuck)
      | _ => .stuck) → R [v] H Q := by
  cases d with
  | dic l =>
    refine ⟨_, call_dcopy, fun G L m ρ σ H Q v E r q => ?_⟩
    obtain ⟨a, kvs, e, h, rk, z⟩ := r.dic
    subst e
    exact ⟨a, kvs, rfl, h, fun p n => box_new E n (.dic rk z) q⟩
  | lst l =>
    cases hn : pairsOf l with
    | none => exact ⟨_, callNo, fun G L m ρ σ H Q v E r q => by dsimp only at q; rw [hn] at q; exact (show False from q)⟩
    | some ps =>
      refine ⟨_, call_dictP hc, fun G L m ρ σ H Q v E r q => ?_⟩
      dsimp only at q
      rw [hn] at q
      obtain ⟨a, ws, e1, hr, rs, hz⟩ := r.lst
      subst e1
      obtain ⟨as, kvs, e2, e3, e4⟩ := pairs_rep hn rs
      subst e2
      refine ⟨a, as, kvs, rfl, hK ▸ hr, ?_, fun p n => box_new (c := c) (W := W) E n (.dic (RepK.merge e4 .nil).repk ?_) q⟩
      · exact paired_imp (fun _ _ h => hK ▸ Same.sqT hide_sub h) e3
      · unfold kdD
        rw [List.length_map]
        refine Nat.le_trans (length_mergeDK ps []) ?_
        rw [pairsOf_len hn]
        simpa using hz
  | _ => exact ⟨_, callNo, fun G L m ρ σ H Q v E r q => (show False from q)⟩
theorem s_newT {p : Pos} {l : Es} (hK : c.K = X.K) (hc : X.calm = true) (hg : Gl X "dict") (hm : X.mg "dict" = none) (ha : PA X [x] (TAr c W true l)) (hn : notStar x = true) : PE X (.Call (.Name "dict" p) [x] [] pos) (TEr c W false (.new .dict l)) := by
  refine ⟨fun pins s σ H Q I h => ?_⟩
  obtain ⟨G, L, m, ρ, E, h⟩ := h
  have run : ∀ {r}, CallR X (.type "dict") r → PE X (.Call (.Name "dict" p) [x] [] pos) (tCB r (TAr c W true l)) := fun hr =>
    pe_callTy hr hg hm (bi_boot .dict) ha (by decide +kernel) (by decide +kernel) (star_of hn) rfl
  rw [evE] at h
  cases e1 : evEs c.cfg l ρ m with
  | stuck => rw [e1] at h; exact (show False from h).elim
  | err k m1 =>
    refine (run callNo).run pins s σ H Q I ?_
    refine TAr.bind E h fun ds m2 vs H1 L1 q1 s1 E1 r1 h1 => ?_
    rw [e1] at q1
    cases q1
  | ok ds m1 =>
    by_cases hd : ∃ d, ds = [d]
    · obtain ⟨d, rfl⟩ := hd
      obtain ⟨R, hR, k⟩ := dict_rule (X := X) (c := c) (W := W) hc hK (dr m1 d)
      refine (run hR).run pins s σ H Q I ?_
      refine TAr.bind E h fun ds' m2 vs H1 L1 q1 s1 E1 r1 h1 => ?_
      rw [e1] at q1
      cases q1
      cases r1 with
      | cons r1 rs =>
        cases rs
        exact k G L1 _ ρ σ H1 Q _ E1 (r1.drd E1.sok) h1
    · refine (run callNo).run pins s σ H Q I ?_
      refine TAr.bind E h fun ds' m2 vs H1 L1 q1 s1 E1 r1 h1 => ?_
      rw [e1] at q1
      cases q1
      have : nwD .dict ds m1 = .stuck := by
        match ds, hd with
        | [], _ => rfl
        | [d], hd => exact (hd ⟨d, rfl⟩).elim
        | _ :: _ :: _, _ => rfl
      rw [this] at h1
      exact h1
def TEo (c : Cn) (W : WX) (e : E) : TE := fun σ H Q => ∃ G L m ρ, ESt c.K c.own G L m ρ σ H ∧ PstG c W G L σ H (fun d m' H' L' => ∀ v, OutQ c.K true G H L' m' H' d v → Q v H') (evE c.cfg e ρ m)
theorem TEo.te {e : E} {z : Expr} (h : PE X z (TEo c W e)) : PE X z (TEr c W false e) := pe_imp h fun σ H Q ⟨G, L, m, ρ, E, q⟩ => ⟨G, L, m, ρ, E, q.imp fun d m' H' L' _ _ _ k v o => k v (.inl o.weak.2)⟩
theorem OutQ.back {H0 : Hp} {d : D} {v : V} (s : ∀ a, H a = none → H0 a = none) (o : OutQ c.K fr G H L' m' H' d v) : OutQ c.K fr G H0 L' m' H' d v := by
  unfold OutQ at o ⊢
  split at o
  · rename_i q
    rw [if_pos q]
    obtain ⟨a, e1, e2, r⟩ := o
    exact ⟨a, e1, s a e2, r⟩
  · rename_i q
    rw [if_neg q]
    exact o
theorem Stp.none (s : Stp L L' H H') : ∀ a, H' a = none → H a = none := fun a n => by
  cases q : H a with
  | none => rfl
  | some o =>
    obtain ⟨u, hu⟩ := s.stay a o q
    rw [n] at hu
    cases hu
theorem s_newF {z : Expr} (ha : PE X z (TEo c W ea)) : PE X z (TEr c W false (.new .fre (.cons ea .nil))) := pe_imp ha fun σ H Q h => by
  obtain ⟨G, L, m, ρ, E, h⟩ := h
  have he : evE c.cfg (.new .fre (.cons ea .nil)) ρ m = (evE c.cfg ea ρ m).bind fun d m1 => nwD .fre [d] m1 := by
    rw [evE, evEs]
    cases evE c.cfg ea ρ m with
    | ok d m1 => rw [Res.bind_ok, evEs]; rfl
    | err k m1 => rfl
    | stuck => rfl
  rw [he] at h
  refine ⟨G, L, m, ρ, E, (PstG.bind h).imp fun d m1 H1 L1 e s1 ok1 q v o => ?_⟩
  rw [e, Res.bind_ok] at h
  have go : ∀ r : D, isBoxD r = true → d = r → nwD .fre [r] m1 = .ok (.obj m1.length) (m1 ++ [.box false r]) → Q v H1 := fun r hb ed hr => by
    subst ed
    rw [hr] at h
    unfold OutQ at o
    rw [if_pos ⟨rfl, hb⟩] at o
    obtain ⟨a, e1, hn, ng, sk, cr⟩ := o
    subst e1
    have na : ¬ foot L1 a := fun z => sk.dis a z (.inr rfl)
    have sm : Same (hide (Bd (fun x => G x ∨ x = a) L1) H1) (hide (Bd G (L1 ++ [a])) H1) := hide_same fun b u nb hu => ⟨fun z => nb (z.elim (fun z => .inl (.inl z)) fun z => (List.mem_append.mp z).elim .inr fun z => .inl (.inr (List.mem_singleton.mp z))), hu⟩
    have al : ∀ n x, AL L1 n = some x → AL (L1 ++ [a]) n = some x := fun n x z => by
      show (L1 ++ [a])[n]? = some x
      rw [List.getElem?_append_left (List.getElem?_eq_some_iff.mp z).1]
      exact z
    have st : Stp L (L1 ++ [a]) H H1 := ⟨s1.keep, fun b z => (List.mem_append.mp z).elim (s1.new b) fun z => .inr (by rw [List.mem_singleton.mp z]; exact hn), s1.stay, fun n x z => al n x (s1.al n x z), s1.frz⟩
    have ok2 : SOk c.K G (L1 ++ [a]) (m1 ++ [.box false d]) H1 := by
      refine ⟨by rw [List.length_append, List.length_append, sk.len]; rfl, ?_, fun b z => ?_, fun j b k e1 e2 => ?_⟩
      · rw [List.nodup_append]
        exact ⟨sk.nd, List.pairwise_singleton _ a, fun x hx y hy e => na (by rw [← List.mem_singleton.mp hy, ← e]; exact hx)⟩
      · rcases List.mem_append.mp z with z | z
        · exact fun g => sk.dis b z (.inl g)
        · rw [List.mem_singleton.mp z]; exact ng
      · by_cases hj : j < L1.length
        · rw [List.getElem?_append_left hj] at e1
          rw [List.getElem?_append_left (by rw [← sk.len]; exact hj)] at e2
          exact (sk.ok j b k e1 e2).mono sm al fun _ h => h
        · rw [List.getElem?_append_right (Nat.le_of_not_lt hj)] at e1
          rw [List.getElem?_append_right (by rw [← sk.len]; exact Nat.le_of_not_lt hj), ← sk.len] at e2
          cases q : j - L1.length with
          | zero =>
            rw [q] at e1 e2
            cases e1
            cases e2
            obtain ⟨u, hu, cu⟩ := cr.cu
            exact .box hu (cu.mono sm al)
          | succ w => rw [q] at e1; cases e1
    refine h H1 (L1 ++ [a]) st ok2 _ (.inl (.obj ?_))
    show (L1 ++ [a])[m1.length]? = some a
    rw [← sk.len, List.getElem?_append_right (Nat.le_refl _), Nat.sub_self]
    rfl
  cases d with
  | lst l => exact go _ rfl rfl rfl
  | dic l => exact go _ rfl rfl rfl
  | _ => exact (show False from q).elim
theorem outL {L1 : Lay} {m1 : Mu} {H0 : Hp} {p : Addr} {vs : List V} {ds : List D} (E : ESt c.K c.own G L1 m1 ρ σ H) (s0 : ∀ a, H a = none → H0 a = none) (n : H p = none) (r : Reps c.K (AL L1) (hide (Bd G L1) H) vs ds) (z : ds.length ≤ sizeLine) : OutQ c.K true G H0 L1 m1 (upd H p (.lst vs)) (.lst ds) (.ref p) := by
  have ng : ¬ G p := fun g => by
    obtain ⟨⟨o, e⟩, _⟩ := E.gok p g
    rw [n] at e; cases e
  obtain ⟨E2, sm⟩ := E.guard (o := .lst vs) n
  unfold OutQ
  rw [if_pos ⟨rfl, rfl⟩]
  exact ⟨p, rfl, s0 p n, ng, E2.sok, .lst upd_same (r.mono sm fun _ _ h => h) z⟩
theorem Pst.outL {L1 : Lay} {m1 : Mu} {H0 : Hp} {p : Addr} {vs : List V} {ds : List D} (E : ESt c.K c.own G L1 m1 ρ σ H) (s0 : ∀ a, H a = none → H0 a = none) (q : PstG c W G L1 σ H (fun d m' H' L' => ∀ v, OutQ c.K true G H0 L' m' H' d v → Q v H') (.ok (.lst ds) m1)) (n : H p = none)
    (r : Reps c.K (AL L1) (hide (Bd G L1) H) vs ds) (z : ds.length ≤ sizeLine) : Q (.ref p) (upd H p (.lst vs)) :=
  q _ L1 (Stp.upd n) (E.sok.upd n) _ (MP.outL E s0 n r z)
theorem o_lst {es : List Expr} {l : Es} (ha : PA X es (TAr c W false l)) (hz : l.len ≤ 1000) : PE X (.List es pos) (TEo c W (.lst l)) := by
  refine pe_imp (pe_lst ha) fun σ H Q h => ?_
  obtain ⟨G, L, m, ρ, E, h⟩ := h
  rw [evE] at h
  refine ⟨G, L, m, ρ, E, (PstG.bind h).imp fun ds m1 H1 L1 e1 s1 ok q vs r1 => ⟨by rw [r1.length, evEs_len e1]; exact sz1000 hz, fun p n => ?_⟩⟩
  exact Pst.outL (E.step s1 ok) s1.none q n r1.reps (by rw [evEs_len e1]; exact sz1000 hz)
theorem o_cat (hK : c.K = X.K) (ha : PE X x (TEr c W ba ea)) (hb : PE X y (TEr c W bb eb)) : PE X (.BinOp x .Add y pos) (TEo c W (.cat ea eb)) := by
  refine pe_imp (pe_op op_catL ha hb) fun σ H Q h => ?_
  obtain ⟨G, L, m, ρ, E, h⟩ := h
  rw [evE] at h
  refine ⟨G, L, m, ρ, E, (PstG.bind h).imp fun d m1 H1 L1 e1 s1 ok1 q v r => ?_⟩
  have E1 := E.step s1 ok1
  refine ⟨G, L1, m1, ρ, E1, (PstG.bind q).imp fun d2 m2 H2 La e2 s2 ok2 q2 v2 r2 => ?_⟩
  have E2 := E1.step s2 ok2
  have r' := r.step E1 s2
  cases d with
  | lst ds =>
    cases d2 with
    | lst es =>
      obtain ⟨a, vs, ea, hs, rs, z⟩ := r'.lst
      obtain ⟨a2, vs2, ea2, hs2, rs2, z2⟩ := r2.lst
      have q3 : PstG c W G La σ H2 (fun d m' H' L' => ∀ v, OutQ c.K true G H L' m' H' d v → Q v H') (.opt (if ds.length + es.length ≤ sizeD then some (.lst (ds ++ es)) else none) m2) := q2
      by_cases hz : ds.length + es.length ≤ sizeD
      · rw [if_pos hz] at q3
        exact ⟨a, a2, vs, vs2, ea, ea2, hK ▸ hs, hK ▸ hs2, by rw [rs.length, rs2.length]; exact sd hz, fun p n => Pst.outL E2 (s1.trans s2).none q3 n (rs.append rs2) (by rw [List.length_append]; exact sd hz)⟩
      · rw [if_neg hz] at q3
        exact (show False from q3).elim
    | _ => exact (show False from q2).elim
  | _ => cases d2 <;> exact (show False from q2).elim
theorem flat_rep_len {α : Type} (l : List α) : ∀ k : Nat, (List.replicate k l).flatten.length = l.length * k
  | 0 => by simp
  | k + 1 => by
    rw [List.replicate_succ, List.flatten_cons, List.length_append, flat_rep_len l k, Nat.mul_succ, Nat.add_comm]
theorem o_lrep {es : List Expr} {l : Es} {pos' : Pos} (ha : PA X es (TAr c W false l)) (hz : l.len ≤ 1000) (hb : PE X y (TEr c W bb eb)) : PE X (.BinOp (.List es pos') .Mult y pos) (TEo c W (.lrep l eb)) := by
  refine pe_imp (pe_op op_rep (pe_lst ha) hb) fun σ H Q h => ?_
  obtain ⟨G, L, m, ρ, E, h⟩ := h
  rw [evE] at h
  refine ⟨G, L, m, ρ, E, (PstG.bind h).imp fun ds m1 H1 L1 e1 s1 ok q vs r1 => ⟨by rw [r1.length, evEs_len e1]; exact sz1000 hz, fun p n => ?_⟩⟩
  have E1 := E.step s1 ok
  have nb := E1.nb E1.sok.foot n
  have st : Stp L1 L1 H1 (upd H1 p (.lst vs)) := Stp.upd n
  have E2 := E1.step st (E1.sok.upd n)
  refine ⟨G, L1, m1, ρ, E2, (PstG.bind (q.step st)).imp fun d2 m2 H2 La e2 s2 ok2 q2 v2 r2 => ?_⟩
  cases d2 with
  | int k =>
    have q3 : PstG c W G La σ H2 (fun d m' H' L' => ∀ v, OutQ c.K true G H L' m' H' d v → Q v H') (.opt (if -(2 ^ 63) ≤ k ∧ k < 2 ^ 63 ∧ ds.length * k.toNat ≤ sizeD then some (.lst (List.replicate k.toNat ds).flatten) else none) m2) := q2
    split at q3
    · rename_i hk
      have hl := r1.length
      refine ⟨p, k, vs, rfl, r2.int, s2.keep p _ (fun f => nb (.inr f)) upd_same, hk.1, hk.2.1, by rw [hl]; exact sd hk.2.2, fun p2 n2 => ?_⟩
      exact Pst.outL (E2.step s2 ok2) ((s1.trans st).trans s2).none q3 n2 (reps_rep ((r1.reps.mono st.hid st.al).mono s2.hid s2.al) _) (by rw [flat_rep_len]; exact sd hk.2.2)
    · exact (show False from q3).elim
  | _ => exact (show False from q2).elim
theorem o_comp {bc : Bool} {tg : Expr} {tgt : Tgt} {it : I} {oc : OE} {iter elt : Expr} {ifs : List Expr} {scope : Scope} {own : List (Str × Nat)} (hK : c.K = X.K) (hc : X.calm = true) (hN : X.N.Nodup) (hi : PI X tg iter (TIr c W bc it)) (ok : BlkOk X.N X.env.scope scope own)
    (hv : own.map (·.2) = tgt.slots) (ho : ∀ i ∈ tgt.slots, c.own i = false)
    (hg : ∀ (s : Shared) (H : Hp) (C : Addr) (cl : List (Str × Addr)) (fp : List Addr), PG (X.blk s H scope (compEnvC scope cl C X.env) fp) tg (TGr c.K tgt))
    (ht : ∀ (s : Shared) (H : Hp) (C : Addr) (cl : List (Str × Addr)) (fp : List Addr), PTs (X.blk s H scope (compEnvC scope cl C X.env) fp) ifs (TKr c W0 oc))
    (he : ∀ (s : Shared) (H : Hp) (C : Addr) (cl : List (Str × Addr)) (fp : List Addr), PE (X.blk s H scope (compEnvC scope cl C X.env) fp) elt (TEr c W0 false ea)) (hs : ∀ x, foldedSetIterable iter X.env x = pure x) :
    PE X (.ListComp elt [⟨tg, iter, ifs, 0⟩] scope pos) (TEo c W (.comp tgt it oc ea)) := by
  refine pe_imp (pe_lc hc hN hi ok hg ht he hs) fun σ H Q h => ?_
  obtain ⟨G, L, m, ρ, E, h⟩ := h
  rw [evE] at h
  rw [hv]
  refine ⟨G, L, m, ρ, E, (PstG.bind h).imp fun xs m1 H1 L1 e1 s1 ok1 q J src => fun Dl hD => ?_⟩
  have E1 := E.step s1 ok1
  have q0 : PstG c W G L1 σ H1 (fun d m' H' L' => ∀ v, OutQ c.K true G H L' m' H' d v → Q v H') ((turns (turnF c tgt oc ea ρ) xs m1).calm.bind fun ys m5 => .ok (.lst ys) m5) := q
  cases hys : turns (turnF c tgt oc ea ρ) xs m1 with
  | stuck => rw [hys] at q0; exact (show False from q0).elim
  | err k m2 => rw [hys] at q0; exact (show False from q0).elim
  | ok ys m5 =>
  rw [hys] at q0
  refine comp_core ho E1 src hys Dl hD fun H' L' vs st sk hDl rs z => ?_
  have ng : ¬ G Dl := fun x => by
    obtain ⟨⟨o, h⟩, _⟩ := E1.gok Dl x
    rw [hD] at h
    cases h
  have q1 : ∀ H' L', Stp L1 L' H1 H' → SOk c.K G L' m5 H' → ∀ v, OutQ c.K true G H L' m5 H' (.lst ys) v → Q v H' := q0
  refine q1 H' L' st (sk.own fun a o ng h => ⟨fun g => ng (.inl g), h⟩) _ ?_
  unfold OutQ
  rw [if_pos ⟨rfl, rfl⟩]
  exact ⟨Dl, rfl, s1.none Dl hD, ng, sk, .lst hDl rs z⟩
theorem spO_of {H0 : Hp} {par fn : Nat} {vs : List V} {ds : List D} (hK : c.K = X.K) (E : ESt c.K c.own G L m ρ σ H) (r : Reps c.K (AL L) (hide (Bd G L) H) vs ds) (hl : ds.length = par) (s0 : ∀ a, H a = none → H0 a = none)
    (h : PstG c W G L σ H (fun d m' H' L' => ∀ v, OutQ c.K true G H0 L' m' H' d v → Q v H') (c.cfg.call fn ds m)) : spD X.K c.cls true par (c.cfg.call fn) vs H Q (WE W σ) := by
  refine ⟨G, L, m, ds, E.gok, hK ▸ E.sok, hK ▸ r, hl, ?_⟩
  cases hres : c.cfg.call fn ds m with
  | ok d m' =>
    rw [hres] at h
    exact fun v H' L' st o => h H' L' st (hK ▸ o.weak.1) v (OutQ.back s0 (hK ▸ o))
  | err k m' =>
    rw [hres] at h
    exact fun H' L' st ok => h H' L' st (hK ▸ ok)
  | stuck =>
    rw [hres] at h
    exact h
theorem o_call {n fn : Nat} {f : Addr} {fd : FuncData} {ps : List Str} {nm : Str} {p : Pos} {e : Expr} {es : List Expr} {l : Es} {par : Nat} (hK : c.K = X.K) (F : FnOk X.prog X.w X.K X.mg X.base (L2.CX X.prog X.w) n f fd ps (spD X.K c.cls true par (c.cfg.call fn))) (hr : Room n X.A) (hg : Gl X nm) (hm : X.mg nm = some (.ref f))
    (hk : PySem.W.keepIn X.K (.ref f) = true) (hb : Binds X.K fd ps []) (pa : ∀ σ, PassesAt (L2.CX X.prog X.w) X σ (WE W σ)) (ha : PA X (e :: es) (TAr c W false l)) (hl : l.len = par) (hdb : (nm == ("__debug__" : Str)) = false) (hn : (e :: es).all notStar = true) : PE X (.Call (.Name nm p) (e :: es) [] pos) (TEo c W (.call fn l)) := by
  rw [List.all_cons, Bool.and_eq_true] at hn
  refine pe_imp (pe_callS (E := WE W) F hr hg hm hk hb pa ha hdb (star_of hn.1) (by rw [back_any]; exact star_any hn.2)) fun σ H Q h => ?_
  obtain ⟨G, L, m, ρ, E, h⟩ := h
  rw [evE] at h
  exact ⟨G, L, m, ρ, E, (PstG.bind h).imp fun ds m1 H1 L1 e1 s1 ok1 q vs r1 => spO_of hK (E.step s1 ok1) r1.reps (by rw [evEs_len e1, hl]) s1.none q⟩
theorem o_meth0 {n k nm par : Nat} {apos : Pos} {C f : Addr} {fd : FuncData} {ps : List Str} (hK : c.K = X.K) (hC : ClsA X.K k C) (cl : Cls X.K C) (hm : Meth X.K C (mName nm) f) (F : FnOk X.prog X.w X.K X.mg X.base (L2.CX X.prog X.w) n f fd ps (spD X.K c.cls true par (c.cfg.call (mnum k nm)))) (hb : Binds X.K fd ps []) (hr : Room n X.A) (pa : ∀ σ, PassesAt (L2.CX X.prog X.w) X σ (WE W σ)) (hx : PE X x (TEr c W ba ea)) (hl : 1 = par) {pl : Sem Bool}
    (ht : eval (.Call (.Attribute x (mName nm) apos) [] [] pos) X.env = (do
      let ov ← eval x X.env
      standAt apos.atName
      let (f, first) ← holding [ov] (getMethod ov (mName nm) pl)
      callWith pos f first (backTo pos (starEach [] X.env)) (backToKw pos (keywordEach [] X.env)))) :
    PE X (.Call (.Attribute x (mName nm) apos) [] [] pos) (TEo c W (.meth k nm ea .nil [])) := by
  refine pe_imp (pe_methD0 (E := WE W) (pl := pl) hx pa ht) fun σ H Q h => ?_
  obtain ⟨G, L, m, ρ, E, h⟩ := h
  rw [evE] at h
  refine ⟨G, L, m, ρ, E, (PstG.bind h).imp fun d m1 H1 L1 e1 s1 ok1 h1 v r1 => ?_⟩
  have E1 := E.step s1 ok1
  have h1' : ∃ n fs, d = .obj n ∧ m1[n]? = some (.ins k fs) ∧ PstG c W G L1 σ H1 (fun d m' H' L' => ∀ v, OutQ c.K true G H L' m' H' d v → Q v H') ((evEs c.cfg .nil ρ m1).bind fun ds m2 => c.cfg.call (mnum k nm) (.obj n :: (ds ++ [])) m2) := by
    cases d with
    | obj n =>
      dsimp only at h1
      cases q : m1[n]? with
      | none => rw [q] at h1; exact (show False from h1).elim
      | some i =>
        cases i with
        | box lk d => rw [q] at h1; exact (show False from h1).elim
        | tab => rw [q] at h1; exact (show False from h1).elim
        | ins j fs =>
          rw [q] at h1
          dsimp only at h1
          by_cases e : j = k
          · rw [if_pos e] at h1
            exact ⟨n, fs, rfl, by rw [q, e], h1⟩
          · rw [if_neg e] at h1
            exact (show False from h1).elim
    | _ => exact (show False from h1).elim
  obtain ⟨j, fs, rfl, q, h2⟩ := h1'
  obtain ⟨p, C', dx, vs, hL, hC', hp, rf, al⟩ := E1.sok.ins q
  obtain ⟨p', ev, hL'⟩ := r1.obj
  rw [hL] at hL'
  cases hL'
  have := hC.eq (hK ▸ hC')
  subst this
  refine ⟨p, C, dx, vs, f, fd, n, ps, _, [], [], ev, hp, cl, hm, rf.meth nm, F, hr, hb, .nil, ?_⟩
  rw [ev]
  rw [evEs, Res.bind_ok] at h2
  exact spO_of hK E1 (.cons (.obj hL) .nil) (by show 1 = par; exact hl) s1.none h2
theorem s_ext {apos cpos : Pos} (hK : c.K = X.K) (ho : PE X x (TEr c W ba ea)) (ha : PE X y (TEo c W eb)) (hn : notStar y = true) (hb : notCall0 x = true) (hline : (apos.endLine == cpos.line) = true) :
    PE X (.Call (.Attribute x "extend" apos) [y] [] cpos) (TEr c W false (.ext ea eb)) := by
  refine pe_imp (pe_bm PySem.F.plainAttrs_list PySem.F.slot_list_extend PySem.F.type_list_extend mt_extend ho (pa_cons ha pa_nil (star_of hn)) (base_of hb) (by rw [star_of hn]; rfl) hline (star_of hn) rfl) fun σ H Q h => ?_
  obtain ⟨G, L, m, ρ, E, h⟩ := h
  rw [evE] at h
  refine TEr.bind E h fun d m1 v H1 L1 q1 s1 E1 r1 h1 => ?_
  by_cases hd : okR .ext d m1 = true
  · rw [if_pos hd] at h1
    have hd' : ∃ n l, lkD d m1 = some (n, .lst l) := by
      cases q : lkD d m1 with
      | none => simp [okR, q] at hd
      | some nd =>
        obtain ⟨n, b⟩ := nd
        cases b <;> first | exact ⟨_, _, rfl⟩ | (simp [okR, q] at hd; done)
    obtain ⟨n, l, hlk⟩ := hd'
    obtain ⟨rfl, hb1⟩ := lkD_some hlk
    obtain ⟨p, u, hL, hp, cu, nf⟩ := E1.sok.box hb1
    obtain ⟨p', ev, hL'⟩ := r1.obj
    rw [hL] at hL'
    cases hL'
    have ty : tyV X.K "list" v H1 := by
      rw [ev]
      cases cu with
      | lst rs z => exact .inl ⟨rfl, _, .inl (.inl hp)⟩
    refine ⟨ty, ?_⟩
    have h2 := h1
    refine ⟨G, L1, m1, ρ, E1, (PstG.bind h2).imp fun z m2 H2 La e2 s2 ok2 q2 w o => ?_⟩
    show rExtend v [w] H2 Q
    have q3 : Pst c W false G La σ H2 Q (match lkD (.obj n) m2 with
      | some (n, d) => (match wrD .ext d [z] with
        | some (r, d') => .ok r (m2.set n (.box false d'))
        | none => .stuck)
      | none => .stuck) := q2
    cases e4 : lkD (.obj n) m2 with
    | none => rw [e4] at q3; exact (show False from q3).elim
    | some nb =>
      obtain ⟨n2, b⟩ := nb
      rw [e4] at q3
      have := lkD_n e4
      subst this
      dsimp only at q3
      cases e5 : wrD .ext b [z] with
      | none => rw [e5] at q3; exact (show False from q3).elim
      | some rd =>
        obtain ⟨r, d'⟩ := rd
        rw [e5] at q3
        dsimp only at q3
        obtain ⟨l1, l2, rfl, rfl⟩ : ∃ l1 l2, b = .lst l1 ∧ z = .lst l2 := by
          cases b <;> cases z <;> first | exact ⟨_, _, rfl, rfl⟩ | (cases e5; done)
        have e5' : (if l1.length + l2.length ≤ sizeD then some (D.non, D.lst (l1 ++ l2)) else none) = some (r, d') := e5
        clear e5
        have e5 := e5'
        clear e5'
        split at e5
        · rename_i hz
          cases e5
          unfold OutQ at o
          rw [if_pos ⟨rfl, rfl⟩] at o
          obtain ⟨a, ea2, hn1, ng, sk, cr⟩ := o
          obtain ⟨p3, u3, hL3, hp3, cu3, nf3⟩ := sk.box (lkD_some e4).2
          have hLa := s2.al _ p hL
          rw [show La[n2]? = some p from hLa] at hL3
          cases hL3
          cases cu3 with
          | lst rs3 z3 =>
            cases cr with
            | lst hh rs4 z4 =>
              refine ⟨p, a, _, _, ev, by rw [ea2], hp3, hh, by rw [rs3.length, rs4.length]; exact hz, ?_⟩
              obtain ⟨ok5, st5⟩ := sk.set hLa hp3 nf3 (.box upd_same (.lst (rs3.append rs4) (by rw [List.length_append]; exact hz)))
              exact q3 _ La st5 (ok5.own fun x o nn h => ⟨fun g => nn (.inl g), h⟩) _ (.inl .non)
        · cases e5
  · rw [if_neg hd] at h1
    exact (show False from h1).elim
end
end MP
set_option maxRecDepth 100000
set_option maxHeartbeats 4000000
set_option autoImplicit false
namespace MP
open PySem L2
def OG (F : Addr → Prop) (own : Nat → Bool) (ρ : Env') (σ : L2.St) (a : Addr) : Prop := F a ∨ ∃ (i : Nat) (d : D), own i = true ∧ ρ[i]? = some (some d) ∧ σ[i]? = some (some (.ref a))
structure FOk (K : PySem.W.Frag) (own : Nat → Bool) (F : Addr → Prop) (L0 : Lay) (H0 : Hp) (L : Lay) (m : Mu) (ρ : Env') (σ : L2.St) (H : Hp) : Prop where
  est : ESt K own (OG F own ρ σ) L m ρ σ H
  ent : Stp L0 L H0 H
  frs : ∀ (i : Nat) (d : D) (a : Addr), own i = true → ρ[i]? = some (some d) → σ[i]? = some (some (.ref a)) → H0 a = none
  inj : ∀ (i j : Nat) (d e : D) (a : Addr), own i = true → own j = true → ρ[i]? = some (some d) → ρ[j]? = some (some e) → σ[i]? = some (some (.ref a)) → σ[j]? = some (some (.ref a)) → i = j
  fin : ∀ a, F a → ∃ o, H0 a = some o
structure KG (F : Addr → Prop) (own : Nat → Bool) (L : Lay) (ρ : Env') (σ : L2.St) (H : Hp) (L' : Lay) (ρ' : Env') (σ' : L2.St) (H' : Hp) : Prop where
  sm : Same (hide (Bd (OG F own ρ σ) L) H) (hide (Bd (OG F own ρ' σ') L') H')
  al : ∀ n x, AL L n = some x → AL L' n = some x
  frz : ∀ a o u, H a = some (.frz o u) → H' a = some (.frz o u)
theorem KG.refl {F : Addr → Prop} {own : Nat → Bool} {L : Lay} {ρ : Env'} {σ : L2.St} {H : Hp} : KG F own L ρ σ H L ρ σ H := ⟨fun _ _ h => h, fun _ _ h => h, fun _ _ _ h => h⟩
theorem KG.trans {F : Addr → Prop} {own : Nat → Bool} {L L1 L3 : Lay} {ρ ρ1 ρ2 : Env'} {σ σ1 σ2 : L2.St} {H H1 H2 : Hp} (a : KG F own L ρ σ H L1 ρ1 σ1 H1) (b : KG F own L1 ρ1 σ1 H1 L3 ρ2 σ2 H2) : KG F own L ρ σ H L3 ρ2 σ2 H2 :=
  ⟨fun x o h => b.sm x o (a.sm x o h), fun n x h => b.al n x (a.al n x h), fun x o u h => b.frz x o u (a.frz x o u h)⟩
structure KR (L : Lay) (H : Hp) (L' : Lay) (H' : Hp) : Prop where
  al : ∀ n x, AL L n = some x → AL L' n = some x
  frz : ∀ a o u, H a = some (.frz o u) → H' a = some (.frz o u)
theorem KR.refl {L : Lay} {H : Hp} : KR L H L H := ⟨fun _ _ h => h, fun _ _ _ h => h⟩
theorem KR.trans {L L1 L3 : Lay} {H H1 H2 : Hp} (a : KR L H L1 H1) (b : KR L1 H1 L3 H2) : KR L H L3 H2 := ⟨fun n x h => b.al n x (a.al n x h), fun x o u h => b.frz x o u (a.frz x o u h)⟩
theorem KG.kr {F : Addr → Prop} {own : Nat → Bool} {L L' : Lay} {ρ ρ' : Env'} {σ σ' : L2.St} {H H' : Hp} (k : KG F own L ρ σ H L' ρ' σ' H') : KR L H L' H' := ⟨k.al, k.frz⟩
theorem Stp.kr {L L' : Lay} {H H' : Hp} (s : Stp L L' H H') : KR L H L' H' := ⟨s.al, s.frz⟩
structure Fr where
  F : Addr → Prop
  L0 : Lay
  H0 : Hp
  /-- what it gives is new -/
  fr : Bool
abbrev FO (c : Cn) (f : Fr) := FOk c.K c.own f.F f.L0 f.H0
def PstS (c : Cn) (W : WX) (f : Fr) (L : Lay) (ρ : Env') (σ : L2.St) (H : Hp) (D : Ends) (r : Fl) : Prop := match r with
  | .nxt ρ' m' => ∀ σ' H' L', FO c f L' m' ρ' σ' H' → KG f.F c.own L ρ σ H L' ρ' σ' H' → D.nx σ' H'
  | .ret d m' => ∀ v H' L', Stp f.L0 L' f.H0 H' → KR L H L' H' → OutQ c.K f.fr f.F f.H0 L' m' H' d v → D.rt v H'
  | .err k ρ' m' => ∀ σ' H' L', FO c f L' m' ρ' σ' H' → KG f.F c.own L ρ σ H L' ρ' σ' H' → W (c.cls k) none σ' H'
  | .stuck => False
def TSr (c : Cn) (W : WX) (f : Fr) (s : MP.St) : TS := fun D σ H => ∃ L m ρ, FO c f L m ρ σ H ∧ PstS c W f L ρ σ H D (evS c.cfg s ρ m)
def TSsr (c : Cn) (W : WX) (f : Fr) (s : MP.Sts) : TS := fun D σ H => ∃ L m ρ, FO c f L m ρ σ H ∧ PstS c W f L ρ σ H D (evSs c.cfg s ρ m)
section
variable {c : Cn} {W : WX} {f : Fr} {L L' : Lay} {m m' : Mu} {ρ ρ' : Env'} {σ σ' : L2.St} {H H' : Hp} {Z Z' : Ends}
theorem OG.congr {F : Addr → Prop} {own : Nat → Bool} (h : ∀ i, own i = true → ρ'[i]? = ρ[i]? ∧ σ'[i]? = σ[i]?) : OG F own ρ' σ' = OG F own ρ σ := by
  funext a
  apply propext
  unfold OG
  constructor
  · rintro (h1 | ⟨i, d, h1, h2, h3⟩)
    · exact .inl h1
    · rw [(h i h1).1] at h2
      rw [(h i h1).2] at h3
      exact .inr ⟨i, d, h1, h2, h3⟩
  · rintro (h1 | ⟨i, d, h1, h2, h3⟩)
    · exact .inl h1
    · rw [← (h i h1).1] at h2
      rw [← (h i h1).2] at h3
      exact .inr ⟨i, d, h1, h2, h3⟩
theorem FOk.step (O : FO c f L m ρ σ H) (s : Stp L L' H H') (k : SOk c.K (OG f.F c.own ρ σ) L' m' H') : FO c f L' m' ρ σ H' ∧ KG f.F c.own L ρ σ H L' ρ σ H' :=
  ⟨⟨O.est.step s k, O.ent.trans s, O.frs, O.inj, O.fin⟩, ⟨s.hid, s.al, s.frz⟩⟩
theorem FOk.re (O : FO c f L m ρ σ H) (E : ESt c.K c.own (OG f.F c.own ρ σ) L m ρ' σ' H) (h : ∀ i, c.own i = true → ρ'[i]? = ρ[i]? ∧ σ'[i]? = σ[i]?) : FO c f L m ρ' σ' H ∧ KG f.F c.own L ρ σ H L ρ' σ' H := by
  have e := OG.congr (F := f.F) h
  refine ⟨⟨by rw [e]; exact E, O.ent, fun i d a h1 h2 h3 => ?_, fun i j d e a h1 h2 h3 h4 h5 h6 => ?_, O.fin⟩, ⟨by rw [e]; exact fun _ _ h => h, fun _ _ h => h, fun _ _ _ h => h⟩⟩
  · rw [(h i h1).1] at h2
    rw [(h i h1).2] at h3
    exact O.frs i d a h1 h2 h3
  · rw [(h i h1).1] at h3
    rw [(h j h2).1] at h4
    rw [(h i h1).2] at h5
    rw [(h j h2).2] at h6
    exact O.inj i j d e a h1 h2 h3 h4 h5 h6
theorem PstS.kg {r : Fl} (h : PstS c W f L ρ σ H Z r) (k : KG f.F c.own L ρ σ H L' ρ' σ' H') : PstS c W f L' ρ' σ' H' Z r := by
  cases r with
  | nxt ρ2 m2 => exact fun σ2 H2 L3 O k2 => h σ2 H2 L3 O (k.trans k2)
  | ret d m2 => exact fun v H2 L3 s k2 o => h v H2 L3 s (k.kr.trans k2) o
  | err j ρ2 m2 => exact fun σ2 H2 L3 O k2 => h σ2 H2 L3 O (k.trans k2)
  | stuck => exact h
theorem PstS.ex {α : Type} {r : Res α} {g : α → Mu → Fl} (O : FO c f L m ρ σ H) (h : PstS c W f L ρ σ H Z (r.fl ρ g)) : PstG c W (OG f.F c.own ρ σ) L σ H (fun d m' H' L' => PstS c W f L' ρ σ H' Z (g d m')) r := by
  cases r with
  | ok d m' => exact fun H' L' s k => h.kg (O.step s k).2
  | err j m' => exact fun H' L' s k => h σ H' L' (O.step s k).1 (O.step s k).2
  | stuck => exact h
theorem FOk.out (O : FO c f L m ρ σ H) : Same (hide (Bd (OG f.F c.own ρ σ) L) H) (hide (Bd f.F L) H) := hide_same fun a o nb h => ⟨fun q => nb (q.elim (fun q => .inl (.inl q)) .inr), h⟩
theorem FOk.sok (O : FO c f L m ρ σ H) : SOk c.K f.F L m H := O.est.sok.own fun a o n h => ⟨fun q => n (.inl q), h⟩
theorem FOk.mine {i : Nat} {p : Addr} {o : HO} {d : D} (O : FO c f L m ρ σ H) (ho : c.own i = true) (hi : i < ρ.length) (n : H p = none)
    (cr : CR c.K (AL L) (hide (Bd (OG f.F c.own (ρ.set i (some d)) (σ.set i (some (.ref p)))) L) (upd H p o)) (upd H p o) p d) :
    FO c f L m (ρ.set i (some d)) (σ.set i (some (.ref p))) (upd H p o) ∧ KG f.F c.own L ρ σ H L (ρ.set i (some d)) (σ.set i (some (.ref p))) (upd H p o) := by
  have E := O.est
  have nb := E.nb E.sok.foot n
  have np : ∀ a u, H a = some u → a ≠ p := fun a u h => ne_of_none h n
  have hσ : i < σ.length := by rw [← E.len]; exact hi
  have gi : (ρ.set i (some d))[i]? = some (some d) := by rw [List.getElem?_set_self hi]
  have gs : (σ.set i (some (V.ref p)))[i]? = some (some (.ref p)) := by rw [List.getElem?_set_self hσ]
  have old : ∀ a, OG f.F c.own (ρ.set i (some d)) (σ.set i (some (.ref p))) a → a = p ∨ OG f.F c.own ρ σ a := fun a h => by
    rcases h with h | ⟨j, e, h1, h2, h3⟩
    · exact .inr (.inl h)
    · by_cases hj : i = j
      · subst hj
        rw [gs] at h3
        cases h3
        exact .inl rfl
      · rw [List.getElem?_set_ne hj] at h2 h3
        exact .inr (.inr ⟨j, e, h1, h2, h3⟩)
  have sm : Same (hide (Bd (OG f.F c.own ρ σ) L) H) (hide (Bd (OG f.F c.own (ρ.set i (some d)) (σ.set i (some (.ref p)))) L) (upd H p o)) := hide_same fun a u hb h => ⟨fun q => by
    rcases q with q | q
    · rcases old a q with q | q
      · exact np a u h q
      · exact hb (.inl q)
    · exact hb (.inr q), by rw [upd_ne (np a u h)]; exact h⟩
  have h0 : f.H0 p = none := by
    cases q : f.H0 p with
    | none => rfl
    | some u =>
      obtain ⟨w, hw⟩ := O.ent.stay p u q
      rw [n] at hw
      cases hw
  refine ⟨⟨⟨fun a g => ?_, ?_, by rw [List.length_set, List.length_set, E.len], fun j e hj => ?_⟩, O.ent.trans (Stp.upd n), fun j e a h1 h2 h3 => ?_, fun j k e g a h1 h2 h3 h4 h5 h6 => ?_, O.fin⟩, ⟨sm, fun _ _ h => h, fun x q u h => by rw [upd_ne (np x _ h)]; exact h⟩⟩
  · rcases old a g with q | q
    · subst q
      exact ⟨⟨o, upd_same⟩, fun q => nb (.inr q)⟩
    · obtain ⟨⟨u, h⟩, nf⟩ := E.gok a q
      exact ⟨⟨u, by rw [upd_ne (np a u h)]; exact h⟩, nf⟩
  · refine E.sok.own fun a u ng h => ⟨fun q => ?_, by rw [upd_ne (np a u h)]; exact h⟩
    rcases old a q with q | q
    · exact np a u h q
    · exact ng q
  · by_cases hij : i = j
    · subst hij
      rw [gi] at hj
      cases hj
      exact ⟨_, gs, fun q => (by rw [ho] at q; cases q), fun _ => ⟨p, rfl, .inr ⟨i, d, ho, gi, gs⟩, cr⟩⟩
    · rw [List.getElem?_set_ne hij] at hj
      obtain ⟨v, h1, h2, h3⟩ := E.slot j e hj
      refine ⟨v, by rw [List.getElem?_set_ne hij]; exact h1, fun q => (h2 q).mono sm fun _ _ h => h, fun q => ?_⟩
      obtain ⟨a, e1, g, cr2⟩ := h3 q
      refine ⟨a, e1, .inr ⟨j, e, q, by rw [List.getElem?_set_ne hij]; exact hj, by rw [List.getElem?_set_ne hij, h1, e1]⟩, cr2.mono sm (fun _ _ h => h) fun u h => by rw [upd_ne (np a u h)]; exact h⟩
  · by_cases hij : i = j
    · subst hij
      rw [gs] at h3
      cases h3
      exact h0
    · rw [List.getElem?_set_ne hij] at h2 h3
      exact O.frs j e a h1 h2 h3
  · have noP : ∀ k e, c.own k = true → ρ[k]? = some (some e) → σ[k]? = some (some (.ref p)) → False := fun k e h1 h2 h3 => by
      obtain ⟨v, q1, _, q3⟩ := E.slot k e h2
      obtain ⟨a, e1, g, _⟩ := q3 h1
      rw [q1, e1] at h3
      cases h3
      obtain ⟨⟨u, h⟩, _⟩ := E.gok _ g
      rw [n] at h
      cases h
    by_cases hj : i = j
    · by_cases hk : i = k
      · rw [← hj, ← hk]
      · subst hj
        rw [gs] at h5
        cases h5
        rw [List.getElem?_set_ne hk] at h4 h6
        exact (noP k g h2 h4 h6).elim
    · rw [List.getElem?_set_ne hj] at h3 h5
      by_cases hk : i = k
      · subst hk
        rw [gs] at h6
        cases h6
        exact (noP j e h1 h3 h5).elim
      · rw [List.getElem?_set_ne hk] at h4 h6
        exact O.inj j k e g a h1 h2 h3 h4 h5 h6
theorem FOk.wrote {i : Nat} {a : Addr} {o : HO} {d d' : D} (O : FO c f L m ρ σ H) (ho : c.own i = true) (hr : ρ[i]? = some (some d)) (hs : σ[i]? = some (some (.ref a)))
    (cr : CR c.K (AL L) (hide (Bd (OG f.F c.own ρ σ) L) H) (upd H a o) a d') :
    FO c f L m (ρ.set i (some d')) σ (upd H a o) ∧ KG f.F c.own L ρ σ H L (ρ.set i (some d')) σ (upd H a o) := by
  have E := O.est
  have hi : i < ρ.length := (List.getElem?_eq_some_iff.mp hr).1
  have gi : (ρ.set i (some d'))[i]? = some (some d') := by rw [List.getElem?_set_self hi]
  have ga : OG f.F c.own ρ σ a := .inr ⟨i, d, ho, hr, hs⟩
  have eG : OG f.F c.own (ρ.set i (some d')) σ = OG f.F c.own ρ σ := by
    funext x
    apply propext
    unfold OG
    constructor
    · rintro (h1 | ⟨j, e, h1, h2, h3⟩)
      · exact .inl h1
      · by_cases hij : i = j
        · subst hij
          exact .inr ⟨i, d, ho, hr, h3⟩
        · rw [List.getElem?_set_ne hij] at h2
          exact .inr ⟨j, e, h1, h2, h3⟩
    · rintro (h1 | ⟨j, e, h1, h2, h3⟩)
      · exact .inl h1
      · by_cases hij : i = j
        · subst hij
          exact .inr ⟨i, d', ho, gi, h3⟩
        · exact .inr ⟨j, e, h1, by rw [List.getElem?_set_ne hij]; exact h2, h3⟩
  have sm : Same (hide (Bd (OG f.F c.own ρ σ) L) H) (hide (Bd (OG f.F c.own ρ σ) L) (upd H a o)) := hide_same fun x u hb h => ⟨hb, by
    rw [upd_ne (fun q => hb (.inl (by rw [q]; exact ga)))]
    exact h⟩
  refine ⟨⟨⟨fun x g => ?_, ?_, by rw [List.length_set, E.len], fun j e hj => ?_⟩, ?_, fun j e x h1 h2 h3 => ?_, fun j k e g x h1 h2 h3 h4 h5 h6 => ?_, O.fin⟩, ⟨by rw [eG]; exact sm, fun _ _ h => h, fun x q u h => by
    rw [upd_ne (fun z => ?_)]
    · exact h
    · subst z
      obtain ⟨v, h1, _, h3⟩ := E.slot i d hr
      obtain ⟨y, e1, _, cr2⟩ := h3 ho
      rw [h1, e1] at hs
      cases hs
      cases cr2 with
      | lst h4 _ _ => rw [h] at h4; cases h4
      | dic h4 _ _ => rw [h] at h4; cases h4⟩⟩
  · rw [eG] at g
    obtain ⟨⟨u, h⟩, nf⟩ := E.gok x g
    by_cases hx : x = a
    · subst hx
      exact ⟨⟨o, upd_same⟩, nf⟩
    · exact ⟨⟨u, by rw [upd_ne hx]; exact h⟩, nf⟩
  · rw [eG]
    exact E.sok.own fun x u ng h => ⟨ng, by rw [upd_ne (fun q => ng (by rw [q]; exact ga))]; exact h⟩
  · rw [eG]
    by_cases hij : i = j
    · subst hij
      rw [gi] at hj
      cases hj
      refine ⟨_, hs, fun q => (by rw [ho] at q; cases q), fun _ => ⟨a, rfl, ga, cr.mono sm (fun _ _ h => h) fun _ h => h⟩⟩
    · rw [List.getElem?_set_ne hij] at hj
      obtain ⟨v, h1, h2, h3⟩ := E.slot j e hj
      refine ⟨v, h1, fun q => (h2 q).mono sm fun _ _ h => h, fun q => ?_⟩
      obtain ⟨x, e1, g, cr2⟩ := h3 q
      have na : x ≠ a := fun z => hij (O.inj i j d e a ho q hr hj hs (by rw [h1, e1, z]))
      exact ⟨x, e1, g, cr2.mono sm (fun _ _ h => h) fun u h => by rw [upd_ne na]; exact h⟩
  · have hz : f.H0 a = none := O.frs i d a ho hr hs
    refine ⟨fun x u nf h => ?_, O.ent.new, fun x u h => ?_, O.ent.al, fun x q u h => ?_⟩
    · rw [upd_ne (ne_of_none h hz)]
      exact O.ent.keep x u nf h
    · rw [upd_ne (ne_of_none h hz)]
      exact O.ent.stay x u h
    · rw [upd_ne (ne_of_none h hz)]
      exact O.ent.frz x q u h
  · by_cases hij : i = j
    · subst hij
      exact O.frs i d x ho hr h3
    · rw [List.getElem?_set_ne hij] at h2
      exact O.frs j e x h1 h2 h3
  · have old : ∀ (j : Nat) (e : D), (ρ.set i (some d'))[j]? = some (some e) → ∃ e', ρ[j]? = some (some e') := fun j e h => by
      by_cases hij : i = j
      · subst hij
        exact ⟨d, hr⟩
      · rw [List.getElem?_set_ne hij] at h
        exact ⟨e, h⟩
    obtain ⟨e', q1⟩ := old j e h3
    obtain ⟨g', q2⟩ := old k g h4
    exact O.inj j k e' g' x h1 h2 q1 q2 h5 h6
end
end MP
set_option maxRecDepth 100000
set_option maxHeartbeats 4000000
set_option autoImplicit false
namespace MP
open PySem L2
section
variable {X : Cx} {c : Cn} {W : WX} {f : Fr} {bb : Bool} {ea eb ec : E} {x y z : Expr} {pos : Pos} {st : Stmt}
theorem ps_imp {t t' : TS} (h : PS X st t) (i : ∀ Z σ H, t' Z σ H → t Z σ H) : PS X st t' := ⟨fun pins s σ H Z I q => h.run pins s σ H Z I (i Z σ H q)⟩
theorem pss_imp {sts : List Stmt} {t t' : TS} (h : PSs X sts t) (i : ∀ Z σ H, t' Z σ H → t Z σ H) : PSs X sts t' := ⟨fun pins s σ H Z I q => h.run pins s σ H Z I (i Z σ H q)⟩
theorem s_snil : PSs X [] (TSsr c W f .nil) := pss_imp pss_nil fun Z σ H h => by
  obtain ⟨L, m, ρ, O, h⟩ := h
  rw [evSs] at h
  exact h σ H L O KG.refl
theorem s_scons {sts : List Stmt} {s : MP.St} {l : MP.Sts} (h1 : PS X st (TSr c W f s)) (h2 : PSs X sts (TSsr c W f l)) : PSs X (st :: sts) (TSsr c W f (.cons s l)) := pss_imp (pss_cons h1 h2) fun Z σ H h => by
  obtain ⟨L, m, ρ, O, h⟩ := h
  rw [evSs] at h
  refine ⟨L, m, ρ, O, ?_⟩
  revert h
  cases evS c.cfg s ρ m with
  | nxt ρ1 m1 => exact fun h σ' H' L' O' k => ⟨L', m1, ρ1, O', h.kg k⟩
  | ret d m1 => exact fun h => h
  | err k ρ1 m1 => exact fun h => h
  | stuck => exact fun h => h
theorem s_pas : PS X (.Pass pos) (TSr c W f .pas) := ps_imp ps_pass fun Z σ H h => by
  obtain ⟨L, m, ρ, O, h⟩ := h
  rw [evS] at h
  exact h σ H L O KG.refl
theorem s_asg {tg : Tgt} (ho : ∀ i ∈ tg.slots, c.own i = false) (hp : PS X st (tAsg (TEr c W false ea) (TGr c.K tg))) : PS X st (TSr c W f (.asg tg ea)) := ps_imp hp fun Z σ H h => by
  obtain ⟨L, m, ρ, O, h⟩ := h
  rw [evS] at h
  refine ⟨_, L, m, ρ, O.est, (PstS.ex O h).imp fun d m1 H1 L1 e s1 ok1 q v r => ?_⟩
  obtain ⟨O1, k1⟩ := O.step s1 ok1
  cases hb : bindT tg d ρ with
  | none =>
    rw [hb] at q
    exact (show False from q).elim
  | some ρ' =>
    rw [hb] at q
    refine O1.est.bind r.rep ho hb fun σ' E' _ hk => ?_
    obtain ⟨O2, k2⟩ := O1.re E' fun i hi => hk i fun q => by
      rw [ho i q] at hi
      cases hi
    exact q σ' H1 L1 O2 k2
theorem s_asgU {l : List Nat} (ho : ∀ i ∈ l, c.own i = false) (hp : PS X st (tAsg (TEr c W false ea) (TGr c.K (.many l)))) : PS X st (TSr c W f (.asgU l ea)) := ps_imp hp fun Z σ H h => by
  obtain ⟨L, m, ρ, O, h⟩ := h
  rw [evS] at h
  refine ⟨_, L, m, ρ, O.est, (PstS.ex O h).imp fun d m1 H1 L1 e s1 ok1 q v r => ?_⟩
  obtain ⟨O1, k1⟩ := O.step s1 ok1
  cases hb : bindT (.many l) (dr m1 d) ρ with
  | none =>
    rw [hb] at q
    exact (show False from q).elim
  | some ρ' =>
    rw [hb] at q
    refine O1.est.bindU r ho hb fun σ' E' _ hk => ?_
    obtain ⟨O2, k2⟩ := O1.re E' fun i hi => hk i fun q => by
      rw [ho i q] at hi
      cases hi
    exact q σ' H1 L1 O2 k2
theorem own_sm {i : Nat} {p : Addr} {d : D} {L : Lay} {m : Mu} {ρ : Env'} {σ : L2.St} {H : Hp} {o : HO} (O : FO c f L m ρ σ H) (hi : i < ρ.length) (n : H p = none) : Same (hide (Bd (OG f.F c.own ρ σ) L) H) (hide (Bd (OG f.F c.own (ρ.set i (some d)) (σ.set i (some (.ref p)))) L) (upd H p o)) := by
  have np : ∀ a u, H a = some u → a ≠ p := fun a u h => ne_of_none h n
  refine hide_same fun a u hb h => ⟨fun q => ?_, by rw [upd_ne (np a u h)]; exact h⟩
  rcases q with (q | ⟨j, e2, h1, h2, h3⟩) | q
  · exact hb (.inl (.inl q))
  · by_cases hj : i = j
    · subst hj
      rw [List.getElem?_set_self (by rw [← O.est.len]; exact hi)] at h3
      cases h3
      exact np _ u h rfl
    · rw [List.getElem?_set_ne hj] at h2 h3
      exact hb (.inl (.inr ⟨j, e2, h1, h2, h3⟩))
  · exact hb (.inr q)
theorem s_ownL {i : Nat} {es : List Expr} {l : Es} (ho : c.own i = true) (hz : l.len ≤ 1000) (hp : PS X st (tAsg (tLst (TAr c W false l)) (gName i))) : PS X st (TSr c W f (.own i (.lst l))) := ps_imp hp fun Z σ H h => by
  obtain ⟨L, m, ρ, O, h⟩ := h
  rw [evS, evE] at h
  have q := PstG.bind (PstS.ex O h)
  refine ⟨_, L, m, ρ, O.est, q.imp fun ds m1 H1 L1 e s1 ok1 q vs r => ⟨by rw [r.length, evEs_len e]; exact sz1000 hz, fun p n => ?_⟩⟩
  obtain ⟨O1, k1⟩ := O.step s1 ok1
  have q1 : PstS c W f L1 ρ σ H1 Z (if i < ρ.length then .nxt (ρ.set i (some (.lst ds))) m1 else .stuck) := q H1 L1 (Stp.refl _ _) ok1
  by_cases hi : i < ρ.length
  · rw [if_pos hi] at q1
    obtain ⟨O2, k2⟩ := O1.mine (o := .lst vs) ho hi n (.lst upd_same (r.reps.mono (own_sm O1 hi n) fun _ _ h => h) (by rw [evEs_len e]; exact sz1000 hz))
    exact q1 _ _ L1 O2 k2
  · rw [if_neg hi] at q1
    exact (show False from q1).elim
theorem s_ownCat {i j : Nat} {l : Es} (hK : c.K = X.K) (ho : c.own i = true) (hp : PS X st (tAsg (tOp (rCatL X.K) (TEr c W true (.var j)) (TEr c W false (.lst l))) (gName i))) : PS X st (TSr c W f (.own i (.bin .add (.var j) (.lst l)))) := ps_imp hp fun Z σ H h => by
  obtain ⟨L, m, ρ, O, h⟩ := h
  rw [evS, evE] at h
  have q := PstG.bind (PstS.ex O h)
  refine ⟨_, L, m, ρ, O.est, q.imp fun d m1 H1 L1 e s1 ok1 q v r => ?_⟩
  have E1 := O.est.step s1 ok1
  refine ⟨_, L1, m1, ρ, E1, (PstG.bind q).imp fun d2 m2 H2 La e2 s2 ok2 q2 v2 r2 => ?_⟩
  have r' := r.step E1 s2
  obtain ⟨O2, k2⟩ := O.step (s1.trans s2) ok2
  obtain ⟨es, rfl⟩ : ∃ es, d2 = .lst es := by
    rw [evE] at e2
    obtain ⟨a, m', _, e3⟩ := Res.bind_eq_ok e2
    cases e3
    exact ⟨_, rfl⟩
  cases d with
  | lst ds =>
    obtain ⟨a, vs, ea, hs, rs, z⟩ := r'.lst
    obtain ⟨a2, vs2, ea2, hs2, rs2, z2⟩ := r2.lst
    have q3 : PstG c W (OG f.F c.own ρ σ) La σ H2 (fun d m' H' L' => PstS c W f L' ρ σ H' Z (if i < ρ.length then .nxt (ρ.set i (some d)) m' else .stuck)) (.opt (if ds.length + es.length ≤ sizeD then some (.lst (ds ++ es)) else none) m2) := q2
    by_cases hz : ds.length + es.length ≤ sizeD
    · rw [if_pos hz] at q3
      have q4 : PstS c W f La ρ σ H2 Z (if i < ρ.length then .nxt (ρ.set i (some (.lst (ds ++ es)))) m2 else .stuck) := q3 H2 La (Stp.refl _ _) ok2
      refine ⟨a, a2, vs, vs2, ea, ea2, hK ▸ hs, hK ▸ hs2, by rw [rs.length, rs2.length]; exact sd hz, fun p n => ?_⟩
      by_cases hi : i < ρ.length
      · rw [if_pos hi] at q4
        obtain ⟨O3, k3⟩ := O2.mine (o := .lst (vs ++ vs2)) ho hi n (.lst upd_same ((rs.append rs2).mono (own_sm O2 hi n) fun _ _ h => h) (by rw [List.length_append]; exact sd hz))
        exact q4 _ _ La O3 k3
      · rw [if_neg hi] at q4
        exact (show False from q4).elim
    · rw [if_neg hz] at q3
      exact (show False from q3).elim
  | _ => exact (show False from q2).elim
theorem s_ownD {i : Nat} (ho : c.own i = true) (hp : PS X st (tAsg tDNewK (gName i))) : PS X st (TSr c W f (.own i .dic0)) := ps_imp hp fun Z σ H h => by
  obtain ⟨L, m, ρ, O, h⟩ := h
  rw [evS, evE] at h
  intro p n
  have q1 : PstS c W f L ρ σ H Z (if i < ρ.length then .nxt (ρ.set i (some (.dic []))) m else .stuck) := h
  by_cases hi : i < ρ.length
  · rw [if_pos hi] at q1
    obtain ⟨O2, k2⟩ := O.mine (o := .dK []) ho hi n (.dic upd_same .nil (Nat.zero_le _))
    exact q1 _ _ L O2 k2
  · rw [if_neg hi] at q1
    exact (show False from q1).elim
theorem s_aug {i : Nat} {o : BOp} {n : Str} {pos' : Pos} (hi : c.own i = false) (hN : X.N.Nodup) (hx : X.N[i]? = some n) (hl : Loc X.env.scope n) (hf : X.fn n = true ∨ X.env.scope.names.lookup n = some .local) (ha : PE X x (TEr c W false ea)) :
    PS X (.AugAssign (.Name n pos') (opOf o) x pos) (TSr c W f (.aug i o ea)) := ⟨fun pins s σ H Z I h => by
  obtain ⟨L, m, ρ, O, h⟩ := h
  rw [evS] at h
  cases hr : ρ[i]? with
  | none => rw [hr] at h; exact (show False from h).elim
  | some od =>
  cases od with
  | none => rw [hr] at h; exact (show False from h).elim
  | some xd =>
  rw [hr] at h
  obtain ⟨v, h1, h2, _⟩ := O.est.slot i _ hr
  have rv : RB c.K false (OG f.F c.own ρ σ) L H v xd := .inl (h2 hi)
  have go : ∀ (ti : TIp), PIp X (opOf o) ti → (∀ d m1, evE c.cfg ea ρ m = .ok d m1 → ∀ (L1 : Lay) (H1 : Hp) (w : V), FO c f L1 m1 ρ σ H1 → RB c.K false (OG f.F c.own ρ σ) L1 H1 w d → PstS c W f L1 ρ σ H1 Z (match augD o xd d with
      | some z => .nxt (ρ.set i (some z)) m1
      | none => .stuck) → ti v w H1 fun z H2 => Z.nx (σ.set i (some z)) H2) → wpAny (model X.prog X.w) X.A (exec (.AugAssign (.Name n pos') (opOf o) x pos) X.env) (SP X pins Z) X.xe s := fun ti ht k => by
    refine (ps_aug hN hx hl ha ht hf).run pins s σ H Z I ⟨v, h1, _, L, m, ρ, O.est, (PstS.ex O h).imp fun d m1 H1 L1 e s1 ok1 q w r => ?_⟩
    exact k d m1 e L1 H1 w (O.step s1 ok1).1 r q
  cases he : evE c.cfg ea ρ m with
  | stuck => rw [he] at h; exact (show False from h).elim
  | err k m1 => exact go (fun _ _ _ _ => False) (fun _ _ _ _ _ _ _ _ _ _ _ _ h => h.elim) fun d m1 e => by rw [he] at e; cases e
  | ok yd m1 =>
    cases hz : augD o xd yd with
    | none =>
      refine go (fun _ _ _ _ => False) (fun _ _ _ _ _ _ _ _ _ _ _ _ h => h.elim) fun d m2 e L1 H1 w O1 r q => ?_
      rw [he] at e
      cases e
      rw [hz] at q
      exact (show False from q).elim
    | some z =>
      have fin : ∀ (g : Int → Int → Int) (a b : Int), xd = .int a → yd = .int b → z = .int (g a b) → PIp X (opOf o) (rI0 fun i j => .int (g i j)) → wpAny (model X.prog X.w) X.A (exec (.AugAssign (.Name n pos') (opOf o) x pos) X.env) (SP X pins Z) X.xe s := fun g a b e1 e2 e3 hop => by
        refine go _ hop fun d m2 e L1 H1 w O1 r q => ?_
        rw [he] at e
        cases e
        rw [hz] at q
        subst e1 e2 e3
        refine ⟨a, b, rv.int, r.int, ?_⟩
        have E2 := O1.est.set (d := .int (g a b)) hi (.int (g a b))
        obtain ⟨O2, k2⟩ := O1.re E2 fun j hj => by
          have hij : i ≠ j := fun e => by rw [e, hj] at hi; cases hi
          exact ⟨List.getElem?_set_ne hij, List.getElem?_set_ne hij⟩
        exact q _ H1 L1 O2 k2
      unfold augD at hz
      split at hz
      · cases hz
        exact fin (fun a b => a + b) _ _ rfl rfl rfl iop_add
      · cases hz
        exact fin (fun a b => a - b) _ _ rfl rfl rfl iop_sub
      · cases hz⟩
theorem s_drop (ha : PE X x (TEr c W bb ea)) (hs : swapsWith x none pos.line X.env = pure false) : PS X (.Expr x pos) (TSr c W f (.drop ea)) := ps_imp (ps_expr ha hs) fun Z σ H h => by
  obtain ⟨L, m, ρ, O, h⟩ := h
  rw [evS] at h
  refine ⟨_, L, m, ρ, O.est, (PstS.ex O h).imp fun d m1 H1 L1 e s1 ok1 q v r => ?_⟩
  obtain ⟨O1, k1⟩ := O.step s1 ok1
  exact q σ H1 L1 O1 KG.refl
theorem s_ret (hf : f.fr = false) (ha : PE X x (TEr c W false ea)) : PS X (.Return (some x) pos) (TSr c W f (.ret ea)) := ps_imp (ps_ret ha) fun Z σ H h => by
  obtain ⟨L, m, ρ, O, h⟩ := h
  rw [evS] at h
  refine ⟨_, L, m, ρ, O.est, (PstS.ex O h).imp fun d m1 H1 L1 e s1 ok1 q v r => ?_⟩
  obtain ⟨O1, k1⟩ := O.step s1 ok1
  exact q v H1 L1 O1.ent KR.refl (.of (.inl hf) O1.sok (r.rep.mono O1.out fun _ _ h => h))
theorem s_retN : PS X (.Return none pos) (TSr c W f .retN) := ps_imp ps_retN fun Z σ H h => by
  obtain ⟨L, m, ρ, O, h⟩ := h
  rw [evS] at h
  exact h _ H L O.ent KR.refl (.of (.inr rfl) O.sok .non)
theorem s_retOwn {i : Nat} (ho : c.own i = true) (ha : PE X x (tVar i)) : PS X (.Return (some x) pos) (TSr c W f (.ret (.var i))) := ps_imp (ps_ret ha) fun Z σ H h => by
  obtain ⟨L, m, ρ, O, h⟩ := h
  rw [evS, evE] at h
  cases hr : ρ[i]? with
  | none => rw [hr] at h; exact (show False from h).elim
  | some od =>
    cases od with
    | none => rw [hr] at h; exact (show False from h).elim
    | some d =>
      rw [hr] at h
      obtain ⟨v, h1, _, h3⟩ := O.est.slot i d hr
      obtain ⟨a, e, g, cr⟩ := h3 ho
      subst e
      refine ⟨_, h1, ?_⟩
      have q : ∀ v H' L', Stp f.L0 L' f.H0 H' → KR L H L' H' → OutQ c.K f.fr f.F f.H0 L' m H' d v → Z.rt v H' := h
      have nF : ¬ f.F a := fun z => by
        obtain ⟨o, h⟩ := O.fin a z
        rw [O.frs i d a ho hr h1] at h
        cases h
      have sub : ∀ x, f.F x ∨ x = a → OG f.F c.own ρ σ x := fun x z => z.elim .inl fun e => by rw [e]; exact g
      have sm : Same (hide (Bd (OG f.F c.own ρ σ) L) H) (hide (Bd (fun x => f.F x ∨ x = a) L) H) := hide_same fun x o nb h => ⟨fun z => nb (z.elim (fun z => .inl (sub x z)) .inr), h⟩
      refine q _ H L O.ent KR.refl ?_
      have fresh : OutQ c.K true f.F f.H0 L m H d (.ref a) := by
        unfold OutQ
        have hb : isBoxD d = true := by cases cr <;> rfl
        rw [if_pos ⟨rfl, hb⟩]
        exact ⟨a, rfl, O.frs i d a ho hr h1, nF, O.est.sok.own fun x o n h => ⟨fun z => n (sub x z), h⟩, cr.mono sm (fun _ _ h => h) fun _ h => h⟩
      cases hf : f.fr with
      | true => exact fresh
      | false => exact .of (.inl rfl) fresh.weak.1 fresh.weak.2
theorem s_ifs {a b : List Stmt} {la lb : MP.Sts} (hc : PT X z (TTr c W ec)) (ha : PSs X a (TSsr c W f la)) (hb : PSs X b (TSsr c W f lb)) : PS X (.If z a b pos) (TSr c W f (.ifs ec la lb)) := ps_imp (ps_if hc ha hb) fun Z σ H h => by
  obtain ⟨L, m, ρ, O, h⟩ := h
  rw [evS] at h
  refine ⟨_, L, m, ρ, O.est, (PstS.ex O h).imp fun t m1 H1 L1 e s1 ok1 q => ?_⟩
  obtain ⟨O1, k1⟩ := O.step s1 ok1
  cases t with
  | true => exact iteT ⟨L1, m1, ρ, O1, by rw [if_pos rfl] at q; exact q⟩
  | false => exact iteF ⟨L1, m1, ρ, O1, by rw [if_neg Bool.false_ne_true] at q; exact q⟩
theorem s_rais {k : Nat} {C : Addr} {e : Expr} (hc : X.calm = true) (tk : Takes X W) (hk : c.cls k = .ref C) (he : PMk X e (fun _ H Q => Q (.ref C) none H)) : PS X (.Raise (some e) none pos) (TSr c W f (.rais k)) := ps_imp (ps_raise hc tk he) fun Z σ H h => by
  obtain ⟨L, m, ρ, O, h⟩ := h
  rw [evS] at h
  have q := h σ H L O KG.refl
  rw [hk] at q
  exact q
theorem s_whl {b : List Stmt} {lb : MP.Sts} (hp : PassesOwn (model X.prog X.w) X.A X.env X.xe) (hc : PT X z (TTr c W ec)) (hb : PSs X b (TSsr c W f lb)) : PS X (.While z b [] pos) (TSr c W f (.whl ec lb)) := ps_imp (ps_while hp hc hb) fun Z σ H h => by
  obtain ⟨L, m, ρ, O, h⟩ := h
  rw [evS] at h
  refine ⟨fun n σ' H' => ∃ (L' : Lay) (m' : Mu) (ρ' : Env'), FO c f L' m' ρ' σ' H' ∧ PstS c W f L' ρ' σ' H' Z (whileGo (fun ρ m => evT c.cfg ec ρ m) (fun ρ m => evSs c.cfg lb ρ m) n ρ' m'), ⟨_, L, m, ρ, O, h⟩, ?_⟩
  rintro n σ' H' ⟨L', m', ρ', O', h'⟩
  cases n with
  | zero => exact (show False from h').elim
  | succ n =>
    rw [whileGo] at h'
    refine ⟨_, L', m', ρ', O'.est, ?_⟩
    revert h'
    cases evT c.cfg ec ρ' m' with
    | stuck => exact fun h => h
    | err k m1 => exact fun h H1 L1 s1 ok1 => h σ' H1 L1 (O'.step s1 ok1).1 (O'.step s1 ok1).2
    | ok t m1 =>
      cases t with
      | false =>
        intro h H1 L1 s1 ok1
        obtain ⟨O1, k1⟩ := O'.step s1 ok1
        exact iteF (h σ' H1 L1 O1 k1)
      | true =>
        intro h H1 L1 s1 ok1
        obtain ⟨O1, k1⟩ := O'.step s1 ok1
        refine iteT ⟨fun σ2 H2 => ∃ (L2 : Lay) (m2 : Mu) (ρ2 : Env'), FO c f L2 m2 ρ2 σ2 H2 ∧ PstS c W f L2 ρ2 σ2 H2 Z (whileGo (fun ρ m => evT c.cfg ec ρ m) (fun ρ m => evSs c.cfg lb ρ m) n ρ2 m2), fun σ2 H2 h2 => ⟨n, Nat.lt_succ_self n, h2⟩, L1, m1, ρ', O1, ?_⟩
        have h2 := h.kg k1
        revert h2
        cases hb : evSs c.cfg lb ρ' m1 with
        | nxt ρ3 m3 =>
          intro h2 σ3 H3 L3 O3 k3
          simp only [hb] at h2
          exact ⟨L3, m3, ρ3, O3, h2.kg k3⟩
        | ret d m3 =>
          intro h2
          simp only [hb] at h2
          exact h2
        | err j ρ3 m3 =>
          intro h2
          simp only [hb] at h2
          exact h2
        | stuck =>
          intro h2
          simp only [hb] at h2
          exact h2
theorem s_app {i : Nat} (hK : c.K = X.K) (ho : c.own i = true) (hp : PS X st (tDrop (tBM X.K "list" rAppend (tVar i) (tCons (TEr c W false ea) tNil)))) : PS X st (TSr c W f (.app i ea)) := ps_imp hp fun Z σ H h => by
  obtain ⟨L, m, ρ, O, h⟩ := h
  rw [evS] at h
  cases hr : ρ[i]? with
  | none => rw [hr] at h; exact (show False from h).elim
  | some od =>
  cases od with
  | none => rw [hr] at h; exact (show False from h).elim
  | some xd =>
  cases xd with
  | lst l =>
    rw [hr] at h
    obtain ⟨v, h1, _, h3⟩ := O.est.slot i _ hr
    obtain ⟨a, e, g, cr⟩ := h3 ho
    subst e
    have hl : ∃ vs, H a = some (.lst vs) := by cases cr with | lst q _ _ => exact ⟨_, q⟩
    obtain ⟨vs0, hl⟩ := hl
    refine ⟨_, h1, .inl ⟨rfl, _, .inl (.inl hl)⟩, ?_⟩
    refine ⟨_, L, m, ρ, O.est, (PstS.ex O h).imp fun d m1 H1 L1 e s1 ok1 q w r => ?_⟩
    obtain ⟨O1, k1⟩ := O.step s1 ok1
    have q1 : PstS c W f L1 ρ σ H1 Z (if l.length < sizeD then .nxt (ρ.set i (some (.lst (l ++ [d])))) m1 else .stuck) := q
    by_cases hz : l.length < sizeD
    · rw [if_pos hz] at q1
      have cr1 := cr.mono s1.hid s1.al (O.est.keepG s1 g)
      cases cr1 with
      | lst hh rs z =>
        rename_i vs
        refine ⟨a, vs, w, rfl, rfl, hh, by rw [rs.length]; exact hz, ?_⟩
        obtain ⟨O2, k2⟩ := O1.wrote (o := .lst (vs ++ [w])) ho hr h1 (.lst upd_same (rs.append (.cons r.rep .nil)) (by rw [List.length_append, List.length_singleton]; exact hz))
        exact q1 σ _ L1 O2 k2
    · rw [if_neg hz] at q1
      exact (show False from q1).elim
  | _ => rw [hr] at h; exact (show False from h).elim
theorem for_core {tg : Tgt} {lb : MP.Sts} {L1 : Lay} {m1 : Mu} {ρ : Env'} {σ : L2.St} {H1 : Hp} {J : It} {xs : List D} {Z : Ends} (ho : ∀ i ∈ tg.slots, c.own i = false) (O1 : FO c f L1 m1 ρ σ H1)
    (src : Src c.K (PPr false (OG f.F c.own ρ σ) (AL L1) (hide (Bd (OG f.F c.own ρ σ) L1) H1) H1) J xs) (q : PstS c W f L1 ρ σ H1 Z (forGo tg (fun ρ m => evSs c.cfg lb ρ m) xs ρ m1)) :
    ∃ Wq : Nat → Nat → L2.St → Hp → Prop, (∃ m, Wq 0 m σ H1) ∧ ∀ i m σ H, Wq i m σ H → (J.stop i H ∧ Z.nx σ H) ∨ (J.go i H ∧ ∃ N : L2.St → Hp → Prop, (∀ σ' H', N σ' H' → ∃ m', m' < m ∧ Wq (i + 1) m' σ' H') ∧
      ∀ x H', J.yld i H x H' → TGr c.K tg x σ H' fun σ2 H2 => TSsr c W f lb { Z with nx := N, ct := N, bk := Z.nx } σ2 H2) := by
  refine ⟨fun i n σ' H' => n = xs.length - i ∧ i ≤ xs.length ∧ ∃ (L' : Lay) (m' : Mu) (ρ' : Env'), FO c f L' m' ρ' σ' H' ∧ PstS c W f L' ρ' σ' H' Z (forGo tg (fun ρ m => evSs c.cfg lb ρ m) (xs.drop i) ρ' m') ∧ KG f.F c.own L1 ρ σ H1 L' ρ' σ' H', ⟨_, rfl, Nat.zero_le _, L1, m1, ρ, O1, q, KG.refl⟩, ?_⟩
  rintro i n σ' H' ⟨rfl, hle, L', m', ρ', O', h', kg⟩
  have PP : PPr false (OG f.F c.own ρ σ) (AL L1) (hide (Bd (OG f.F c.own ρ σ) L1) H1) H1 (AL L') (hide (Bd (OG f.F c.own ρ' σ') L') H') H' := ⟨kg.sm, kg.al, hide_sub, (fun z => by cases z), kg.frz⟩
  by_cases hlt : i < xs.length
  · right
    refine ⟨src.go _ _ _ i PP hlt, fun σ3 H3 => ∃ n', n' = xs.length - (i + 1) ∧ i + 1 ≤ xs.length ∧ ∃ (L' : Lay) (m' : Mu) (ρ' : Env'), FO c f L' m' ρ' σ3 H3 ∧ PstS c W f L' ρ' σ3 H3 Z (forGo tg (fun ρ m => evSs c.cfg lb ρ m) (xs.drop (i + 1)) ρ' m') ∧ KG f.F c.own L1 ρ σ H1 L' ρ' σ3 H3, fun σ3 H3 ⟨n', h1, h2⟩ => ⟨n', by omega, h1, h2⟩, fun x H2 y => ?_⟩
    obtain ⟨d, hd, yl⟩ := src.yld _ _ _ i x H2 PP hlt y
    obtain ⟨sm2, rd⟩ := yl.told O'.est
    obtain ⟨O2, k2⟩ := O'.step (Stp.same sm2) (O'.est.sok.same sm2)
    have hdrop : xs.drop i = d :: xs.drop (i + 1) := by
      rw [List.drop_eq_getElem_cons hlt]
      have : xs[i] = d := by
        have := List.getElem?_eq_getElem hlt
        rw [hd] at this
        exact (Option.some.inj this).symm
      rw [this]
    rw [hdrop, forGo] at h'
    cases hb : bindT tg d ρ' with
    | none =>
      rw [hb] at h'
      exact (show False from h').elim
    | some ρ1 =>
      rw [hb] at h'
      refine O2.est.bind rd ho hb fun σ2 E' _ hk => ?_
      obtain ⟨O3, k3⟩ := O2.re E' fun i hi => hk i fun q => by
        rw [ho i q] at hi
        cases hi
      have h2 := (h'.kg k2).kg k3
      refine ⟨L', m', ρ1, O3, ?_⟩
      revert h2
      cases he : evSs c.cfg lb ρ1 m' with
      | nxt ρ4 m4 =>
        intro h2 σ4 H4 L4 O4 k4
        simp only [he] at h2
        exact ⟨_, rfl, by omega, L4, m4, ρ4, O4, h2.kg k4, ((kg.trans k2).trans k3).trans k4⟩
      | ret d m3 =>
        intro h2
        simp only [he] at h2
        exact h2
      | err j ρ3 m3 =>
        intro h2
        simp only [he] at h2
        exact h2
      | stuck =>
        intro h2
        simp only [he] at h2
        exact h2
  · left
    refine ⟨src.stop _ _ _ i PP (by omega), ?_⟩
    rw [List.drop_eq_nil_of_le (by omega), forGo] at h'
    exact h' σ' H' L' O' KG.refl
theorem s_fors {tg : Tgt} {it : I} {t iter : Expr} {b : List Stmt} {lb : MP.Sts} (hK : c.K = X.K) (ho : ∀ i ∈ tg.slots, c.own i = false) (hp : PassesOwn (model X.prog X.w) X.A X.env X.xe) (hc : X.calm = true) (hi : PI X t iter (TIr c W false it)) (hg : PG X t (TGr c.K tg)) (hb : PSs X b (TSsr c W f lb))
    (hs : ∀ x, foldedSetIterable iter X.env x = pure x) : PS X (.For t iter b [] pos) (TSr c W f (.fors tg it lb)) := ps_imp (ps_for hp hc hi hg hb hs) fun Z σ H h => by
  obtain ⟨L, m, ρ, O, h⟩ := h
  rw [evS] at h
  refine ⟨_, L, m, ρ, O.est, (PstS.ex O h).imp fun xs m1 H1 L1 e s1 ok1 q J src => ?_⟩
  obtain ⟨O1, k1⟩ := O.step s1 ok1
  exact for_core ho O1 src q
theorem wipeE_get (ρ : Env') : ∀ (vs : List Nat) (i : Nat) (d : D), (wipeE ρ vs)[i]? = some (some d) → i ∉ vs ∧ ρ[i]? = some (some d)
  | [], i, d, h => ⟨List.not_mem_nil, h⟩
  | v :: vs, i, d, h => by
    have h' : ((wipeE ρ vs).set v none)[i]? = some (some d) := h
    by_cases e : v = i
    · subst e
      by_cases hl : v < (wipeE ρ vs).length
      · rw [List.getElem?_set_self hl] at h'
        cases h'
      · rw [List.getElem?_eq_none (by rw [List.length_set]; omega)] at h'
        cases h'
    · rw [List.getElem?_set_ne e] at h'
      obtain ⟨h1, h2⟩ := wipeE_get ρ vs i d h'
      exact ⟨fun q => (List.mem_cons.mp q).elim (fun q => e q.symm) h1, h2⟩
theorem FOk.fgt {L : Lay} {m : Mu} {ρ : Env'} {σ : L2.St} {H : Hp} (vs : List Nat) (O : FO c f L m ρ σ H) : FO c f L m (wipeE ρ vs) σ H ∧ KG f.F c.own L ρ σ H L (wipeE ρ vs) σ H := by
  have E := O.est
  have sub : ∀ a, OG f.F c.own (wipeE ρ vs) σ a → OG f.F c.own ρ σ a := fun a h => by
    rcases h with h | ⟨i, d, h1, h2, h3⟩
    · exact .inl h
    · exact .inr ⟨i, d, h1, (wipeE_get ρ vs i d h2).2, h3⟩
  have sm : Same (hide (Bd (OG f.F c.own ρ σ) L) H) (hide (Bd (OG f.F c.own (wipeE ρ vs) σ) L) H) := hide_same fun a o nb h => ⟨fun q => nb (q.elim (fun q => .inl (sub a q)) .inr), h⟩
  refine ⟨⟨⟨fun a g => E.gok a (sub a g), E.sok.own fun a o n h => ⟨fun q => n (sub a q), h⟩, by rw [wipeE_length, E.len], fun i d hi => ?_⟩, O.ent, fun i d a h1 h2 h3 => O.frs i d a h1 (wipeE_get ρ vs i d h2).2 h3, fun i j d e a h1 h2 h3 h4 h5 h6 => O.inj i j d e a h1 h2 (wipeE_get ρ vs i d h3).2 (wipeE_get ρ vs j e h4).2 h5 h6, O.fin⟩, ⟨sm, fun _ _ h => h, fun _ _ _ h => h⟩⟩
  obtain ⟨hn, hi'⟩ := wipeE_get ρ vs i d hi
  obtain ⟨v, h1, h2, h3⟩ := E.slot i d hi'
  refine ⟨v, h1, fun q => (h2 q).mono sm fun _ _ h => h, fun q => ?_⟩
  obtain ⟨a, e1, g, cr⟩ := h3 q
  exact ⟨a, e1, .inr ⟨i, d, q, hi, by rw [h1, e1]⟩, cr.mono sm (fun _ _ h => h) fun _ h => h⟩
theorem s_fgt {X : Cx} {sts : List Stmt} {vs : List Nat} {l : MP.Sts} (h : PSs X sts (TSsr c W f l)) : PSs X sts (TSsr c W f (.cons (.fgt vs) l)) := pss_imp h fun Z σ H h => by
  obtain ⟨L, m, ρ, O, h⟩ := h
  rw [evSs, evS] at h
  obtain ⟨O1, k⟩ := O.fgt vs
  exact ⟨L, m, _, O1, PstS.kg h k⟩
theorem s_wall {X : Cx} {st : Stmt} : PS X st (TSr c W f .wall) := ⟨fun pins s σ H D I h => by
  obtain ⟨L, m, ρ, O, h⟩ := h
  rw [evS] at h
  exact (show False from h).elim⟩
end
end MP
set_option maxRecDepth 100000
set_option maxHeartbeats 4000000
set_option autoImplicit false
namespace MP
open PySem L2
theorem upd_swap {H : Hp} {a b : Addr} {x y : HO} (h : a ≠ b) : L2.upd (L2.upd H a x) b y = L2.upd (L2.upd H b y) a x := by
  funext z
  by_cases h1 : z = b
  · subst h1
    rw [upd_same, upd_ne (fun e => h e.symm), upd_same]
  · by_cases h2 : z = a
    · subst h2
      rw [upd_ne h1, upd_same, upd_same]
    · rw [upd_ne h1, upd_ne h2, upd_ne h2, upd_ne h1]
theorem grew_ok {K : PySem.W.Frag} {own : Nat → Bool} {G : Addr → Prop} {L : Lay} {m : Mu} {ρ : Env'} {σ : L2.St} {H H2 : Hp} {P : Addr} {ps : Array Value} (E : ESt K own G L m ρ σ H) (hm : m[0]? = some .tab) (hL : L[0]? = some P) (hT : TabA K P) (hP : H P = some (.tbl ps)) (Z : TabZ (hide (Bd G L) H) lamQ ps) (g : Grew P lamQ ps H H2) :
    SOk K G L m H2 ∧ Stp L L H H2 := by
  rcases g with rfl | ⟨d, more, nd, nPd, rfl, Z2, old⟩
  · exact ⟨E.sok, Stp.refl _ _⟩
  · rw [upd_swap nPd]
    have s1 : Stp L L H (L2.upd H d (LamX.CodeO d lamQ)) := Stp.upd nd
    have k1 : SOk K G L m (L2.upd H d (LamX.CodeO d lamQ)) := E.sok.upd nd
    have hP1 : L2.upd H d (LamX.CodeO d lamQ) P = some (.tbl ps) := by rw [upd_ne nPd]; exact hP
    have c : IOk K (AL L) (hide (Bd G L) (L2.upd H d (LamX.CodeO d lamQ))) (L2.upd (L2.upd H d (LamX.CodeO d lamQ)) P (.tbl (ps ++ more))) P .tab := by
      refine .tab hT upd_same ⟨Z2.ok, fun p v e => ?_⟩
      rcases old p v e with e | e
      · obtain ⟨k, q1, q2⟩ := Z.cd p v e
        exact ⟨k, q1, s1.hid _ _ q2⟩
      · exact ⟨d, e, hide_of (E.nb E.sok.foot nd) upd_same⟩
    have r := k1.set hL hP1 (fun x y z => by cases z) c
    have hs : m.set 0 .tab = m := by
      have h0 : 0 < m.length := (List.getElem?_eq_some_iff.mp hm).1
      have e0 : m[0] = .tab := (List.getElem?_eq_some_iff.mp hm).2
      rw [← e0]
      exact List.set_getElem_self h0
    rw [hs] at r
    exact ⟨r.1, s1.trans r.2⟩
theorem reps_zip {K : PySem.W.Frag} {A : Nat → Option Addr} {H : Hp} : ∀ {vs : List V} {ds : List D}, Reps K A H vs ds → ∀ c ∈ vs.zip ds, Rep K A H c.1 c.2
  | _, _, .nil, c, h => by simp at h
  | _, _, .cons h t, c, hc => by
    rw [List.zip_cons_cons] at hc
    rcases List.mem_cons.mp hc with e | e
    · rw [e]; exact h
    · exact reps_zip t c e
theorem zip_reps {K : PySem.W.Frag} {A : Nat → Option Addr} {H : Hp} : ∀ {cs : List (V × D)}, (∀ c ∈ cs, Rep K A H c.1 c.2) → Reps K A H (cs.map (·.1)) (cs.map (·.2))
  | [], _ => .nil
  | c :: cs, h => .cons (h c List.mem_cons_self) (zip_reps fun x hx => h x (List.mem_cons_of_mem _ hx))
theorem reps_sort {K : PySem.W.Frag} {A : Nat → Option Addr} {H : Hp} {vs : List V} {ds : List D} (r : Reps K A H vs ds) : Reps K A H ((((vs.zip ds).map fun c => (c.1, S (fstS c.2))).mergeSort leB).map (·.1)) (ds.mergeSort leKD) := by
  have hl := r.length
  have e1 : ((vs.zip ds).mergeSort fun a b => leKD a.2 b.2).map (fun c => (c.1, S (fstS c.2))) = ((vs.zip ds).map fun c => (c.1, S (fstS c.2))).mergeSort leB := List.map_mergeSort fun a _ b _ => by
    unfold leKD leB
    rw [tl_S, tl_S]
  have e2 : ((vs.zip ds).mergeSort fun a b => leKD a.2 b.2).map (·.2) = ds.mergeSort leKD := by
    rw [List.map_mergeSort (s := leKD) fun a _ b _ => rfl, List.map_snd_zip (by omega)]
  rw [← e1, ← e2, List.map_map]
  exact zip_reps fun c hc => reps_zip r c (List.mem_mergeSort.mp hc)
section
variable {X : Cx} {c : Cn} {W : WX} {ba : Bool} {ea : E}
theorem s_sortK {cA P : Addr} {e : Expr} {a : Str} {an : Option Expr} {ap : Pos} {scope : Scope} {j : Nat} {p p1 p2 p3 lpos kpos pos : Pos} (hK : c.K = X.K) (hg : Gl X "sorted") (hm : X.mg "sorted" = none) (he : PE X e (TEr c W ba ea)) (hstar : starEach [e] X.env = (false, eval e X.env) :: starEach [] X.env)
    (hT : TabA X.K P) (TB : LamX.TabB X.base X.mg cA P) (hcode : X.env.code = .ref cA) (hq : X.env.qual ++ "<lambda>" = lamQ) (hr : Room 1 X.A) (hk : scope.kind = .function) (hco : scope.isCoroutine = false) (hgen : scope.isGenerator = false) (hns : scope.names = [(a, .local)]) (ha : a = "pair") :
    PE X (.Call (.Name "sorted" p) [e] [⟨some "key", .Lambda ⟨[], [⟨a, an, ap⟩], none, [], [], none, []⟩ (.Subscript (.Name a p1) (.Constant (.int 0) j p2) p3) scope lpos, kpos⟩] pos) (TEr c W false (.sortK ea)) := by
  have pk := pe_sortkey (p := p) (p1 := p1) (p2 := p2) (p3 := p3) (lpos := lpos) (kpos := kpos) (pos := pos) (an := an) (ap := ap) (j := j) hg hm he hstar TB hcode hr hk hco hgen hns ha
  rw [hq] at pk
  refine pe_imp pk fun σ H Q h => ?_
  obtain ⟨G, L, m, ρ, E, h⟩ := h
  rw [evE] at h
  refine TEr.bind E h fun d m1 v H1 L1 e1 s1 E1 r q1 => ?_
  unfold tabAt at q1
  cases q0 : (m1[0]? : Option Ins) with
  | none => rw [q0] at q1; exact (show False from q1).elim
  | some i =>
    cases i with
    | ins _ _ => rw [q0] at q1; exact (show False from q1).elim
    | box _ _ => rw [q0] at q1; exact (show False from q1).elim
    | tab =>
      rw [q0] at q1
      dsimp only at q1
      rw [if_pos rfl] at q1
      obtain ⟨P', hL, iok⟩ := E1.sok.at q0
      cases iok with
      | tab hT' hP Z =>
        rename_i ps
        have eP : P' = P := (hK ▸ hT').eq hT
        subst eP
        have rd := r.drd E1.sok
        cases hd : dr m1 d with
        | lst l =>
          rw [hd] at q1 rd
          unfold sortKD at q1
          dsimp only at q1
          by_cases hb : l.all begS = true
          · rw [if_pos hb] at q1
            obtain ⟨la, vs, rfl, sq, rr, hz⟩ := rd.lst
            have hl := rr.length
            refine ⟨ps, hP, ⟨Z.ok, fun p v e => let ⟨k, k1, k2⟩ := Z.cd p v e; ⟨k, k1, hide_sub _ _ k2⟩⟩, la, (vs.zip l).map fun c => (c.1, S (fstS c.2)), rfl, ?_, fun b hb' => ?_, fun H2 p g hp => ?_⟩
            · refine .inl ?_
              rw [List.map_map]
              show SqL X.K H1 la ((vs.zip l).map (·.1))
              rw [List.map_fst_zip (by omega), ← hK]
              exact sq
            · obtain ⟨q, hq', rfl⟩ := List.mem_map.mp hb'
              have rq := reps_zip rr q hq'
              have hbq := List.all_eq_true.mp hb q.2 (List.of_mem_zip hq').2
              obtain ⟨v, dd⟩ := q
              dsimp only at rq hbq ⊢
              unfold begS at hbq
              split at hbq
              · cases rq with
                | tup h1 h2 _ =>
                  cases h2 with
                  | cons h3 h4 =>
                    cases h3 with
                    | str s z => exact ⟨_, _, rfl, hK ▸ Same.sqT hide_sub h1⟩
              · cases hbq
            · obtain ⟨k2, st2⟩ := grew_ok E1 q0 hL hT' hP Z g
              have E2 := E1.step st2 k2
              exact Pst.lst E2 (PstG.step q1 st2) (reps_sort (rr.mono st2.hid fun _ _ h => h)) (by rw [List.length_mergeSort]; exact hz) hp
          · rw [if_neg hb] at q1
            exact (show False from q1).elim
        | tup l =>
          rw [hd] at q1 rd
          unfold sortKD at q1
          dsimp only at q1
          by_cases hb : l.all begS = true
          · rw [if_pos hb] at q1
            obtain ⟨la, vs, rfl, sq, rr, hz⟩ := rd.tup
            have hl := rr.length
            refine ⟨ps, hP, ⟨Z.ok, fun p v e => let ⟨k, k1, k2⟩ := Z.cd p v e; ⟨k, k1, hide_sub _ _ k2⟩⟩, la, (vs.zip l).map fun c => (c.1, S (fstS c.2)), rfl, ?_, fun b hb' => ?_, fun H2 p g hp => ?_⟩
            · refine .inr ?_
              rw [List.map_map]
              show SqT X.K H1 la ((vs.zip l).map (·.1))
              rw [List.map_fst_zip (by omega), ← hK]
              exact sq
            · obtain ⟨q, hq', rfl⟩ := List.mem_map.mp hb'
              have rq := reps_zip rr q hq'
              have hbq := List.all_eq_true.mp hb q.2 (List.of_mem_zip hq').2
              obtain ⟨v, dd⟩ := q
              dsimp only at rq hbq ⊢
              unfold begS at hbq
              split at hbq
              · cases rq with
                | tup h1 h2 _ =>
                  cases h2 with
                  | cons h3 h4 =>
                    cases h3 with
                    | str s z => exact ⟨_, _, rfl, hK ▸ Same.sqT hide_sub h1⟩
              · cases hbq
            · obtain ⟨k2, st2⟩ := grew_ok E1 q0 hL hT' hP Z g
              have E2 := E1.step st2 k2
              exact Pst.lst E2 (PstG.step q1 st2) (reps_sort (rr.mono st2.hid fun _ _ h => h)) (by rw [List.length_mergeSort]; exact hz) hp
          · rw [if_neg hb] at q1
            exact (show False from q1).elim
        | _ => rw [hd] at q1; exact (show False from q1).elim
end
end MP
set_option maxRecDepth 100000
set_option maxHeartbeats 4000000
set_option autoImplicit false
namespace MP
open PySem L2
section
variable {X : Cx} {c : Cn} {W : WX} {f : Fr} {a ea : E} {x tg : Expr} {pos : Pos} {st : Stmt} {L : Lay} {m : Mu} {ρ : Env'} {σ : L2.St} {H : Hp} {n : Nat} {p : Addr} {od : Obj} {u : HO} {d : D} {xs : List D}
theorem FOk.ne {c : Cn} {f : Fr} (O : FO c f L m ρ σ H) (hL : L[n]? = some p) {b : Addr} (g : OG f.F c.own ρ σ b) : b ≠ p := fun e => O.est.sok.dis p (List.mem_of_getElem? hL) (by rw [← e]; exact g)
theorem FOk.unlock {H1 : Hp} {L1 : Lay} {m1 : Mu} {ρ1 : Env'} {σ1 : L2.St} (O : FO c f L m ρ σ H) (hu : H p = some u) (nf : ∀ x y, u ≠ .frz x y) (hL : L[n]? = some p)
    (O1 : FO c f L1 m1 ρ1 σ1 H1) (cu : CU c.K (AL L1) (hide (Bd (OG f.F c.own ρ1 σ1) L1) H1) u d) (kg : KG f.F c.own L ρ σ H L1 ρ1 σ1 H1) :
    FO c f L1 (m1.set n (.box false d)) ρ1 σ1 (upd H1 p u) ∧ KG f.F c.own L ρ σ H L1 ρ1 σ1 (upd H1 p u) := by
  have hL1 : L1[n]? = some p := kg.al n p hL
  obtain ⟨sk, sm⟩ := O1.est.sok.unlock hL1 cu
  have ne : ∀ b, OG f.F c.own ρ1 σ1 b → b ≠ p := fun b g => O1.ne hL1 g
  have h0 : ∀ x y, f.H0 p ≠ some (.frz x y) := fun x y e => by
    have := O.ent.frz _ _ _ e
    rw [hu] at this
    cases this
    exact nf _ _ rfl
  have hf0 : foot f.L0 p ∨ f.H0 p = none := O1.ent.new p (List.mem_of_getElem? hL1)
  refine ⟨⟨⟨fun b g => ?_, sk, O1.est.len, fun i e hi => ?_⟩, ⟨fun b o nb hb => ?_, O1.ent.new, fun b o hb => ?_, O1.ent.al, fun b q v hb => ?_⟩, O1.frs, O1.inj, O1.fin⟩, ⟨fun b o h => sm b o (kg.sm b o h), kg.al, fun b q v hb => ?_⟩⟩
  · obtain ⟨⟨o, h⟩, nf⟩ := O1.est.gok b g
    exact ⟨⟨o, by rw [upd_ne (ne b g)]; exact h⟩, nf⟩
  · obtain ⟨v, h1, h2, h3⟩ := O1.est.slot i e hi
    refine ⟨v, h1, fun q => (h2 q).mono sm fun _ _ h => h, fun q => ?_⟩
    obtain ⟨b, e1, g, cr⟩ := h3 q
    exact ⟨b, e1, g, cr.mono sm (fun _ _ h => h) fun o h => by rw [upd_ne (ne b g)]; exact h⟩
  · have : b ≠ p := fun e => by
      subst e
      rcases hf0 with h | h
      · exact nb h
      · rw [h] at hb; cases hb
    rw [upd_ne this]
    exact O1.ent.keep b o nb hb
  · by_cases e : b = p
    · subst e; exact ⟨u, upd_same⟩
    · rw [upd_ne e]; exact O1.ent.stay b o hb
  · rw [upd_ne (fun e => by subst e; exact h0 _ _ hb)]
    exact O1.ent.frz b q v hb
  · rw [upd_ne (fun e => by subst e; rw [hu] at hb; cases hb; exact nf _ _ rfl)]
    exact kg.frz b q v hb
theorem FOk.lock (O : FO c f L m ρ σ H) (e : m[n]? = some (.box false d)) : ∃ p u, L[n]? = some p ∧ H p = some u ∧ Mut (some u) ∧ (∀ x y, u ≠ .frz x y) ∧ CU c.K (AL L) (hide (Bd (OG f.F c.own ρ σ) L) H) u d ∧
    ∀ od, FO c f L (m.set n (.box true d)) ρ σ (upd H p (.frz od u)) ∧ KG f.F c.own L ρ σ H L ρ σ (upd H p (.frz od u)) := by
  obtain ⟨p, u, hL, hu, mu, nf, cu, lk⟩ := O.est.sok.lock e
  exact ⟨p, u, hL, hu, mu, nf, cu, fun od => O.step (lk od).2 (lk od).1⟩
theorem OutQ.unlock {K : PySem.W.Frag} {fr : Bool} {G : Addr → Prop} {H0 H' : Hp} {L' : Lay} {m' : Mu} {v : V} {e : D} (hL : L'[n]? = some p) (cu : ∀ G', (∀ b, G b → G' b) → SOk K G' L' m' H' → CU K (AL L') (hide (Bd G' L') H') u d) (h : OutQ K fr G H0 L' m' H' e v) :
    OutQ K fr G H0 L' (m'.set n (.box false d)) (upd H' p u) e v := by
  unfold OutQ at h ⊢
  split at h
  · rename_i q
    rw [if_pos q]
    obtain ⟨a, e1, e2, e3, s, cr⟩ := h
    obtain ⟨s2, sm⟩ := s.unlock hL (cu _ (fun b g => .inl g) s)
    refine ⟨a, e1, e2, e3, s2, cr.mono sm (fun _ _ h => h) fun o h => ?_⟩
    rw [upd_ne (fun q => s.dis p (List.mem_of_getElem? hL) (.inr q.symm))]
    exact h
  · rename_i q
    rw [if_neg q]
    obtain ⟨s, r⟩ := h
    obtain ⟨s2, sm⟩ := s.unlock hL (cu _ (fun b g => g) s)
    exact ⟨s2, r.mono sm fun _ _ h => h⟩
theorem SOk.held {K : PySem.W.Frag} {G : Addr → Prop} (s : SOk K G L m H) (hL : L[n]? = some p) (hp : H p = some (.frz od u)) (e : m[n]? = some (.box true d)) : CU K (AL L) (hide (Bd G L) H) u d := by
  have c := s.ok n p _ hL e
  cases c with
  | lock h cu => rw [hp] at h; cases h; exact cu
theorem unlM_some {m' : Mu} (h : unlM n m = some m') : ∃ d, m[n]? = some (.box true d) ∧ m' = m.set n (.box false d) := by
  unfold unlM at h
  split at h
  · rename_i d e
    cases h
    exact ⟨d, e, rfl⟩
  · cases h
theorem s_forsL {kd : Kd} {tg : Tgt} {t iter : Expr} {b : List Stmt} {lb : MP.Sts} {bb : Bool} (hK : c.K = X.K) (ho : ∀ i ∈ tg.slots, c.own i = false) (hpa : pureA a = true) (hp : PassesOwn (model X.prog X.w) X.A X.env X.xe) (hc : X.calm = true) (hi : PI X t iter (wiL X.K kd (TEr c W bb a))) (hg : PG X t (TGr c.K tg)) (hb : PSs X b (TSsr c W f lb))
    (hs : ∀ x, foldedSetIterable iter X.env x = pure x) : PS X (.For t iter b [] pos) (TSr c W f (.forsL kd a tg lb)) := ps_imp (ps_lock (ps_for hp hc hi hg hb hs)) fun Z σ H h => by
  obtain ⟨L, m, ρ, O, h⟩ := h
  rw [evS] at h
  cases e1 : evE c.cfg a ρ m with
  | stuck => rw [e1] at h; exact (show False from h).elim
  | err k m1 => exact (pureA_err a hpa k m1 e1).elim
  | ok y m1 =>
  obtain ⟨em, kp⟩ := pureA_ok a hpa e1
  subst em
  rw [e1, Res.fl_ok] at h
  cases e2 : lkD y m1 with
  | none => rw [e2] at h; exact (show False from h).elim
  | some nd =>
  obtain ⟨n, d⟩ := nd
  rw [e2] at h
  dsimp only at h
  cases e3 : walkD kd d with
  | none => rw [e3] at h; exact (show False from h).elim
  | some xs =>
  rw [e3] at h
  dsimp only at h
  obtain ⟨ey, en⟩ := lkD_some e2
  subst ey
  obtain ⟨p, u, hL, hu, mu, nf, cu, lk⟩ := O.lock en
  refine ⟨p, u, hu, mu, fun od => ?_⟩
  obtain ⟨O1, kg1⟩ := lk od
  have q : PstS c W f L ρ σ (upd H p (.frz od u)) ⟨fun σ' H' => H' p = some (.frz od u) ∧ Z.nx σ' (upd H' p u), fun v H' => H' p = some (.frz od u) ∧ Z.rt v (upd H' p u), fun σ' H' => H' p = some (.frz od u) ∧ Z.bk σ' (upd H' p u), fun σ' H' => H' p = some (.frz od u) ∧ Z.ct σ' (upd H' p u)⟩
      (forGo tg (fun ρ m => evSs c.cfg lb ρ m) xs ρ (m1.set n (.box true d))) := by
    revert h
    generalize forGo tg (fun ρ m => evSs c.cfg lb ρ m) xs ρ (m1.set n (.box true d)) = r
    cases r with
    | nxt ρ' m' =>
      intro h σ' H' L' O' k'
      have hz := k'.frz _ _ _ (upd_same (H := H) (a := p))
      have kA := kg1.trans k'
      unfold unlk at h
      dsimp only at h
      cases e4 : unlM n m' with
      | none => rw [e4] at h; exact (show False from h).elim
      | some m2 =>
        rw [e4] at h
        obtain ⟨d', e5, rfl⟩ := unlM_some e4
        obtain ⟨O2, k2⟩ := O.unlock hu nf hL O' (O'.est.sok.held (kA.al n p hL) hz e5) kA
        exact ⟨hz, h σ' _ L' O2 k2⟩
    | ret x m' =>
      intro h v H' L' st kr o
      have hz := kr.frz _ _ _ (upd_same (H := H) (a := p))
      unfold unlk at h
      dsimp only at h
      cases e4 : unlM n m' with
      | none => rw [e4] at h; exact (show False from h).elim
      | some m2 =>
        rw [e4] at h
        obtain ⟨d', e5, rfl⟩ := unlM_some e4
        have hL' := kr.al n p hL
        have h0 : ∀ x y, f.H0 p ≠ some (.frz x y) := fun x y e => by
          have := O.ent.frz _ _ _ e
          rw [hu] at this
          cases this
          exact nf _ _ rfl
        have hf0 : foot f.L0 p ∨ f.H0 p = none := st.new p (List.mem_of_getElem? hL')
        refine ⟨hz, h v _ L' ⟨fun b o nb hb => ?_, st.new, fun b o hb => ?_, st.al, fun b q v hb => ?_⟩ ⟨kr.al, fun b q v hb => ?_⟩ (o.unlock hL' fun G' _ s => s.held hL' hz e5)⟩
        · have : b ≠ p := fun e => by
            subst e
            rcases hf0 with h | h
            · exact nb h
            · rw [h] at hb; cases hb
          rw [upd_ne this]
          exact st.keep b o nb hb
        · by_cases e : b = p
          · subst e; exact ⟨u, upd_same⟩
          · rw [upd_ne e]; exact st.stay b o hb
        · rw [upd_ne (fun e => by subst e; exact h0 _ _ hb)]
          exact st.frz b q v hb
        · have ne : b ≠ p := fun e => by subst e; rw [hu] at hb; cases hb; exact nf _ _ rfl
          rw [upd_ne ne]
          exact kr.frz b q v (by rw [upd_ne ne]; exact hb)
    | err k ρ' m' => exact fun h σ' H' L' O' k' => h σ' H' L' O' (kg1.trans k')
    | stuck => exact fun h => h
  have wi := wiL_ok (c := c) (W := W) (b := bb) (kd := kd) (R := fun J H1 => _) O1.est (kp n d d false en) hL upd_same (cu.mono kg1.sm kg1.al) e3
    fun H' L' J st ok src => for_core (f := f) (lb := lb) ho (O1.step st ok).1 src (q.kg (O1.step st ok).2)
  rw [← hK]
  exact wi
end
end MP
set_option maxRecDepth 100000
set_option maxHeartbeats 4000000
set_option autoImplicit false
namespace MP
open PySem L2
section
variable {X : Cx} {c : Cn} {W : WX} {f : Fr} {ba bb : Bool} {ea eb ec : E} {x y z : Expr} {pos pos' : Pos} {st : Stmt} {L L' : Lay} {m m' : Mu} {ρ : Env'} {σ : L2.St} {H H' : Hp} {Z : Ends}
theorem FOk.outO (O : FO c f L m ρ σ H) {d : D} {v : V} (o : OutQ c.K true (OG f.F c.own ρ σ) H L' m' H' d v) : OutQ c.K true f.F f.H0 L' m' H' d v := by
  unfold OutQ at o ⊢
  split at o
  · rename_i q
    rw [if_pos q]
    obtain ⟨a, e1, e2, ng, s, cr⟩ := o
    refine ⟨a, e1, O.ent.none a e2, fun z => ng (.inl z), s.own fun b u n h => ⟨fun z => n (z.elim (fun z => .inl (.inl z)) .inr), h⟩, cr.mono (hide_same fun b u nb h => ⟨fun z => nb ?_, h⟩) (fun _ _ h => h) fun _ h => h⟩
    exact z.elim (fun z => .inl (z.elim (fun z => .inl (.inl z)) .inr)) .inr
  · rename_i q
    rw [if_neg q]
    exact ⟨o.1.own fun b u n h => ⟨fun z => n (.inl z), h⟩, o.2.mono (hide_same fun b u nb h => ⟨fun z => nb (z.elim (fun z => .inl (.inl z)) .inr), h⟩) fun _ _ h => h⟩
theorem s_retO (hf : f.fr = true) (ha : PE X x (TEo c W ea)) : PS X (.Return (some x) pos) (TSr c W f (.ret ea)) := ps_imp (ps_ret ha) fun Z σ H h => by
  obtain ⟨L, m, ρ, O, h⟩ := h
  rw [evS] at h
  refine ⟨_, L, m, ρ, O.est, (PstS.ex O h).imp fun d m1 H1 L1 e s1 ok1 q v o => ?_⟩
  obtain ⟨O1, k1⟩ := O.step s1 ok1
  exact q v H1 L1 O1.ent KR.refl (by rw [hf]; exact O.outO o)
theorem s_retV (ha : PE X x (TEr c W false ea)) (hv : ∀ ρ m d m', evE c.cfg ea ρ m = .ok d m' → isBoxD d = false) : PS X (.Return (some x) pos) (TSr c W f (.ret ea)) := ps_imp (ps_ret ha) fun Z σ H h => by
  obtain ⟨L, m, ρ, O, h⟩ := h
  rw [evS] at h
  refine ⟨_, L, m, ρ, O.est, (PstS.ex O h).imp fun d m1 H1 L1 e s1 ok1 q v r => ?_⟩
  obtain ⟨O1, k1⟩ := O.step s1 ok1
  exact q v H1 L1 O1.ent KR.refl (.of (.inr (hv _ _ _ _ e)) O1.sok (r.rep.mono O1.out fun _ _ h => h))
theorem FOk.mineO {i : Nat} {a : Addr} {d : D} (O : FO c f L m ρ σ H) (s : Stp L L' H H') (ho : c.own i = true) (hi : i < ρ.length) (hb : isBoxD d = true) (o : OutQ c.K true (OG f.F c.own ρ σ) H L' m' H' d (.ref a)) :
    FO c f L' m' (ρ.set i (some d)) (σ.set i (some (.ref a))) H' ∧ KG f.F c.own L ρ σ H L' (ρ.set i (some d)) (σ.set i (some (.ref a))) H' := by
  unfold OutQ at o
  rw [if_pos ⟨rfl, hb⟩] at o
  obtain ⟨a', e1, n, ng, sk, cr⟩ := o
  cases e1
  have E := O.est
  have hσ : i < σ.length := by rw [← E.len]; exact hi
  have gi : (ρ.set i (some d))[i]? = some (some d) := by rw [List.getElem?_set_self hi]
  have gs : (σ.set i (some (V.ref a)))[i]? = some (some (.ref a)) := by rw [List.getElem?_set_self hσ]
  have np : ∀ b u, H b = some u → b ≠ a := fun b u h => ne_of_none h n
  have old : ∀ b, OG f.F c.own (ρ.set i (some d)) (σ.set i (some (.ref a))) b → b = a ∨ OG f.F c.own ρ σ b := fun b h => by
    rcases h with h | ⟨j, e, h1, h2, h3⟩
    · exact .inr (.inl h)
    · by_cases hj : i = j
      · subst hj
        rw [gs] at h3
        cases h3
        exact .inl rfl
      · rw [List.getElem?_set_ne hj] at h2 h3
        exact .inr (.inr ⟨j, e, h1, h2, h3⟩)
  have smA : Same (hide (Bd (fun x => OG f.F c.own ρ σ x ∨ x = a) L') H') (hide (Bd (OG f.F c.own (ρ.set i (some d)) (σ.set i (some (.ref a)))) L') H') := hide_same fun b u nb h => ⟨fun q => nb (q.elim (fun q => .inl ((old b q).symm)) .inr), h⟩
  have sm : Same (hide (Bd (OG f.F c.own ρ σ) L) H) (hide (Bd (OG f.F c.own (ρ.set i (some d)) (σ.set i (some (.ref a)))) L') H') := hide_same fun b u nb h => by
    have nf : ¬ foot L b := fun q => nb (.inr q)
    refine ⟨fun q => ?_, s.keep b u nf h⟩
    rcases q with q | q
    · rcases old b q with q | q
      · exact np b u h q
      · exact nb (.inl q)
    · rcases s.new b q with q | q
      · exact nf q
      · rw [h] at q; cases q
  have hfa : ¬ foot L' a := fun q => sk.dis a q (.inr rfl)
  refine ⟨⟨⟨fun b g => ?_, ?_, by rw [List.length_set, List.length_set, E.len], fun j e hj => ?_⟩, O.ent.trans s, fun j e b h1 h2 h3 => ?_, fun j k e g b h1 h2 h3 h4 h5 h6 => ?_, O.fin⟩, ⟨sm, s.al, s.frz⟩⟩
  · rcases old b g with q | q
    · subst q
      obtain ⟨u, hu, _⟩ := cr.cu
      exact ⟨⟨u, hu⟩, hfa⟩
    · obtain ⟨⟨u, h⟩, nf⟩ := E.gok b q
      refine ⟨⟨u, s.keep b u nf h⟩, fun z => ?_⟩
      rcases s.new b z with z | z
      · exact nf z
      · rw [h] at z; cases z
  · exact sk.own fun b u nb h => ⟨fun q => nb ((old b q).symm), h⟩
  · by_cases hij : i = j
    · subst hij
      rw [gi] at hj
      cases hj
      exact ⟨_, gs, fun q => (by rw [ho] at q; cases q), fun _ => ⟨a, rfl, .inr ⟨i, d, ho, gi, gs⟩, cr.mono smA (fun _ _ h => h) fun _ h => h⟩⟩
    · rw [List.getElem?_set_ne hij] at hj
      obtain ⟨v, h1, h2, h3⟩ := E.slot j e hj
      refine ⟨v, by rw [List.getElem?_set_ne hij]; exact h1, fun q => (h2 q).mono sm s.al, fun q => ?_⟩
      obtain ⟨b, e1, g, cr2⟩ := h3 q
      exact ⟨b, e1, .inr ⟨j, e, q, by rw [List.getElem?_set_ne hij]; exact hj, by rw [List.getElem?_set_ne hij, h1, e1]⟩, cr2.mono sm s.al (E.keepG s g)⟩
  · by_cases hij : i = j
    · subst hij
      rw [gs] at h3
      cases h3
      exact O.ent.none a n
    · rw [List.getElem?_set_ne hij] at h2 h3
      exact O.frs j e b h1 h2 h3
  · have noP : ∀ k e, c.own k = true → ρ[k]? = some (some e) → σ[k]? = some (some (.ref a)) → False := fun k e h1 h2 h3 => by
      obtain ⟨v, q1, _, q3⟩ := E.slot k e h2
      obtain ⟨b, e1, g, _⟩ := q3 h1
      rw [q1, e1] at h3
      cases h3
      obtain ⟨⟨u, h⟩, _⟩ := E.gok _ g
      rw [n] at h
      cases h
    by_cases hj : i = j
    · by_cases hk : i = k
      · rw [← hj, ← hk]
      · subst hj
        rw [gs] at h5
        cases h5
        rw [List.getElem?_set_ne hk] at h4 h6
        exact (noP k g h2 h4 h6).elim
    · rw [List.getElem?_set_ne hj] at h3 h5
      by_cases hk : i = k
      · subst hk
        rw [gs] at h6
        cases h6
        exact (noP j e h1 h3 h5).elim
      · rw [List.getElem?_set_ne hk] at h4 h6
        exact O.inj j k e g b h1 h2 h3 h4 h5 h6
theorem s_ownB {i : Nat} (ho : c.own i = true) (hp : PS X st (tAsg (TEo c W ea) (gName i))) : PS X st (TSr c W f (.ownB i ea)) := ps_imp hp fun Z σ H h => by
  obtain ⟨L, m, ρ, O, h⟩ := h
  rw [evS] at h
  refine ⟨_, L, m, ρ, O.est, (PstS.ex O h).imp fun d m1 H1 L1 e s1 ok1 q v o => ?_⟩
  have q1 : PstS c W f L1 ρ σ H1 Z (if i < ρ.length ∧ isBoxD d = true then .nxt (ρ.set i (some d)) m1 else .stuck) := q
  by_cases hi : i < ρ.length ∧ isBoxD d = true
  · rw [if_pos hi] at q1
    have oo := o
    unfold OutQ at oo
    rw [if_pos ⟨rfl, hi.2⟩] at oo
    obtain ⟨a, rfl, _⟩ := oo
    obtain ⟨O2, k2⟩ := O.mineO s1 ho hi.1 hi.2 o
    rw [e, Res.fl_ok, if_pos hi] at h
    exact h _ _ L1 O2 k2
  · rw [if_neg hi] at q1
    exact (show False from q1).elim
theorem s_sfld {n : Nat} (hob : ObF X.K) (hK : c.K = X.K) (hn : n < fNames.length) (ha : PE X x (TEr c W ba ea)) (hv : PE X y (TEr c W false eb)) (hs : swapsWith y (some (.Attribute x (fName n) pos')) pos.line X.env = pure false) : PS X (.Assign [.Attribute x (fName n) pos'] y pos) (TSr c W f (.sfld n ea eb)) := ps_imp (ps_fld ha hv hs) fun Z σ H h => by
  obtain ⟨L, m, ρ, O, h⟩ := h
  rw [evS] at h
  refine ⟨_, L, m, ρ, O.est, (PstS.ex O h).imp fun d m1 H1 L1 e s1 ok1 q v r => ?_⟩
  obtain ⟨O1, k1⟩ := O.step s1 ok1
  refine ⟨_, L1, m1, ρ, O1.est, (PstS.ex O1 q).imp fun d2 m2 H2 La e2 s2 ok2 q2 v2 r2 => ?_⟩
  obtain ⟨O2, k2⟩ := O1.step s2 ok2
  have r' := r.step O1.est s2
  cases d2 with
  | obj j =>
    have q3 : PstS c W f La ρ σ H2 Z ((match m2[j]? with
      | some (.ins k fs) => if fs.length < 100 ∧ (clsF k).contains n = true then .ok .non (m2.set j (.ins k (putN n d fs))) else .stuck
      | _ => .stuck : Res D).fl ρ fun _ m3 => .nxt ρ m3) := q2
    cases hj : m2[j]? with
    | none => rw [hj] at q3; exact (show False from q3).elim
    | some i =>
      cases i with
      | box lk b => rw [hj] at q3; exact (show False from q3).elim
      | tab => rw [hj] at q3; exact (show False from q3).elim
      | ins k fs =>
        rw [hj] at q3
        dsimp only at q3
        split at q3
        · rename_i hk
          obtain ⟨p, C, dx, vs, hL, hC, hp, rf, al⟩ := O2.est.sok.ins hj
          obtain ⟨p', ev, hL'⟩ := r2.obj
          rw [hL] at hL'
          cases hL'
          obtain ⟨c1, c2⟩ := hob k C (hK ▸ hC)
          have hlen : vs.length < 1000 := by rw [rf.length]; omega
          obtain ⟨ok3, st3⟩ := O2.est.sok.set (i := .ins k (putN n d fs)) hL hp (fun _ _ e => by cases e) (.ins hC upd_same (rf.put hn r'.rep) (putN_mem hk.2 al))
          obtain ⟨O3, k3⟩ := O2.step st3 ok3
          exact ⟨p, C, dx, vs, ev, hp, c1, c2 n hk.2, hlen, q3 _ _ La O3 k3⟩
        · exact (show False from q3).elim
  | _ => exact (show False from q2).elim
theorem s_faug {n : Nat} {k : Int} (o : BOp) (ho : o = .add ∨ o = .sub) (hob : ObF X.K) (hK : c.K = X.K) (hn : n < fNames.length) (ha : PE X x (TEr c W ba ea)) (hv : PE X y (tC (.int k))) : PS X (.AugAssign (.Attribute x (fName n) pos') (opOf o) y pos) (TSr c W f (.faug n o ea (.int k))) := by
  have go : ∀ {rd : V → V → Hp → VK → Prop}, InOp X (opOf o) rd → (∀ (i : Int) (H : Hp) (Q : VK) (z : D), augD o (.int i) (.int k) = some z → (∃ j, z = .int j ∧ (Q (.int j) H → rd (.int i) (.int k) H Q))) → PS X (.AugAssign (.Attribute x (fName n) pos') (opOf o) y pos) (TSr c W f (.faug n o ea (.int k))) := fun {rd} hop hrd => ps_imp (ps_fldaug ha hv hop) fun Z σ H h => by
    obtain ⟨L, m, ρ, O, h⟩ := h
    rw [evS] at h
    refine ⟨_, L, m, ρ, O.est, (PstS.ex O h).imp fun d m1 H1 L1 e s1 ok1 q v r => ?_⟩
    obtain ⟨O1, k1⟩ := O.step s1 ok1
    cases d with
    | obj j =>
      have q3 : PstS c W f L1 ρ σ H1 Z ((match m1[j]? with
        | some (.ins k' fs) => (match getN n fs with
          | some y => (match augD o y (.int k) with
            | some z => if fs.length < 100 then .ok .non (m1.set j (.ins k' (putN n z fs))) else .stuck
            | none => .stuck)
          | none => .stuck)
        | _ => .stuck : Res D).fl ρ fun _ m3 => .nxt ρ m3) := q
      cases hj : m1[j]? with
      | none => rw [hj] at q3; exact (show False from q3).elim
      | some i =>
        cases i with
        | box lk b => rw [hj] at q3; exact (show False from q3).elim
        | tab => rw [hj] at q3; exact (show False from q3).elim
        | ins k' fs =>
          rw [hj] at q3
          dsimp only at q3
          cases hg : getN n fs with
          | none => rw [hg] at q3; exact (show False from q3).elim
          | some yd =>
            rw [hg] at q3
            dsimp only at q3
            cases hz : augD o yd (.int k) with
            | none => rw [hz] at q3; exact (show False from q3).elim
            | some z =>
              rw [hz] at q3
              dsimp only at q3
              split at q3
              · rename_i hk
                obtain ⟨p, C, dx, vs, hL, hC, hp, rf, al⟩ := O1.est.sok.ins hj
                obtain ⟨p', ev, hL'⟩ := r.obj
                rw [hL] at hL'
                cases hL'
                obtain ⟨c1, c2⟩ := hob k' C (hK ▸ hC)
                obtain ⟨w, hw, rw'⟩ := rf.get hg
                have hm := getN_mem al hg
                have hy : ∃ i, yd = .int i := by
                  rcases ho with e | e <;> subst e <;> cases yd <;> first | exact ⟨_, rfl⟩ | (cases hz; done)
                obtain ⟨i, rfl⟩ := hy
                have ew : w = .int i := by cases rw'; rfl
                subst ew
                obtain ⟨jj, ez, hq⟩ := hrd i H1 (fun z H3 => ∃ dx' fs', H3 p = some (.ins C dx' fs') ∧ fs'.length < 1000 ∧ Z.nx σ (upd H3 p (.ins C dx' (putF (fName n) z fs')))) z hz
                subst ez
                obtain ⟨ok3, st3⟩ := O1.est.sok.set (i := .ins k' (putN n (.int jj) fs)) hL hp (fun _ _ e => by cases e) (.ins hC upd_same (rf.put hn (.int jj)) (putN_mem hm al))
                obtain ⟨O3, k3⟩ := O1.step st3 ok3
                exact ⟨p, C, dx, vs, _, ev, hp, c1, c2 n hm, hw, hq ⟨dx, vs, hp, by rw [rf.length]; omega, q3 _ _ L1 O3 k3⟩⟩
              · exact (show False from q3).elim
    | _ => exact (show False from q).elim
  rcases ho with e | e
  · subst e
    exact go in_add fun i H Q z hz => by
      cases hz
      exact ⟨_, rfl, fun q => ⟨i, k, rfl, rfl, q⟩⟩
  · subst e
    exact go in_sub fun i H Q z hz => by
      cases hz
      exact ⟨_, rfl, fun q => ⟨i, k, rfl, rfl, q⟩⟩
theorem s_ssub (hu : X.A.units + 65 < cLine) (hK : c.K = X.K) (ha : PE X x (TEr c W ba ea)) (hb : PE X y (TEr c W bb eb)) (hv : PE X z (TEr c W false ec)) (hs : swapsWith z (some (.Subscript x y pos')) pos.line X.env = pure false) : PS X (.Assign [.Subscript x y pos'] z pos) (TSr c W f (.ssub ea eb ec)) := ⟨fun pins s σ H Z I h => by
  obtain ⟨L, m, ρ, O, h⟩ := h
  rw [evS] at h
  by_cases hd : ∃ v m1 d m2 k m3 n l, evE c.cfg ec ρ m = .ok v m1 ∧ evE c.cfg ea ρ m1 = .ok d m2 ∧ evE c.cfg eb ρ m2 = .ok k m3 ∧ lkD d m3 = some (n, .dic l)
  · obtain ⟨v, m1, d, m2, k, m3, n, l, e1, e2, e3, e4⟩ := hd
    refine (ps_dput (by omega) ha hb hv hs).run pins s σ H Z I ⟨_, L, m, ρ, O.est, (PstS.ex O h).imp fun v' m1' H1 L1 f1 s1 ok1 q w r => ?_⟩
    rw [e1] at f1
    cases f1
    obtain ⟨O1, k1⟩ := O.step s1 ok1
    refine ⟨_, L1, _, ρ, O1.est, (PstS.ex O1 q).imp fun d' m2' H2 La f2 s2 ok2 q2 w2 r2 => ?_⟩
    rw [e2] at f2
    cases f2
    obtain ⟨O2, k2⟩ := O1.step s2 ok2
    refine ⟨_, La, _, ρ, O2.est, (PstS.ex O2 q2).imp fun k' m3' H3 Lb f3 s3 ok3 q3 w3 r3 => ?_⟩
    rw [e3] at f3
    cases f3
    obtain ⟨O3, k3⟩ := O2.step s3 ok3
    have rv := (r.step O1.est s2).step O2.est s3
    have rd := r2.step O2.est s3
    have q4 : PstS c W f Lb ρ σ H3 Z ((subD d k v m3).fl ρ fun _ m4 => .nxt ρ m4) := q3
    unfold subD at q4
    rw [e4] at q4
    dsimp only at q4
    unfold subW at q4
    dsimp only at q4
    cases hq : keyOf k with
    | none => rw [hq] at q4; exact (show False from q4).elim
    | some qk =>
      rw [hq] at q4
      by_cases hl : l.length < sizeD
      · have q5 : PstS c W f Lb ρ σ H3 Z (.nxt ρ (m3.set n (.box false (.dic (putKD qk v l))))) := by
          simpa [hl] using q4
        obtain ⟨rfl, hb3⟩ := lkD_some e4
        obtain ⟨p, u, hL, hp, cu, nf⟩ := O3.est.sok.box hb3
        obtain ⟨p', ev, hL'⟩ := rd.obj
        rw [hL] at hL'
        cases hL'
        cases cu with
        | dic rk zz =>
          obtain ⟨ek, kz⟩ := r3.rd.key hq
          obtain ⟨ok5, st5⟩ := O3.est.sok.set (i := .box false (.dic (putKD qk v l))) hL hp nf (.box upd_same (.dic (rk.put qk kz rv.rep) (Nat.le_trans (putKD_len _ _ _) hl)))
          obtain ⟨O5, k5⟩ := O3.step st5 ok5
          rw [ek]
          exact ⟨p, _, ev, DPut.k hp (by rw [rk.length]; exact hl), q5 _ _ Lb O5 k5⟩
      · simp [hl] at q4
        exact (show False from q4).elim
  · refine (L2.ps_lput ha hb hv hs).run pins s σ H Z I ⟨_, L, m, ρ, O.est, (PstS.ex O h).imp fun v m1 H1 L1 f1 s1 ok1 q w r => ?_⟩
    obtain ⟨O1, k1⟩ := O.step s1 ok1
    refine ⟨_, L1, _, ρ, O1.est, (PstS.ex O1 q).imp fun d m2 H2 La f2 s2 ok2 q2 w2 r2 => ?_⟩
    obtain ⟨O2, k2⟩ := O1.step s2 ok2
    refine ⟨_, La, _, ρ, O2.est, (PstS.ex O2 q2).imp fun k m3 H3 Lb f3 s3 ok3 q3 w3 r3 => ?_⟩
    obtain ⟨O3, k3⟩ := O2.step s3 ok3
    have rv := (r.step O1.est s2).step O2.est s3
    have rd := r2.step O2.est s3
    have q4 : PstS c W f Lb ρ σ H3 Z ((subD d k v m3).fl ρ fun _ m4 => .nxt ρ m4) := q3
    unfold subD at q4
    cases e4 : lkD d m3 with
    | none => rw [e4] at q4; exact (show False from q4).elim
    | some nb =>
      obtain ⟨n, b⟩ := nb
      rw [e4] at q4
      dsimp only at q4
      cases b with
      | dic l => exact (hd ⟨_, _, _, _, _, _, _, _, f1, f2, f3, e4⟩).elim
      | lst l =>
        unfold subW at q4
        dsimp only at q4
        cases k with
        | int i =>
          dsimp only at q4
          by_cases hi : 0 ≤ i ∧ i < l.length
          · rw [if_pos hi] at q4
            have q5 : PstS c W f Lb ρ σ H3 Z (.nxt ρ (m3.set n (.box false (.lst (l.set i.toNat v))))) := q4
            obtain ⟨rfl, hb3⟩ := lkD_some e4
            obtain ⟨p, u, hL, hp, cu, nf⟩ := O3.est.sok.box hb3
            obtain ⟨p', ev, hL'⟩ := rd.obj
            rw [hL] at hL'
            cases hL'
            cases cu with
            | lst rs zz =>
              have hin : i.toNat < l.length := by omega
              obtain ⟨ok5, st5⟩ := O3.est.sok.set (i := .box false (.lst (l.set i.toNat v))) hL hp nf (.box upd_same (.lst (Reps.set rv.rep i.toNat rs) (by rw [List.length_set]; exact zz)))
              obtain ⟨O5, k5⟩ := O3.step st5 ok5
              exact ⟨p, _, i.toNat, ev, by rw [r3.rd.int]; congr 1; omega, hp, by rw [rs.length]; exact hin, q5 _ _ Lb O5 k5⟩
          · rw [if_neg hi] at q4
            exact (show False from q4).elim
        | _ => exact (show False from q4).elim
      | _ => exact (show False from q4).elim⟩
theorem s_setx {i : Nat} (hK : c.K = X.K) (ho : c.own i = true) (ha : PE X x (tVar i)) (hb : PE X y (TEr c W bb eb)) (hv : PE X z (TEr c W false ec)) (hs : swapsWith z (some (.Subscript x y pos')) pos.line X.env = pure false) : PS X (.Assign [.Subscript x y pos'] z pos) (TSr c W f (.setx i eb ec)) := ps_imp (L2.ps_lput ha hb hv hs) fun Z σ H h => by
  obtain ⟨L, m, ρ, O, h⟩ := h
  rw [evS] at h
  cases hr : ρ[i]? with
  | none => rw [hr] at h; exact (show False from h).elim
  | some od =>
  cases od with
  | none => rw [hr] at h; exact (show False from h).elim
  | some xd =>
  rw [hr] at h
  cases xd with
  | lst l =>
    dsimp only at h
    refine ⟨_, L, m, ρ, O.est, (PstS.ex O h).imp fun v m1 H1 L1 f1 s1 ok1 q w r => ?_⟩
    obtain ⟨O1, k1⟩ := O.step s1 ok1
    obtain ⟨va, h1, _, h3⟩ := O1.est.slot i _ hr
    obtain ⟨a, e, g, cr⟩ := h3 ho
    subst e
    refine ⟨_, h1, _, L1, _, ρ, O1.est, (PstS.ex O1 q).imp fun k m2 H2 La f2 s2 ok2 q2 w2 r2 => ?_⟩
    obtain ⟨O2, k2⟩ := O1.step s2 ok2
    have cr2 := cr.mono s2.hid s2.al (O1.est.keepG s2 g)
    have rv := r.step O1.est s2
    cases k with
    | int j =>
      have q3 : PstS c W f La ρ σ H2 Z (if 0 ≤ j ∧ j < l.length then .nxt (ρ.set i (some (.lst (l.set j.toNat v)))) m2 else .stuck) := q2
      by_cases hj : 0 ≤ j ∧ j < l.length
      · rw [if_pos hj] at q3
        cases cr2 with
        | lst hh rs zz =>
          have hin : j.toNat < l.length := by omega
          obtain ⟨O3, k3⟩ := O2.wrote (o := .lst _) ho hr h1 (.lst upd_same (Reps.set rv.rep j.toNat rs) (by rw [List.length_set]; exact zz))
          exact ⟨a, _, j.toNat, rfl, by rw [r2.rd.int]; congr 1; omega, hh, by rw [rs.length]; exact hin, q3 _ _ La O3 k3⟩
      · rw [if_neg hj] at q3
        exact (show False from q3).elim
    | _ => exact (show False from q2).elim
  | _ => exact (show False from h).elim
end
end MP
set_option maxRecDepth 100000
set_option maxHeartbeats 4000000
set_option autoImplicit false
namespace MP
open PySem L2
def RO (c : Cn) (G : Addr → Prop) (ρ : Env') (σ : L2.St) (L : Lay) (H : Hp) (v : V) (d : D) : Prop :=
  Rep c.K (AL L) (hide (Bd G L) H) v d ∨ ∃ i d0 a, c.own i = true ∧ ρ[i]? = some (some d0) ∧ σ[i]? = some (some v) ∧ v = .ref a ∧ G a ∧ CR c.K (AL L) (hide (Bd G L) H) H a d
inductive ROs (c : Cn) (G : Addr → Prop) (ρ : Env') (σ : L2.St) (L : Lay) (H : Hp) : List V → List D → Prop
  | nil : ROs c G ρ σ L H [] []
  | cons {v : V} {d : D} {vs : List V} {ds : List D} : RO c G ρ σ L H v d → ROs c G ρ σ L H vs ds → ROs c G ρ σ L H (v :: vs) (d :: ds)
def TAo (c : Cn) (W : WX) (l : Es) : TA := fun σ H Q => ∃ G L m ρ, ESt c.K c.own G L m ρ σ H ∧ PstG c W G L σ H (fun ds _ H' L' => ∀ vs, ROs c G ρ σ L' H' vs ds → Q vs H') (evEs c.cfg l ρ m)
section
variable {X : Cx} {c : Cn} {W : WX} {f : Fr} {ea : E} {x : Expr} {pos : Pos} {G : Addr → Prop} {L L' : Lay} {m m' : Mu} {ρ : Env'} {σ : L2.St} {H H' : Hp} {v : V} {d : D}
theorem RO.step (r : RO c G ρ σ L H v d) (E : ESt c.K c.own G L m ρ σ H) (s : Stp L L' H H') : RO c G ρ σ L' H' v d := by
  rcases r with r | ⟨i, d0, a, h1, h2, h3, h4, g, cr⟩
  · exact .inl (r.mono s.hid s.al)
  · exact .inr ⟨i, d0, a, h1, h2, h3, h4, g, cr.mono s.hid s.al (E.keepG s g)⟩
theorem o_nil : PA X [] (TAo c W .nil) := ⟨fun pos pins s σ H Q I h => by
  obtain ⟨G, L, m, ρ, E, h⟩ := h
  rw [evEs] at h
  exact pa_nil.run pos pins s σ H Q I (h H L (Stp.refl _ _) E.sok [] .nil)⟩
theorem o_consE {es : List Expr} {l : Es} (ha : PE X x (TEr c W false ea)) (hl : PA X es (TAo c W l)) (hn : notStar x = true) : PA X (x :: es) (TAo c W (.cons ea l)) := ⟨fun pos pins s σ H Q I h => by
  obtain ⟨G, L, m, ρ, E, h⟩ := h
  rw [evEs] at h
  refine (pa_cons ha hl (star_of hn)).run pos pins s σ H Q I ?_
  refine ⟨G, L, m, ρ, E, (PstG.bind h).imp fun d m1 H1 L1 e s1 ok1 q v r => ?_⟩
  have E1 := E.step s1 ok1
  refine ⟨G, L1, m1, ρ, E1, (PstG.bind q).imp fun ds m2 H2 L2 e2 s2 ok2 q2 vs rs => ?_⟩
  exact q2 H2 L2 (Stp.refl _ _) ok2 (v :: vs) (.cons (RO.step (.inl r.rep) E1 s2) rs)⟩
theorem o_consV {i : Nat} {es : List Expr} {l : Es} (ho : c.own i = true) (ha : PE X x (tVar i)) (hl : PA X es (TAo c W l)) (hn : notStar x = true) : PA X (x :: es) (TAo c W (.cons (.var i) l)) := ⟨fun pos pins s σ H Q I h => by
  obtain ⟨G, L, m, ρ, E, h⟩ := h
  rw [evEs, evE] at h
  refine (pa_cons ha hl (star_of hn)).run pos pins s σ H Q I ?_
  cases hr : ρ[i]? with
  | none => rw [hr] at h; exact (show False from h).elim
  | some od =>
    cases od with
    | none => rw [hr] at h; exact (show False from h).elim
    | some d =>
      rw [hr] at h
      dsimp only at h
      rw [Res.bind_ok] at h
      obtain ⟨v, h1, _, h3⟩ := E.slot i d hr
      obtain ⟨a, e, g, cr⟩ := h3 ho
      have r : RO c G ρ σ L H v d := .inr ⟨i, d, a, ho, hr, h1, e, g, cr⟩
      refine ⟨v, h1, G, L, m, ρ, E, (PstG.bind h).imp fun ds m2 H2 L2 e2 s2 ok2 q2 vs rs => ?_⟩
      exact q2 H2 L2 (Stp.refl _ _) ok2 (v :: vs) (.cons (r.step E s2) rs)⟩
theorem RO.out (O : FO c f L m ρ σ H) (r : RO c (OG f.F c.own ρ σ) ρ σ L H v d) : Rep c.K (AL L) (hide (Bd f.F L) H) v d := by
  rcases r with r | ⟨i, d0, a, h1, h2, h3, h4, g, cr⟩
  · exact r.mono O.out fun _ _ h => h
  · subst h4
    have nF : ¬ f.F a := fun z => by
      obtain ⟨o, h⟩ := O.fin a z
      rw [O.frs i d0 a h1 h2 h3] at h
      cases h
    have nb : ¬ Bd f.F L a := fun z => z.elim nF (O.est.gok a g).2
    cases cr with
    | lst h r z => exact .lst (.inl (.inl (hide_of nb h))) (r.mono O.out fun _ _ h => h) z
    | dic h r z => exact .dic (.inl (hide_of nb h)) (r.mono O.out fun _ _ h => h) z
theorem ROs.out {vs : List V} {ds : List D} (O : FO c f L m ρ σ H) (r : ROs c (OG f.F c.own ρ σ) ρ σ L H vs ds) : Reps c.K (AL L) (hide (Bd f.F L) H) vs ds := by
  induction r with
  | nil => exact .nil
  | cons r _ ih => exact .cons (r.out O) ih
theorem ROs.length {vs : List V} {ds : List D} (r : ROs c G ρ σ L H vs ds) : vs.length = ds.length := by
  induction r with
  | nil => rfl
  | cons _ _ ih => exact congrArg (· + 1) ih
theorem FOk.nF {p : Addr} (O : FO c f L m ρ σ H) (n : H p = none) : ¬ Bd f.F L p := fun z => z.elim (fun z => by
    obtain ⟨o, h⟩ := O.fin p z
    obtain ⟨u, h2⟩ := O.ent.stay p o h
    rw [n] at h2
    cases h2) fun z => by
  obtain ⟨o, h⟩ := O.est.sok.foot p z
  rw [n] at h
  cases h
theorem hid_upd {F : Addr → Prop} {p : Addr} {o : HO} (n : H p = none) : Same (hide (Bd F L) H) (hide (Bd F L) (upd H p o)) := hide_same fun a u nb h => ⟨nb, by rw [upd_ne (ne_of_none h n)]; exact h⟩
theorem s_retTup {es : List Expr} {l : Es} {k : Nat} {p2 : Pos} (hf : f.fr = false) (hz : l.len ≤ 1000) (ha : PA X es (TAo c W l)) : PS X (.Return (some (.Tuple es k p2)) pos) (TSr c W f (.ret (.tup l))) := ps_imp (ps_ret (pe_tup ha)) fun Z σ H h => by
  obtain ⟨L, m, ρ, O, h⟩ := h
  rw [evS, evE] at h
  refine ⟨_, L, m, ρ, O.est, (PstG.bind (PstS.ex O h)).imp fun ds m1 H1 L1 e s1 ok1 q vs rs => ⟨by rw [rs.length, evEs_len e]; exact sz1000 hz, fun p n => ?_⟩⟩
  obtain ⟨O1, k1⟩ := O.step s1 ok1
  have q1 : PstS c W f L1 ρ σ H1 Z (.ret (.tup ds) m1) := q H1 L1 (Stp.refl _ _) ok1
  exact q1 (.ref p) (upd H1 p (.tup vs)) L1 (O1.ent.trans (Stp.upd n)) (Stp.upd n).kr (.of (.inl hf) (O1.sok.upd n) (.tup (.inl (.inl (hide_of (O1.nF n) upd_same))) ((rs.out O1).mono (hid_upd n) fun _ _ h => h) (by rw [evEs_len e]; exact sz1000 hz)))
theorem s_retLst {es : List Expr} {l : Es} {p2 : Pos} (hf : f.fr = false) (hz : l.len ≤ 1000) (ha : PA X es (TAo c W l)) : PS X (.Return (some (.List es p2)) pos) (TSr c W f (.ret (.lst l))) := ps_imp (ps_ret (pe_lst ha)) fun Z σ H h => by
  obtain ⟨L, m, ρ, O, h⟩ := h
  rw [evS, evE] at h
  refine ⟨_, L, m, ρ, O.est, (PstG.bind (PstS.ex O h)).imp fun ds m1 H1 L1 e s1 ok1 q vs rs => ⟨by rw [rs.length, evEs_len e]; exact sz1000 hz, fun p n => ?_⟩⟩
  obtain ⟨O1, k1⟩ := O.step s1 ok1
  have q1 : PstS c W f L1 ρ σ H1 Z (.ret (.lst ds) m1) := q H1 L1 (Stp.refl _ _) ok1
  exact q1 (.ref p) (upd H1 p (.lst vs)) L1 (O1.ent.trans (Stp.upd n)) (Stp.upd n).kr (.of (.inl hf) (O1.sok.upd n) (.lst (.inl (.inl (hide_of (O1.nF n) upd_same))) ((rs.out O1).mono (hid_upd n) fun _ _ h => h) (by rw [evEs_len e]; exact sz1000 hz)))
end
end MP
set_option maxRecDepth 100000
set_option maxHeartbeats 4000000
set_option autoImplicit false
namespace MP
open PySem L2
theorem ht_of {o : Expr} {name : Str} {apos pos : Pos} {args : List Expr} {env : Env} (hb : notCall0 o = true) (hn : args.all notStar = true) (hz : args.length ≤ 20) (hline : (apos.endLine == pos.line) = true) :
    eval (.Call (.Attribute o name apos) args [] pos) env = (do
      let ov ← eval o env
      standAt apos.atName
      let (f, first) ← holding [ov] (getMethod ov name (do return (← importBound o env).getD true))
      callWith pos f first (backTo pos (starEach args env)) (backToKw pos (keywordEach [] env))) := by
  have hform : methodCallForm (args.length + ([] : List Keyword).length) (backTo pos (starEach args env)) (backToKw pos (keywordEach [] env)) = true := by
    unfold methodCallForm
    have h1 : (backTo pos (starEach args env)).all (fun x => !x.1) = true := by
      have := back_any pos (starEach args env)
      rw [star_any hn] at this
      rw [List.all_eq_not_any_not]
      simp only [Bool.not_not]
      rw [this]
      rfl
    rw [h1]
    have h2 : (backToKw pos (keywordEach [] env)).all (fun x => x.1.isSome) = true := rfl
    rw [h2]
    have h3 : (backToKw pos (keywordEach [] env)).isEmpty = true := rfl
    rw [h3]
    simp only [Bool.and_true, Bool.true_and, decide_eq_true_eq, List.length_nil, if_true]
    omega
  rw [arm_eval_Call, base_of hb]
  refine congrArg _ (funext fun ov => ?_)
  refine congrArg _ (funext fun _ => ?_)
  unfold methodCall
  rw [hform]
  have hpos : methodCallPos true o env apos pos = pure pos := by
    unfold methodCallPos
    simp [hline]
  rw [hpos]
  show (holding [ov] (calleeOf true o env ov name) >>= _) = _
  unfold calleeOf
  rw [if_pos rfl]
  refine congrArg _ (funext fun fx => ?_)
  rfl
end MP
set_option maxRecDepth 100000
set_option maxHeartbeats 4000000
set_option autoImplicit false
namespace MP
open PySem L2
theorem exI_ok {P : Program} {w : World} {H : Hp} {h : Heap} {a : Addr} {cv : Value} {oe : Obj} {vs : Array Value} (e : h.get? a = some oe) (z : Zc cv none oe) (d : oe.data = .fields vs) : ObjOk P w H h a (ExI cv a) :=
  ⟨⟨oe, vs, e, z, d⟩, ⟨oe, e⟩, fun _ _ ⟨o, v, q, r⟩ k => ⟨o, v, k o q, r⟩⟩
theorem inv_track {X : Cx} {pins : List (Addr × Obj)} {σ : L2.St} {H : Hp} {s : Shared} {a : Addr} {o : HO} (I : Inv X pins σ H s) (hn : H a = none) (hL : a ≠ X.env.locals) (hC : ∀ x c, X.env.cells.lookup x = some c → c ≠ a) (hp : ∀ p ∈ X.pn ++ pins, p.1 ≠ a) (h0 : X.s_0.heap.get? a = none) (new : ObjOk X.prog X.w (upd H a o) s.heap a o) : Inv X pins σ (upd H a o) s where
  ok := I.ok
  os := I.os
  bare := I.bare
  base := {
    keep := I.base.keep
    slot := I.base.slot
    free := fun b u q n x => by
      rw [upd_ne (fun z => by rw [z, h0] at q; cases q)]
      exact I.base.free b u q n x
    there := I.base.there
    tups := fun b xs q => by
      have := I.base.tups b xs q
      rw [upd_ne (ne_of_none this hn)]; exact this
    frzs := fun b u xs q => by
      have := I.base.frzs b u xs q
      rw [upd_ne (ne_of_none this hn)]; exact this
    tbls := fun b ps q => by
      obtain ⟨more, e⟩ := I.base.tbls b ps q
      exact ⟨more, by rw [upd_ne (ne_of_none e hn)]; exact e⟩ }
  loc := I.loc
  cell := I.cell
  free := by rw [upd_ne (Ne.symm hL)]; exact I.free
  freeC := fun x c q => by rw [upd_ne (hC x c q)]; exact I.freeC x c q
  pin := fun p q => by
    obtain ⟨p1, p2, p3, p4, p5⟩ := I.pin p q
    exact ⟨p1, by rw [upd_ne (hp p q)]; exact p2, p3, p4, p5⟩
  hok := HOk.laidN (P := X.prog) (w := X.w) I.hok (fun _ _ h => h) hn new
  len := I.len
def wKeep (K : PySem.W.Frag) (cv : Value) (i : Nat) (ts : Addr → Value → TS) (Wout : WX) (D : Ends) : WX := fun cls d σ H =>
  ∃ b, PySem.W.exmOne K cls cv = some b ∧ (b = true → d = none ∧ ∀ a, H a = none → ts a cls { nx := fun σ' H' => D.nx (σ'.set i none) (upd H' a (ExI cls a)), rt := fun _ _ => False, bk := fun _ _ => False, ct := fun _ _ => False } (σ.set i (some (.ref a))) H) ∧ (b = false → Wout cls d σ H)
section
variable {X : Cx} {x n : Str} {cv : Value} {i : Nat} {body suite : List Stmt} {b₀ : Stmt} {np pos pos' : Pos} {tb : WX → TS} {ts : Addr → Value → TS} {Wout : WX}
theorem ps_try_keep (hs : X.stack = X.env :: X.outer) (hf : X.env.frame = some X.env.locals) (hex : X.ex = []) (hN : X.N.Nodup) (hi : X.N[i]? = some n) (hln : X.env.kindOf n = some .local) (hc : Names X x cv) (tk : Takes X Wout)
    (hb : ∀ (W : WX) (pn : List (Addr × Obj)) (xe : Value → Shared → Prop), Takes (X.tr pn xe) W → PassesOwn (model X.prog X.w) X.A X.env xe → PSs (X.tr pn xe) body (tb W))
    (hsu : ∀ (a : Addr) (oe : Obj) (cls : Value) (pn : List (Addr × Obj)), PSs (X.suite a ((a, oe) :: pn)) (b₀ :: suite) (ts a cls)) :
    PS X (.Try body [.ExceptHandler (some (.Name x np)) (some n) (b₀ :: suite) pos'] [] [] pos) (fun D σ H => tb (wKeep X.K cv i ts Wout D) D σ H) := by
  refine ⟨fun pins s σ H D I h => ?_⟩
  have ok := I.ok
  have hfr : X.A.frames = some (X.env :: X.outer) := by rw [ok.frames, hs]
  have hloc : Loc X.env.scope n := .inl hln
  refine wpAny_Try_except ?_
  refine wpAny_mono ((hb (wKeep X.K cv i ts Wout D) (X.pn ++ pins) (fun e s₁ => wpAny (model X.prog X.w) X.A (noteFrame e X.env) (fun _ s₂ => wpAny (model X.prog X.w) X.A (setFlight e none) (fun _ s₃ =>
    wpAny (model X.prog X.w) X.A (handleBy e X.env [.ExceptHandler (some (.Name x np)) (some n) (b₀ :: suite) pos']) (SP X pins D) X.xe s₃) X.xe s₂) X.xe s₁) (fun u s' xx => ?_) PassesOwn.looking).run [] s σ H D (I.toTry _) h) (fun fl s1 hsp => ?_) (fun e s1 he => he)
  · obtain ⟨a, B, sI, pins', σ', H', cls, d, rfl, J', nb, up, sky, na, os, ag, b, hb1, hyes, hno⟩ := xx
    have J : Inv X pins σ' H' sI := J'.ofTry ok
    have sky' : Sky B (X.env :: X.outer) a (Zc cls d) X.env.locals s'.heap := by rw [← hs]; exact sky
    show wpAny (model X.prog X.w) X.A (noteFrame (.ref a) X.env) _ _ _
    refine Sky.land Zc.steady hfr hf sky' fun h3 fl3 up3 => ?_
    have J3 : Inv X pins σ' H' { s' with heap := h3 } := J.landed nb fl3.1 (up.trans up3) os ag
    obtain ⟨oe3, vs3, he3, hz3, hd3⟩ := fl3.there
    have notFr : ∀ {h : Heap} {o : Obj} {vs : Array Value}, h.FunFrames B (X.env :: X.outer) → h.get? a = some o → o.data = .fields vs → a ∉ frs (X.env :: X.outer) := fun {h o vs} ff e dd hm => by
      obtain ⟨_, o', e', hnf⟩ := ff.mem hm
      rw [e] at e'; cases e'
      exact hnf _ dd
    have nfr := notFr fl3.2.2.1 he3 hd3
    have nL : a ≠ X.env.locals := fun z => nfr (List.mem_filterMap.mpr ⟨X.env, List.mem_cons_self, by rw [hf, z]⟩)
    have nF : a ∉ X.fs := fun hm => by
      obtain ⟨e, he, q⟩ := List.mem_filterMap.mp hm
      exact nfr (List.mem_filterMap.mpr ⟨e, List.mem_cons_of_mem _ he, q⟩)
    have nI : sI.heap.get? a = none := by
      cases q : sI.heap.get? a with
      | none => rfl
      | some o =>
        have := nb a o q (by rw [hs]; exact nfr)
        rw [fl3.2.1] at this
        cases this
    have n0 : X.s_0.heap.get? a = none := by
      cases q : X.s_0.heap.get? a with
      | none => rfl
      | some o =>
        obtain ⟨o', e⟩ := J.base.there a o q (by rw [hex]; exact List.not_mem_nil)
        rw [nI] at e
        cases e
    have nP : ∀ p ∈ X.pn ++ pins, p.1 ≠ a := fun p hp z => by
      have := (J.pin p hp).1
      rw [z, nI] at this
      cases this
    have S3 := J3.suite he3 hd3 na nL nF
    refine wpAny_handleBy_cons (codeAny_handlers_test ?_) (by intro q; cases q)
    have LT : PySem.W.Looks (model X.prog X.w) h3 (typeOf (.ref a)) cls := fun A Q E s k q => wpAny_typeOf_ref (k _ _ he3) (by rw [hz3.1]; exact q)
    have LM := PySem.W.exm_one (M := model X.prog X.w) (J3.kIn) LT hb1
    have test : ∀ {Q : Value → Shared → Prop} {E : Value → Shared → Prop}, Q cv { s' with heap := h3 } → wpAny (model X.prog X.w) (X.A.mark (some (.ref a))) (eval (.Name x np) X.env) Q E { s' with heap := h3 } := fun {Q E} q => by
      obtain ⟨hg, hdbg, hm | ⟨hm, hv, hnn⟩⟩ := hc
      · exact ld_glob (X := X.suite a ((a, oe3) :: (X.pn ++ pins))) S3 hg hm q hdbg
      · exact ld_blt (X := X.suite a ((a, oe3) :: (X.pn ++ pins))) S3 hg hm hv q hnn hdbg
    refine test (LM.here ?_)
    cases b with
    | true =>
      refine codeAny_handlers_suite_as ?_
      refine HandSPX.lands_againZ fl3 fun h4 fl4 up4 => ?_
      have J4 : Inv X pins σ' H' { s' with heap := h4 } := J.landed nb fl4.1 ((up.trans up3).trans up4) os ag
      obtain ⟨oe4, vs4, he4, hz4, hd4⟩ := fl4.there
      have S4 := J4.suite he4 hd4 na nL nF
      obtain ⟨hdn, hyes2⟩ := hyes rfl
      subst hdn
      refine store_ok (X := X.suite a ((a, oe4) :: (X.pn ++ pins))) (v := .ref a) S4 hN hi hloc rfl (fun s5 S5 => ?_) (.inr hln)
      refine wpAny_mono ((hsu a oe4 cls (X.pn ++ pins)).run [] s5 _ H' _ S5 (hyes2 a na)) (fun fl s6 hsp => ?_) (fun _ _ z => False.elim z)
      cases fl with
      | next =>
        obtain ⟨σ6, H6, S6, q6⟩ := hsp
        obtain ⟨e6, n6, l6, f6, c6⟩ := S6.pin (a, oe4) (List.mem_append_left _ List.mem_cons_self)
        have J6 : Inv X pins σ6 (upd H6 a (ExI cls a)) s6 := inv_track (S6.unsuite ok) n6 nL (fun y c q z => by
          obtain ⟨v, o, h1, h2⟩ := (S6.unsuite ok).cell y c q
          rw [z, e6] at h1
          cases h1
          exact c6 v h2) nP n0 (exI_ok e6 hz4 hd4)
        exact gone_ok J6 hN hi hln fun s7 J7 => ⟨_, _, J7, q6⟩
      | brk =>
        obtain ⟨σ6, H6, S6, q6⟩ := hsp
        exact q6.elim
      | cont =>
        obtain ⟨σ6, H6, S6, q6⟩ := hsp
        exact q6.elim
      | ret u =>
        obtain ⟨v6, σ6, H6, S6, r6, q6⟩ := hsp
        exact q6.elim
    | false =>
      show wpAny _ X.A (handleBy (.ref a) X.env []) _ _ _
      refine wpAny_handleBy_nil ?_
      obtain ⟨k1, k2, k3, oe, vs, T, oT, ts', he, hz, hd, h1, hr⟩ := id fl3
      unfold PySem.passOn
      refine wpAny_bind (wpAny_field he hd h1 ?_)
      rw [if_neg (show ¬ ((Value.ref T == Value.none) = true) from by simp)]
      have fin : wpAny (model X.prog X.w) X.A (setFlight (.ref a) X.env.frame) (fun _ s4 => wpAny (model X.prog X.w) X.A (throw (.ref a) : Sem Flow) (SP X pins D) X.xe s4) X.xe { s' with heap := h3 } := by
        rw [hf]
        refine HandSPX.setFlight_upZ fl3 fun h4 hh4 up4 => wpAny_throw (tk _ _ ?_)
        exact ⟨a, B, sI, pins, σ', H', cls, d, rfl, J, nb, (up.trans up3).trans up4, .inr (.inr (by rw [hs]; exact hh4)), na, os, ag, hno rfl⟩
      first
        | exact wpAny_bind (wpAny_pure (wpAny_bind fin))
        | exact wpAny_bind fin
  · cases fl with
    | next =>
      obtain ⟨σ', H', J', q⟩ := hsp
      exact wpAny_execs_nil ⟨σ', H', J'.ofTry ok, q⟩
    | brk =>
      obtain ⟨σ', H', J', q⟩ := hsp
      exact ⟨σ', H', J'.ofTry ok, q⟩
    | cont =>
      obtain ⟨σ', H', J', q⟩ := hsp
      exact ⟨σ', H', J'.ofTry ok, q⟩
    | ret u =>
      obtain ⟨v, σ', H', J', r, q⟩ := hsp
      exact ⟨v, σ', H', J'.ofTry ok, r, q⟩
end
theorem clsOf_one {K : PySem.W.Frag} {k : Nat} {a b : Value} (h : ClsOf K k a) (h2 : ClsOf K k b) : a = b := by
  unfold ClsOf at h h2
  rw [h] at h2
  cases h2
  rfl
def rIsx (K : PySem.W.Frag) : List V → Hp → VK → Prop := fun xs H Q => ∃ (v c : V) (cv : Value) (b : Bool), xs = [v, c] ∧ ClsV c cv ∧ ((v = .non ∧ PySem.W.kitOne K (.type "NoneType") cv = some b) ∨ (∃ a D, v = .ref a ∧ H a = some (ExI (.ref D) a) ∧ ExcC K D ∧ PySem.W.kitOne K (.ref D) cv = some b)) ∧ Q (.bl b) H
theorem call_isx {X : Cx} : CallR X (.builtin "isinstance") (rIsx X.K) := by
  intro pins s σ H xs us Q I r h
  obtain ⟨v, c, cv, b, rfl, hcv, hv, q⟩ := h
  cases r with
  | cons rx rr =>
    cases rr with
    | cons rt rr =>
      cases rr
      have ec := hcv.eq rt
      subst ec
      rcases hv with ⟨e, hk⟩ | ⟨a, D, e, ha, C, hk⟩
      · subst e
        cases rx
        exact PySem.W.kia_one PySem.W.kitx_none I.kIn True.intro hk (fun z => nomatch z) fun tk => ⟨.bl b, H, I.kept (t' := tk) fun _ _ z => z, rfl, q⟩
      · subst e
        cases rx
        have ho : ObjOk X.prog X.w H s.heap a (ExI (.ref D) a) := I.hok a _ ha
        obtain ⟨⟨oe, vs, hget, hz, hv⟩, _⟩ := ho
        have J : PySem.W.InstAt s.heap a oe D none := by
          obtain ⟨oc, od, oda, osl⟩ := oe
          obtain ⟨h1, h2⟩ := hz
          dsimp only at h1 h2 hv
          subst h1 h2 hv
          exact ⟨hget, rfl, rfl, trivial⟩
        exact PySem.W.kia_one (PySem.W.handS_kitx_exc C.hg C.hk C.hs C.hd C.ha C.hn C.ht C.hm) I.kIn J hk (fun z => nomatch z) fun tk => ⟨.bl b, H, I.kept (t' := tk) fun _ _ z => z, rfl, q⟩
theorem exm_kit {K : PySem.W.Frag} {t cv : Value} {b : Bool} (hs : PySem.W.subIn K cv (.type "BaseException") = some true) (hl : PySem.W.kitCls K t t = some true) (hk : PySem.W.kitOne K t cv = some b) : PySem.W.exmOne K t cv = some b := by
  have e1 : (PySem.W.subIn K cv (.type "BaseException") == some true) = true := by rw [hs]; rfl
  show (if (PySem.W.subIn K cv (.type "BaseException") == some true) = true then PySem.W.kitCls K t cv else none) = some b
  rw [if_pos e1]
  unfold PySem.W.kitOne at hk
  split at hk
  · rename_i q
    have := eq_of_beq q
    subst this
    cases hk
    exact hl
  · exact hk
structure ExFacts (EX : List Nat) (K : PySem.W.Frag) (mg : Str → Option Value) (cls : Nat → Value) (sub : Nat → Nat → Option Bool) : Prop where
  pair : ∀ c k b, sub c k = some b → (∃ D, cls c = .ref D ∧ ExcC K D) ∧ ClsOf K c (cls c) ∧ PySem.W.kitOne K (cls c) (cls k) = some b ∧ PySem.W.exmOne K (cls c) (cls k) = some b
  non : ∀ k, k ∈ EX → PySem.W.kitOne K (.type "NoneType") (cls k) = some false
  nm : ∀ k, k ∈ EX → ((∃ C, cls k = .ref C) ∧ mg (exName k) = some (cls k)) ∨ (k = 11 ∧ cls k = .type "ValueError" ∧ mg (exName k) = none)
  rs : ∀ k, k ∈ EX → k ≠ 11 → ∃ (C : Addr) (B newId initId : String) (bmB : List Value), cls k = .ref C ∧ ExcBaseFacts B newId initId bmB ∧ PySem.W.excIn K C bmB newId = true ∧ PySem.W.keepIn K (.ref C) = true ∧ PySem.W.subIn K (.ref C) (.type "BaseException") = some true ∧ PySem.W.typeIn K (.ref C) = some (.type "type")
section
variable {EX : List Nat} {X : Cx} {c : Cn} {W : WX} {b : Bool} {ea : E} {pos : Pos}
theorem s_isx {p p2 : Pos} {k : Nat} {e : Expr} (F : ExFacts EX X.K X.mg c.cls c.cfg.sub) (hk : k ∈ EX) (hK : c.K = X.K) (hg : Gl X "isinstance") (hm : X.mg "isinstance" = none) (hg2 : Gl X (exName k)) (hdb : (exName k == ("__debug__" : Str)) = false) (ha : PE X e (TEr c W b ea)) (hn : notStar e = true) :
    PE X (.Call (.Name "isinstance" p) [e, .Name (exName k) p2] [] pos) (TEr c W false (.isx k ea)) := by
  obtain ⟨v, he, hv⟩ : ∃ v, PE X (.Name (exName k) p2) (tC v) ∧ ClsV v (c.cls k) := by
    rcases F.nm k hk with ⟨⟨C, e⟩, hm⟩ | ⟨e1, e2, hm⟩
    · rw [e] at hm ⊢
      exact ⟨.ref C, pe_glob hg2 hm rfl hdb, .own C⟩
    · subst e1
      rw [e2]
      exact ⟨.ty "ValueError", pe_bltn hg2 hm (by decide +kernel) rfl (by decide) hdb, .ty _⟩
  refine pe_imp (pe_callB call_isx hg hm boot_isi (pa_cons ha (pa_cons he pa_nil rfl) (star_of hn)) (by decide +kernel) (by decide +kernel) (star_of hn) rfl) fun σ H Q h => ?_
  obtain ⟨G, L, m, ρ, E, h⟩ := h
  rw [evE] at h
  refine TEr.bind E h fun d m1 w H1 L1 q1 s1 E1 r1 h1 => ?_
  show rIsx X.K [w, v] H1 Q
  cases d with
  | non =>
    refine ⟨w, v, _, false, rfl, hv, .inl ⟨r1.non, F.non k hk⟩, ?_⟩
    exact Pst.val E1 h1 (.inl (.bl _))
  | exc j =>
    have h1' : Pst c W false G L1 σ H1 Q (.opt ((c.cfg.sub j k).map D.bl) m1) := h1
    cases hs : c.cfg.sub j k with
    | none => rw [hs] at h1'; exact (show False from h1').elim
    | some t =>
      rw [hs] at h1'
      obtain ⟨⟨D, e, C⟩, hc, hk1, _⟩ := F.pair j k t hs
      rcases r1 with r1 | ⟨_, _, _, _, r1⟩
      · cases r1 with
        | exc hc2 ho =>
          rw [hK] at hc2
          have e2 := clsOf_one hc2 hc
          rw [e] at e2 hk1
          subst e2
          exact ⟨_, v, _, t, rfl, hv, .inr ⟨_, D, rfl, hide_sub _ _ ho, C, hk1⟩, Pst.val E1 h1' (.inl (.bl _))⟩
      · cases r1
  | _ => exact (show False from h1).elim
theorem any_kit {K : PySem.W.Frag} {t : Value} {sub : Nat → Nat → Option Bool} {cls : Nat → Value} {j : Nat} (h : ∀ k b, sub j k = some b → PySem.W.kitOne K t (cls k) = some b) : ∀ {ks : List Nat} {b : Bool}, anySub sub j ks = some b → PySem.W.kitAny K t (ks.map cls) = some b
  | [], _, e => by cases e; exact kitAny_nil
  | k :: ks, b, e => by
    unfold anySub at e
    cases hs : sub j k with
    | none => rw [hs] at e; cases e
    | some b0 =>
      rw [hs] at e
      obtain ⟨b1, h1, h2⟩ := Option.map_eq_some_iff.mp e
      subst h2
      refine kitAny_cons (h k b0 hs) (fun z => ?_) fun z => ?_
      · subst z
        rw [Bool.false_or]
        exact any_kit h h1
      · subst z
        rfl
theorem non_kit {K : PySem.W.Frag} {t : Value} {cls : Nat → Value} : ∀ {ks : List Nat}, (∀ k ∈ ks, PySem.W.kitOne K t (cls k) = some false) → PySem.W.kitAny K t (ks.map cls) = some false
  | [], _ => kitAny_nil
  | k :: ks, h => kitAny_cons (h k List.mem_cons_self) (fun _ => non_kit fun x hx => h x (List.mem_cons_of_mem _ hx)) fun z => by cases z
theorem cls_pa (F : ExFacts EX X.K X.mg c.cls c.cfg.sub) : ∀ (ks : List Nat) (es : List Expr), Paired (fun k e => k ∈ EX ∧ ∃ p, e = Expr.Name (exName k) p ∧ Gl X (exName k) ∧ (exName k == ("__debug__" : Str)) = false) ks es →
    ∃ vs, PA X es (fun σ H Q => Q vs H) ∧ Paired ClsV vs (ks.map c.cls) ∧ vs.length = ks.length
  | _, _, .nil => ⟨[], ⟨fun pos pins s σ H Q I h => pa_nil.run pos pins s σ H Q I h⟩, .nil, rfl⟩
  | k :: ks, e :: es, .cons hk t => by
    obtain ⟨hk, p2, rfl, hg2, hdb⟩ := hk
    obtain ⟨vs, pa, pv, hl⟩ := cls_pa F ks es t
    obtain ⟨v, he, hv⟩ : ∃ v, PE X (.Name (exName k) p2) (tC v) ∧ ClsV v (c.cls k) := by
      rcases F.nm k hk with ⟨⟨C, e⟩, hm⟩ | ⟨e1, e2, hm⟩
      · rw [e] at hm ⊢
        exact ⟨.ref C, pe_glob hg2 hm rfl hdb, .own C⟩
      · subst e1
        rw [e2]
        exact ⟨.ty "ValueError", pe_bltn hg2 hm (by decide +kernel) rfl (by decide) hdb, .ty _⟩
    exact ⟨v :: vs, ⟨fun pos pins s σ H Q I h => (pa_cons he pa rfl).run pos pins s σ H Q I h⟩, .cons hv pv, congrArg (· + 1) hl⟩
def rIsxT (K : PySem.W.Frag) : List V → Hp → VK → Prop := fun xs H Q => ∃ (v : V) (tp : Addr) (cs : List V) (us : List Value) (b : Bool), xs = [v, .ref tp] ∧ H tp = some (.tup cs) ∧ Paired ClsV cs us ∧ ((v = .non ∧ PySem.W.kitAny K (.type "NoneType") us = some b) ∨ (∃ a D, v = .ref a ∧ H a = some (ExI (.ref D) a) ∧ ExcC K D ∧ PySem.W.kitAny K (.ref D) us = some b)) ∧ Q (.bl b) H
theorem call_isxT : CallR X (.builtin "isinstance") (rIsxT X.K) := by
  intro pins s σ H xs us Q I r h
  obtain ⟨v, tp, cs, ws, b, rfl, hT, k, hv, q⟩ := h
  cases r with
  | cons rx rr =>
    cases rr with
    | cons rt rr =>
      cases rr
      cases rt
      obtain ⟨_, its, rv, o, h1, h2, n, h3⟩ := (show ObjOk X.prog X.w H s.heap tp (.tup cs) from I.hok tp _ hT)
      have e3 := ClsV.all k rv
      subst e3
      obtain ⟨oc, od, dt, sl⟩ := o
      simp only at h2 h3
      subst h2 h3
      rcases hv with ⟨e, hk⟩ | ⟨a, D, e, ha, C, hk⟩
      · subst e
        cases rx
        exact PySem.W.kia_tup PySem.W.kitx_none I.kIn True.intro h1 hk (fun z => nomatch z) fun tk => ⟨.bl b, H, I.kept (t' := tk) fun _ _ z => z, rfl, q⟩
      · subst e
        cases rx
        have ho : ObjOk X.prog X.w H s.heap a (ExI (.ref D) a) := I.hok a _ ha
        obtain ⟨⟨oe, vs, hget, hz, hv⟩, _⟩ := ho
        have J : PySem.W.InstAt s.heap a oe D none := by
          obtain ⟨oc, od, oda, osl⟩ := oe
          obtain ⟨h1, h2⟩ := hz
          dsimp only at h1 h2 hv
          subst h1 h2 hv
          exact ⟨hget, rfl, rfl, trivial⟩
        exact PySem.W.kia_tup (PySem.W.handS_kitx_exc C.hg C.hk C.hs C.hd C.ha C.hn C.ht C.hm) I.kIn J h1 hk (fun z => nomatch z) fun tk => ⟨.bl b, H, I.kept (t' := tk) fun _ _ z => z, rfl, q⟩
theorem s_isxT {p p2 : Pos} {kk : Nat} {ks : List Nat} {es : List Expr} {e : Expr} (F : ExFacts EX X.K X.mg c.cls c.cfg.sub) (hks : Paired (fun k e => k ∈ EX ∧ ∃ p, e = Expr.Name (exName k) p ∧ Gl X (exName k) ∧ (exName k == ("__debug__" : Str)) = false) ks es) (hz : ks.length ≤ 1000) (hne : ks ≠ []) (hmem : ∀ k ∈ ks, k ∈ EX) (hK : c.K = X.K) (hg : Gl X "isinstance") (hm : X.mg "isinstance" = none) (ha : PE X e (TEr c W b ea)) (hn : notStar e = true) :
    PE X (.Call (.Name "isinstance" p) [e, .Tuple es kk p2] [] pos) (TEr c W false (.isxT ks ea)) := by
  obtain ⟨vs, pav, hv, hl⟩ := cls_pa F ks es hks
  have het : PE X (.Tuple es kk p2) (tTup (fun σ H Q => Q vs H)) := pe_tup pav
  refine pe_imp (pe_callB call_isxT hg hm boot_isi (pa_cons ha (pa_cons het pa_nil rfl) (star_of hn)) (by decide +kernel) (by decide +kernel) (star_of hn) rfl) fun σ H Q h => ?_
  obtain ⟨G, L, m, ρ, E, h⟩ := h
  rw [evE] at h
  refine TEr.bind E h fun d m1 w H1 L1 q1 s1 E1 r1 h1 => ?_
  refine ⟨by rw [hl]; exact Nat.le_trans hz (by decide), fun tp n => ?_⟩
  have st : Stp L1 L1 H1 (upd H1 tp (.tup vs)) := Stp.upd n
  have r2 := r1.step E1 st
  show rIsxT X.K [w, .ref tp] _ Q
  cases d with
  | non =>
    have q := (h1.step st) _ _ (Stp.refl _ _) (E1.sok.upd n) _ (.inl (.bl _))
    exact ⟨w, tp, vs, _, false, rfl, upd_same, hv, .inl ⟨r2.non, non_kit fun k hk => F.non k (hmem k hk)⟩, q⟩
  | exc j =>
    have h1' : Pst c W false G L1 σ H1 Q (.opt ((anySub c.cfg.sub j ks).map D.bl) m1) := h1
    cases hs : anySub c.cfg.sub j ks with
    | none => rw [hs] at h1'; exact (show False from h1').elim
    | some t =>
      rw [hs] at h1'
      have q := (h1'.step st) _ _ (Stp.refl _ _) (E1.sok.upd n) _ (.inl (.bl _))
      rcases r2 with r2 | ⟨_, _, _, _, r2⟩
      · cases r2 with
        | exc hc2 ho =>
          obtain ⟨k0, ks0, rfl⟩ : ∃ k0 ks0, ks = k0 :: ks0 := by
            cases ks with
            | nil => exact absurd rfl hne
            | cons k0 ks0 => exact ⟨k0, ks0, rfl⟩
          obtain ⟨b0, hb0⟩ : ∃ b0, c.cfg.sub j k0 = some b0 := by
            unfold anySub at hs
            cases h0 : c.cfg.sub j k0 with
            | none => rw [h0] at hs; cases hs
            | some b0 => exact ⟨b0, rfl⟩
          obtain ⟨⟨D, e, C⟩, hc, _, _⟩ := F.pair j k0 b0 hb0
          rw [hK] at hc2
          have e2 := clsOf_one hc2 hc
          rw [e] at e2
          subst e2
          exact ⟨_, tp, vs, _, t, rfl, upd_same, hv, .inr ⟨_, D, rfl, hide_sub _ _ ho, C, any_kit (fun k b hb => by rw [← e]; exact (F.pair j k b hb).2.2.1) hs⟩, q⟩
      · cases r2
  | _ => exact (show False from h1).elim
end
end MP
set_option maxRecDepth 100000
set_option maxHeartbeats 4000000
set_option autoImplicit false
namespace MP
namespace TZ
open PySem
open Sem (wp)
theorem zip_no_len : typeLookup (.type "zip") "__len__" = pure none := am_miss_of_fast (by decide +kernel)
theorem zip_no_hint : typeLookup (.type "zip") "__length_hint__" = pure none := am_miss_of_fast (by decide +kernel)
section
variable {prog : Program} {w : World} {A : Around} {s : Shared}
structure ZSt (z TI TO i1 i2 l1 l2 S n0 : Addr) (xs ys : Array Value) (i : Nat) (h : Heap) : Prop where
  ti : IsPair h TI (.ref i1) (.ref i2)
  a1 : h.IsListIter i1 l1 i
  a2 : h.IsListIter i2 l2 i
  b1 : h.IsList l1 xs
  b2 : h.IsList l2 ys
  sz : n0 ≤ h.objs.size
  st : (IsZip h z TI TO .none ∧ ∃ a b, IsPair h TO a b) ∨ ∃ T f oT, IsZipHeld h z TI TO T f ∧ h.get? T = some oT ∧ T ≠ z ∧ T ≠ i1 ∧ T ≠ i2 ∧ T ≠ S
structure Low (z TI TO i1 i2 l1 l2 S n0 : Addr) : Prop where
  pz : z < n0
  pTO : TO < n0
  pi1 : i1 < n0
  pi2 : i2 < n0
  pS : S < n0
  Sz : S ≠ z
  STI : S ≠ TI
  STO : S ≠ TO
  Si1 : S ≠ i1
  Si2 : S ≠ i2
  Sl1 : S ≠ l1
  Sl2 : S ≠ l2
variable {z TI TO i1 i2 l1 l2 S n0 : Addr} {xs ys : Array Value}
theorem ZSt.frame {i : Nat} {h h' : Heap} (w : Low z TI TO i1 i2 l1 l2 S n0) (x : ZSt z TI TO i1 i2 l1 l2 S n0 xs ys i h) (k : ∀ b o, b ≠ S → h.get? b = some o → h'.get? b = some o) (hz : h.objs.size ≤ h'.objs.size) : ZSt z TI TO i1 i2 l1 l2 S n0 xs ys i h' where
  ti := k _ _ (Ne.symm w.STI) x.ti
  a1 := x.a1.at fun o e => k _ o (Ne.symm w.Si1) e
  a2 := x.a2.at fun o e => k _ o (Ne.symm w.Si2) e
  b1 := x.b1.at fun o e => k _ o (Ne.symm w.Sl1) e
  b2 := x.b2.at fun o e => k _ o (Ne.symm w.Sl2) e
  sz := Nat.le_trans x.sz hz
  st := by
    rcases x.st with ⟨hz, a, b, hTO⟩ | ⟨T, f, oT, hz, hT, r1, r2, r3, r4⟩
    · exact .inl ⟨k _ _ (Ne.symm w.Sz) hz, a, b, k _ _ (Ne.symm w.STO) hTO⟩
    · exact .inr ⟨T, f, oT, k _ _ (Ne.symm w.Sz) hz, k _ _ r4 hT, r1, r2, r3, r4⟩
theorem ZSt.item {i : Nat} {Q : Option Value → Shared → Prop} {E : Value → Shared → Prop} {x y : Value} (D : ZipApart z TI TO i1 i2 l1 l2) (w0 : Low z TI TO i1 i2 l1 l2 S n0) (st : ZSt z TI TO i1 i2 l1 l2 S n0 xs ys i s.heap) (ex : xs[i]? = some x) (ey : ys[i]? = some y)
    (hQ : ∀ h' : Heap, IsPair h' s.heap.objs.size x y → ZSt z TI TO i1 i2 l1 l2 S n0 xs ys (i + 1) h' → (∀ b o, b ∉ [z, TO, i1, i2] → s.heap.get? b = some o → h'.get? b = some o) → Q (some (.ref s.heap.objs.size)) { s with heap := h' }) :
    wpAny (model prog w) A (pyNext (.ref z)) Q E s := by
  have lt : ∀ {c o}, s.heap.get? c = some o → s.heap.objs.size ≠ c := fun e => Nat.ne_of_gt (Heap.lt_size e)
  have n1 : s.heap.objs.size ≠ i1 := let ⟨_, e, _⟩ := st.a1; lt e
  have n2 : s.heap.objs.size ≠ i2 := let ⟨_, e, _⟩ := st.a2; lt e
  have nS : s.heap.objs.size ≠ S := Nat.ne_of_gt (Nat.lt_of_lt_of_le w0.pS st.sz)
  rcases st.st with ⟨hz, a, b, hTO⟩ | ⟨T, f, oT, hz, hT, r1, r2, r3, r4⟩
  · refine wpAny_pyNext_zip_item D hz st.ti hTO st.a1 st.a2 st.b1 st.b2 ex ey fun h' a1 a2 a3 a4 a5 a6 hk => ?_
    exact hQ h' a5 ⟨hk _ _ D.TIz D.TITO D.TIi1 D.TIi2 st.ti, a3, a4, st.b1.at fun o e => hk _ o D.l1z D.l1TO D.l1i1 D.l1i2 e, st.b2.at fun o e => hk _ o D.l2z D.l2TO D.l2i1 D.l2i2 e, by rw [a6]; exact Nat.le_succ_of_le st.sz,
      .inr ⟨s.heap.objs.size, false, _, a1, a5, lt hz, n1, n2, nS⟩⟩
      fun c o hc e => hk c o (fun x => hc (by simp [x])) (fun x => hc (by simp [x])) (fun x => hc (by simp [x])) (fun x => hc (by simp [x])) e
  · refine wpAny_pyNext_zip_item_held D hz hT st.ti st.a1 st.a2 st.b1 st.b2 ex ey fun h' a1 a3 a4 a5 a6 hk => ?_
    exact hQ h' a5 ⟨hk _ _ D.TIz D.TIi1 D.TIi2 st.ti, a3, a4, st.b1.at fun o e => hk _ o D.l1z D.l1i1 D.l1i2 e, st.b2.at fun o e => hk _ o D.l2z D.l2i1 D.l2i2 e, by rw [a6]; exact Nat.le_succ_of_le st.sz,
      .inr ⟨T, true, oT, a1, hk _ _ r1 r2 r3 hT, r1, r2, r3, r4⟩⟩
      fun c o hc e => hk c o (fun x => hc (by simp [x])) (fun x => hc (by simp [x])) (fun x => hc (by simp [x])) e
theorem ZSt.done {Q : Option Value → Shared → Prop} {E : Value → Shared → Prop} {i : Nat} (hh : A.handled = none) (D : ZipApart z TI TO i1 i2 l1 l2) (st : ZSt z TI TO i1 i2 l1 l2 S n0 xs ys i s.heap) (hend : xs[i]? = none ∨ ys[i]? = none)
    (hQ : ∀ h' : Heap, (∀ b o, b ∉ [z, TO, i1, i2] → s.heap.get? b = some o → h'.get? b = some o) → Q none { s with heap := h' }) : wpAny (model prog w) A (pyNext (.ref z)) Q E s := by
  rcases st.st with ⟨hz, a, b, hTO⟩ | ⟨T, f, oT, hz, hT, r1, r2, r3, r4⟩
  · exact wpAny_pyNext_zip_end hh D hz st.ti hTO st.a1 st.a2 st.b1 st.b2 hend fun h' hk => hQ h' fun c o hc e => hk c o (fun x => hc (by simp [x])) (fun x => hc (by simp [x])) (fun x => hc (by simp [x])) (fun x => hc (by simp [x])) e
  · exact wpAny_pyNext_zip_end_held hh D hz hT st.ti st.a1 st.a2 st.b1 st.b2 hend fun h' hk => hQ h' fun c o hc e => hk c o (fun x => hc (by simp [x])) (fun x => hc (by simp [x])) (fun x => hc (by simp [x])) e
structure Accs (n0 : Addr) (xs ys : Array Value) (h : Heap) (acc : Array Value) (i : Nat) : Prop where
  size : acc.size = i
  it : ∀ j, j < i → ∃ T x y, acc[j]? = some (.ref T) ∧ xs[j]? = some x ∧ ys[j]? = some y ∧ IsPair h T x y ∧ n0 ≤ T
  inj : ∀ j k T, j < k → k < i → acc[j]? = some (.ref T) → acc[k]? ≠ some (.ref T)
theorem Accs.keep {h h' : Heap} {acc : Array Value} {i : Nat} (x : Accs n0 xs ys h acc i) (k : ∀ b o, n0 ≤ b → h.get? b = some o → h'.get? b = some o) : Accs n0 xs ys h' acc i :=
  ⟨x.size, fun j hj => let ⟨T, a, b, e1, e2, e3, e4, e5⟩ := x.it j hj; ⟨T, a, b, e1, e2, e3, k _ _ e5 e4, e5⟩, x.inj⟩
theorem extend_zip {R : Result → Shared → Prop} {n : Nat} (hh : A.in1.handled = none) (D : ZipApart z TI TO i1 i2 l1 l2) (w0 : Low z TI TO i1 i2 l1 l2 S n0) (hn : n ≤ sizeLine) (hx : n ≤ xs.size) (hy : n ≤ ys.size) (hend : xs[n]? = none ∨ ys[n]? = none) (res : Value) :
    ∀ (k i : Nat) (s : Shared) (acc : Array Value) (c : Nat), n - i = k → i ≤ n → ZSt z TI TO i1 i2 l1 l2 S n0 xs ys i s.heap → s.heap.get? S = some { cls := .type "list", dict := none, data := .seq acc c, slots := #[] } → Accs n0 xs ys s.heap acc i →
    (∀ h' acc' c', (∀ b o, b ∉ [S, z, TO, i1, i2] → s.heap.get? b = some o → h'.get? b = some o) → h'.get? S = some { cls := .type "list", dict := none, data := .seq acc' c', slots := #[] } → Accs n0 xs ys h' acc' n → R (.ok (.ret res)) { s with heap := h' }) →
    codeAny (model prog w) A (.builtin "list.extend.loop" ⟨[.ref S, .ref z, res], []⟩) R s := by
  have hSw : S ∉ [z, TO, i1, i2] := fun h => by
    simp only [List.mem_cons, List.not_mem_nil, or_false] at h
    rcases h with h | h | h | h
    · exact w0.Sz h
    · exact w0.STO h
    · exact w0.Si1 h
    · exact w0.Si2 h
  have big : ∀ {a b : Addr}, a < n0 → n0 ≤ b → b ≠ a := fun h1 h2 h => by
    subst h
    exact absurd (Nat.lt_of_lt_of_le h1 h2) (Nat.lt_irrefl _)
  have high : ∀ b, n0 ≤ b → b ∉ [z, TO, i1, i2] := fun b hb h => by
    simp only [List.mem_cons, List.not_mem_nil, or_false] at h
    rcases h with h | h | h | h
    · exact big w0.pz hb h
    · exact big w0.pTO hb h
    · exact big w0.pi1 hb h
    · exact big w0.pi2 hb h
  have hsub : ∀ b, b ∉ [S, z, TO, i1, i2] → b ∉ [z, TO, i1, i2] := fun b hb h => hb (List.mem_cons_of_mem _ h)
  have highS : ∀ b, n0 ≤ b → b ≠ S := fun b hb => big w0.pS hb
  intro k
  induction k with
  | zero =>
    intro i s acc c hk hi hst hS hacc hR
    have hin : i = n := by omega
    subst hin
    refine codeAny_builtin F.entry_extend_loop ?_
    rw [Around.under_plainId F.plain_extend_loop _]
    show wpAny _ A.in1 (pyNext (.ref z) >>= _) _ _ s
    refine wpAny_bind (hst.done hh D hend fun h' hk => ?_)
    exact wpAny_pure (hR h' acc c (fun b o hb e => hk b o (hsub b hb) e) (hk S _ hSw hS) (hacc.keep fun b o hb e => hk b o (high b hb) e))
  | succ k ih =>
    intro i s acc c hk hi hst hS hacc hR
    have hlt : i < n := by omega
    refine codeAny_builtin F.entry_extend_loop ?_
    rw [Around.under_plainId F.plain_extend_loop _]
    show wpAny _ A.in1 (pyNext (.ref z) >>= _) _ _ s
    have ex := Array.getElem?_eq_getElem (Nat.lt_of_lt_of_le hlt hx)
    have ey := Array.getElem?_eq_getElem (Nat.lt_of_lt_of_le hlt hy)
    refine wpAny_bind (hst.item D w0 ex ey fun h' hP hst' hm => ?_)
    have hS' := hm S _ hSw hS
    show wpAny _ A.in1 (updateSeq S (·.push (.ref s.heap.objs.size)) >>= _) _ _ _
    refine wpAny_bind ?_
    have oth : ∀ b o, b ≠ S → h'.get? b = some o → (h'.update S (Obj.mapSeq (·.push (.ref s.heap.objs.size)))).get? b = some o := fun b o hb e => (Heap.get?_update_other _ _ (Ne.symm hb)).trans e
    refine wpAny_updateSeq hS' rfl (wpAny_pure ⟨plainId_quiet F.plain_extend_loop _, ih (i + 1) _ (acc.push (.ref s.heap.objs.size)) _ (by omega) hlt (hst'.frame w0 (fun b o hb e => oth b o hb e) (by rw [Heap.size_update]; exact Nat.le_refl _)) (Heap.get?_update_self _ hS' rfl) ⟨by rw [Array.size_push, hacc.size], fun j hj => ?_, fun j k2 T hjk hk2 e1 e2 => ?_⟩ fun h'' acc' c' hm'' hS'' hacc' => ?_⟩)
      (by rw [hacc.size]; omega) (by show (acc.push _).size ≤ sizeLine + 1; rw [Array.size_push, hacc.size]; omega)
    · by_cases hj' : j < i
      · obtain ⟨T, a, b, e1, e2, e3, e4, e5⟩ := hacc.it j hj'
        refine ⟨T, a, b, ?_, e2, e3, oth _ _ (highS T e5) (hm _ _ (high T e5) e4), e5⟩
        rw [Array.getElem?_push, if_neg (by rw [hacc.size]; omega)]
        exact e1
      · have hji : j = i := by omega
        subst hji
        refine ⟨s.heap.objs.size, _, _, ?_, ex, ey, oth _ _ (highS _ hst.sz) hP, hst.sz⟩
        rw [Array.getElem?_push, if_pos (by rw [hacc.size])]
    · have hj' : j < i := by omega
      rw [Array.getElem?_push, if_neg (by rw [hacc.size]; omega)] at e1
      by_cases hk' : k2 < i
      · rw [Array.getElem?_push, if_neg (by rw [hacc.size]; omega)] at e2
        exact hacc.inj j k2 T hjk hk' e1 e2
      · rw [Array.getElem?_push, if_pos (by rw [hacc.size]; omega)] at e2
        obtain ⟨T', a, b, f1, _, _, f4, _⟩ := hacc.it j hj'
        rw [f1] at e1
        cases e1
        cases e2
        exact absurd (Heap.lt_size f4) (Nat.lt_irrefl _)
    · refine hR h'' acc' c' (fun b o hb e => hm'' b o hb (oth b o (fun z => hb (by rw [z]; exact List.mem_cons_self)) (hm b o (hsub b hb) e))) hS'' hacc'
theorem collect_zip {a b : Value} {Q : List Value → Shared → Prop} {E : Value → Shared → Prop} (hh : A.handled = none) (D : ZipApart z TI TO i1 i2 l1 l2) (hz : IsZip s.heap z TI TO .none) (hTI : IsPair s.heap TI (.ref i1) (.ref i2)) (hTO : IsPair s.heap TO a b) (h1 : s.heap.IsListIter i1 l1 0) (h2 : s.heap.IsListIter i2 l2 0)
    (hl1 : s.heap.IsList l1 xs) (hl2 : s.heap.IsList l2 ys) (hn : min xs.size ys.size ≤ sizeLine)
    (hQ : ∀ (h' : Heap) (acc : Array Value), (∀ b o, b ∉ [z, TO, i1, i2] → s.heap.get? b = some o → h'.get? b = some o) → Accs (s.heap.objs.size + 1) xs ys h' acc (min xs.size ys.size) → Q acc.toList { s with heap := h' }) :
    wpAny (model prog w) A (collect (.ref z)) Q E s := by
  have lt : ∀ {c o}, s.heap.get? c = some o → c < s.heap.objs.size := fun e => Heap.lt_size e
  have lz := lt hz
  have lTI := lt hTI
  have lTO := lt hTO
  have li1 : i1 < s.heap.objs.size := let ⟨_, e, _⟩ := h1; lt e
  have li2 : i2 < s.heap.objs.size := let ⟨_, e, _⟩ := h2; lt e
  have ll1 : l1 < s.heap.objs.size := let ⟨_, e, _⟩ := hl1; lt e
  have ll2 : l2 < s.heap.objs.size := let ⟨_, e, _⟩ := hl2; lt e
  have ne : ∀ {c : Nat}, c < s.heap.objs.size → s.heap.objs.size ≠ c := fun h => Nat.ne_of_gt h
  have w0 : Low z TI TO i1 i2 l1 l2 s.heap.objs.size (s.heap.objs.size + 1) := ⟨Nat.lt_succ_of_lt lz, Nat.lt_succ_of_lt lTO, Nat.lt_succ_of_lt li1, Nat.lt_succ_of_lt li2, Nat.lt_succ_self _, ne lz, ne lTI, ne lTO, ne li1, ne li2, ne ll1, ne ll2⟩
  have hSI : s.heap.objs.size ≠ z := ne lz
  unfold collect
  refine wpAny_bind (wpAny_runValue (codeAny_builtin F.entry_proto_collect ?_))
  rw [Around.under_plainId F.plain_proto_collect _]
  show wpAny _ A.in1 (newList [] >>= fun l => again (.builtin "list.__iadd__" ⟨[l, .ref z], []⟩)) _ _ s
  refine wpAny_bind (wpAny_newObj_type ?_)
  refine wpAny_pure ⟨plainId_quiet F.plain_list_iadd _, codeAny_builtin F.entry_list_iadd ?_⟩
  rw [Around.under_plainId F.plain_list_iadd _]
  have old : ∀ b o, s.heap.get? b = some o → (s.heap.push { cls := .type "list", data := .seq ([] : List Value).toArray }).get? b = some o := fun b o e => Heap.get?_push_of_some _ e
  have hz1 := old _ _ hz
  have hT : ({ s with heap := s.heap.push { cls := .type "list", data := .seq ([] : List Value).toArray } } : Shared).TypeIs (.ref z) "zip" := ⟨_, hz1, rfl⟩
  show wpAny _ A.in1 (Builtin.List.listExtendWith (.ref s.heap.objs.size) (.ref z) (.ref s.heap.objs.size)) _ _ _
  unfold Builtin.List.listExtendWith
  refine wpAny_bind (wpAny_typeOf hT ?_)
  have g1 : Builtin.List.listSameRef (.ref s.heap.objs.size) (.ref z) = false := by simp [Builtin.List.listSameRef, hSI]
  have g2 : (Value.type "zip" == Value.type "list") = false := by decide
  have g3 : (Value.type "zip" == Value.type "tuple") = false := by decide
  simp only [g1, g2, g3, Bool.or_false, Bool.false_eq_true, if_false]
  refine wpAny_bind (wpAny_pyIter_zip hz1 ?_)
  refine wpAny_bind (wpAny_holding ?_)
  unfold Builtin.List.listLengthHint
  refine wpAny_bind (wpAny_specialOf hT zip_no_len ?_)
  show wpAny _ A.in1 (specialOf (Value.ref z) (Str.ofString "__length_hint__") >>= _) _ _ _
  refine wpAny_bind (wpAny_specialOf hT zip_no_hint ?_)
  refine wpAny_pure ?_
  show wpAny _ A.in1 (rule "list.extend.makes-room" >>= fun _ => Builtin.List.listTouch (.ref s.heap.objs.size) >>= fun _ =>
    again (.builtin "list.extend.loop" ⟨[.ref s.heap.objs.size, .ref z, .ref s.heap.objs.size], []⟩)) _ _ _
  refine wpAny_bind (wpAny_rule ?_)
  have hS₁ : (s.heap.push { cls := .type "list", data := .seq ([] : List Value).toArray }).get? s.heap.objs.size = some { cls := .type "list", data := .seq ([] : List Value).toArray } := Heap.get?_push_size _ rfl
  refine wpAny_bind ?_
  show wpAny _ A.in1 (updateSeq s.heap.objs.size (·.push .none) >>= fun _ => updateSeq s.heap.objs.size (·.pop)) _ _ _
  refine wpAny_bind (wpAny_updateSeq hS₁ rfl ?_)
  have hS₂ := Heap.get?_update_self (Obj.mapSeq (·.push Value.none)) hS₁ rfl
  refine wpAny_updateSeq hS₂ rfl ?_
  have hS₃ := Heap.get?_update_self (Obj.mapSeq (·.pop)) hS₂ rfl
  have oth : ∀ b o, s.heap.get? b = some o →
      (((s.heap.push { cls := .type "list", data := .seq ([] : List Value).toArray }).update s.heap.objs.size (Obj.mapSeq (·.push Value.none))).update s.heap.objs.size (Obj.mapSeq (·.pop))).get? b = some o :=
    fun b o e => by
      have hb : s.heap.objs.size ≠ b := ne (lt e)
      exact (Heap.get?_update_other _ _ hb).trans ((Heap.get?_update_other _ _ hb).trans (old b o e))
  have hend : xs[min xs.size ys.size]? = none ∨ ys[min xs.size ys.size]? = none := by
    rcases Nat.le_total xs.size ys.size with h | h
    · exact .inl (Array.getElem?_eq_none (by rw [Nat.min_eq_left h]; exact Nat.le_refl _))
    · exact .inr (Array.getElem?_eq_none (by rw [Nat.min_eq_right h]; exact Nat.le_refl _))
  refine wpAny_pure ⟨plainId_quiet F.plain_extend_loop _, extend_zip (A := A) hh D w0 hn (Nat.min_le_left ..) (Nat.min_le_right ..) hend _ _ 0 _ _ _ rfl (Nat.zero_le _)
    ⟨oth _ _ hTI, h1.at fun o e => oth _ o e, h2.at fun o e => oth _ o e, hl1.at fun o e => oth _ o e, hl2.at fun o e => oth _ o e, by rw [Heap.size_update, Heap.size_update, Heap.size_push]; exact Nat.le_refl _, .inl ⟨oth _ _ hz, _, _, oth _ _ hTO⟩⟩ hS₃ ⟨rfl, fun j hj => absurd hj (Nat.not_lt_zero _), fun j k T _ hk => absurd hk (Nat.not_lt_zero _)⟩ fun h' acc' c' hm hS' hacc => ?_⟩
  show wpAny _ A (load s.heap.objs.size >>= _) _ _ _
  refine wpAny_bind (wpAny_load hS' ?_)
  refine wpAny_pure (hQ h' acc' (fun b o hb e => hm b o (fun hmem => ?_) (oth b o e)) hacc)
  rcases List.mem_cons.mp hmem with e' | hmem
  · exact ne (lt e) e'.symm
  · exact hb hmem
theorem code_tuple_new_zip {a b : Value} {Q₁ : Value → Shared → Prop} {E : Value → Shared → Prop} (hh : A.handled = none) (D : ZipApart z TI TO i1 i2 l1 l2) (hz : IsZip s.heap z TI TO .none) (hTI : IsPair s.heap TI (.ref i1) (.ref i2)) (hTO : IsPair s.heap TO a b) (h1 : s.heap.IsListIter i1 l1 0) (h2 : s.heap.IsListIter i2 l2 0)
    (hl1 : s.heap.IsList l1 xs) (hl2 : s.heap.IsList l2 ys) (hn : min xs.size ys.size ≤ sizeLine)
    (h : ∀ (h' : Heap) (acc : Array Value), (∀ b o, b ∉ [z, TO, i1, i2] → s.heap.get? b = some o → h'.get? b = some o) → Accs (s.heap.objs.size + 1) xs ys h' acc (min xs.size ys.size) → Q₁ (.ref h'.objs.size) { s with heap := h'.push { cls := .type "tuple", data := .seq acc } }) :
    codeAny (model prog w) A (.call (.builtin "tuple.__new__") ⟨[.type "tuple", .ref z], []⟩) (wants Q₁ E) s := by
  refine codeAny_of_tree ?_
  show wpAny _ A.in1 (do checkBuiltinCall "tuple.__new__" ⟨[.type "tuple", .ref z], []⟩; again (.builtin "tuple.__new__" ⟨[.type "tuple", .ref z], []⟩)) _ _ s
  refine wpAny_bind (wpAny_of_eq (F.newCall_tuple_1 _) (wpAny_pure ⟨plainId_quiet F.plain_tuple_new _, codeAny_builtin F.entry_tuple_new ?_⟩))
  rw [Around.under_plainId F.plain_tuple_new _]
  have hsub := sub_tuple_self
  have hinit := init_tuple_lookup
  have hmh := madeHere_tuple
  have hTz : s.TypeIs (.ref z) "zip" := ⟨_, hz, rfl⟩
  have hh1 : A.in1.handled = none := hh
  wp_walk using wpAny_typeOf hTz, collect_zip (A := A.in1) hh1 D hz hTI hTO h1 h2 hl1 hl2 hn
  intro h' acc hk hacc
  show wpAny _ _ (Builtin.Tuple.tupleExact acc.toList.toArray >>= fun v => ret v) _ _ _
  unfold Builtin.Tuple.tupleExact
  refine wpAny_bind (wpAny_newObj_type ?_ (by show acc.toList.toArray.size ≤ sizeLine; simp only [Array.toArray_toList]; rw [hacc.size]; exact hn))
  refine wpAny_pure ?_
  have e : acc.toList.toArray = acc := by simp
  rw [e]
  exact h h' acc hk hacc
theorem call_tuple_zip {a b : Value} {Q : Value → Shared → Prop} {E : Value → Shared → Prop} (hh : A.handled = none) (D : ZipApart z TI TO i1 i2 l1 l2) (hz : IsZip s.heap z TI TO .none) (hTI : IsPair s.heap TI (.ref i1) (.ref i2)) (hTO : IsPair s.heap TO a b) (h1 : s.heap.IsListIter i1 l1 0) (h2 : s.heap.IsListIter i2 l2 0)
    (hl1 : s.heap.IsList l1 xs) (hl2 : s.heap.IsList l2 ys) (hn : min xs.size ys.size ≤ sizeLine)
    (hQ : ∀ (h' : Heap) (acc : Array Value), (∀ b o, b ∉ [z, TO, i1, i2] → s.heap.get? b = some o → h'.get? b = some o) → Accs (s.heap.objs.size + 1) xs ys h' acc (min xs.size ys.size) → Q (.ref h'.objs.size) { s with heap := h'.push { cls := .type "tuple", data := .seq acc } }) :
    wpAny (model prog w) A (call (.type "tuple") [.ref z]) Q E s := by
  refine callType_codes (Q₁ := fun obj s₁ => s₁.TypeIs obj "tuple" ∧ Q obj s₁) F.called_tuple (F.typeCall_tuple_1 _) F.entry_object_init
    (code_tuple_new_zip (A := A.in1) hh D hz hTI hTO h1 h2 hl1 hl2 hn fun h' acc hk hacc => ⟨⟨_, Heap.get?_push_size _ rfl, rfl⟩, hQ h' acc hk hacc⟩) fun obj s₁ h₁ => ?_
  exact ⟨h₁.1, F.args_object_init_2 obj _, object_init_meets F.called_tuple.init.lookup F.called_tuple.made (by decide) prog w A.in1 _ s₁ ⟨h₁.1, rfl, h₁.2⟩⟩
end
end TZ
open PySem L2 PySem.Spec PyProof.Rows
structure Trk (X : Cx) (pins : List (Addr × Obj)) (a : Addr) : Prop where
  L : a ≠ X.env.locals
  C : ∀ x c, X.env.cells.lookup x = some c → c ≠ a
  p : ∀ p ∈ X.pn ++ pins, p.1 ≠ a
  z : X.s_0.heap.get? a = none
theorem trk_of {X : Cx} {pins : List (Addr × Obj)} {σ : L2.St} {H : Hp} {s : Shared} {a : Addr} (I : Inv X pins σ H s) (h : s.heap.objs.size ≤ a) : Trk X pins a := by
  obtain ⟨f0, f1, f2, f3, f4, f5⟩ := I.fpOk (H' := fun _ => none) h rfl
  refine ⟨f1, f4, f5, ?_⟩
  cases q : X.s_0.heap.get? a with
  | none => rfl
  | some o => exact absurd (Nat.lt_of_lt_of_le (Heap.lt_size q) (Nat.le_trans I.sz h)) (Nat.lt_irrefl _)
theorem track_pairs {X : Cx} {pins : List (Addr × Obj)} {σ : L2.St} {s : Shared} : ∀ (l : List (Addr × V × V)) {H : Hp}, Inv X pins σ H s → (∀ t ∈ l, H t.1 = none ∧ Trk X pins t.1 ∧ ∃ x y, IsPair s.heap t.1 x y ∧ RelV t.2.1 x ∧ RelV t.2.2 y) → l.Pairwise (fun a b => a.1 ≠ b.1) →
    ∃ H', Inv X pins σ H' s ∧ Same H H' ∧ (∀ t ∈ l, H' t.1 = some (.tup [t.2.1, t.2.2])) ∧ ∀ b, H b = none → (∀ t ∈ l, t.1 ≠ b) → H' b = none
  | [], H, I, _, _ => ⟨H, I, fun _ _ h => h, fun _ h => (by cases h), fun _ h _ => h⟩
  | t :: l, H, I, h, hp => by
    obtain ⟨hn, tr, x, y, pr, rx, ry⟩ := h t List.mem_cons_self
    obtain ⟨hp1, hp2⟩ := List.pairwise_cons.mp hp
    have J := inv_track I hn tr.L tr.C tr.p tr.z (o := .tup [t.2.1, t.2.2]) ⟨by show 2 ≤ sizeLine; decide, [x, y], .cons rx (.cons ry .nil), ⟨_, pr, rfl, _, rfl⟩⟩
    obtain ⟨H', J', sm, ht, hno⟩ := track_pairs l J (fun u hu => by
      obtain ⟨h1, h2, h3⟩ := h u (List.mem_cons_of_mem _ hu)
      exact ⟨by rw [upd_ne (Ne.symm (hp1 u hu))]; exact h1, h2, h3⟩) hp2
    have smT : Same H (upd H t.1 (.tup [t.2.1, t.2.2])) := fun b o e => by rw [upd_ne (ne_of_none e hn)]; exact e
    refine ⟨H', J', fun b o e => sm b o (smT b o e), fun u hu => ?_, fun b hb hne => ?_⟩
    · rcases List.mem_cons.mp hu with q | q
      · subst q; exact sm _ _ upd_same
      · exact ht u q
    · exact hno b (by rw [upd_ne (fun z => hne t List.mem_cons_self z.symm)]; exact hb) fun u hu => hne u (List.mem_cons_of_mem _ hu)
theorem accs_list {n0 : Addr} {xs ys : Array Value} {h : Heap} {acc : Array Value} {n : Nat} (x : TZ.Accs n0 xs ys h acc n) : ∃ Ts : List Addr, acc.toList = Ts.map Value.ref ∧ Ts.length = n ∧ Ts.Nodup ∧ ∀ (j : Nat) (T : Addr), Ts[j]? = some T → ∃ a b, xs[j]? = some a ∧ ys[j]? = some b ∧ IsPair h T a b ∧ n0 ≤ T := by
  let f : Value → Addr := fun v => match v with | .ref a => a | _ => 0
  have hl : acc.toList.length = n := by rw [Array.length_toList]; exact x.size
  have ix : ∀ j, j < n → ∃ T, acc.toList[j]? = some (.ref T) := fun j hj => by
    obtain ⟨T, _, _, e, _⟩ := x.it j hj
    exact ⟨T, by rw [Array.getElem?_toList]; exact e⟩
  have e1 : acc.toList = (acc.toList.map f).map Value.ref := by
    refine List.ext_getElem? fun j => ?_
    by_cases hj : j < n
    · obtain ⟨T, e⟩ := ix j hj
      rw [List.getElem?_map, List.getElem?_map, e]
      rfl
    · rw [List.getElem?_eq_none (by omega), List.getElem?_eq_none (by rw [List.length_map, List.length_map]; omega)]
  refine ⟨acc.toList.map f, e1, by rw [List.length_map, hl], ?_, fun j T e => ?_⟩
  · unfold List.Nodup
    rw [List.pairwise_iff_getElem]
    intro i j hi hj hij e0
    have e : (acc.toList.map f)[i]? = (acc.toList.map f)[j]? := by rw [List.getElem?_eq_getElem hi, List.getElem?_eq_getElem hj, e0]
    rw [List.length_map, hl] at hj
    obtain ⟨T, t1⟩ := ix i (by omega)
    obtain ⟨T', t2⟩ := ix j hj
    rw [List.getElem?_map, List.getElem?_map, t1, t2] at e
    have e' : T = T' := Option.some.inj e
    subst e'
    rw [Array.getElem?_toList] at t1 t2
    exact x.inj i j T hij hj t1 t2
  · have hj : j < n := by
      have := (List.getElem?_eq_some_iff.mp e).1
      rw [List.length_map, hl] at this
      exact this
    obtain ⟨T', a, b, t1, t2, t3, t4, t5⟩ := x.it j hj
    rw [List.getElem?_map, Array.getElem?_toList, t1] at e
    have e' : T' = T := Option.some.inj e
    subst e'
    exact ⟨a, b, t2, t3, t4, t5⟩
theorem vals_getV {xs : List V} {us : List Value} {i : Nat} {u : Value} (r : Vals xs us) (h : us[i]? = some u) : ∃ x, xs[i]? = some x ∧ RelV x u := by
  have hi : i < xs.length := by
    rw [r.length]
    exact (List.getElem?_eq_some_iff.mp h).1
  obtain ⟨u', e, rv⟩ := r.get (List.getElem?_eq_getElem hi)
  rw [h] at e
  cases e
  exact ⟨xs[i], List.getElem?_eq_getElem hi, rv⟩
theorem vals_refs : ∀ Ts : List Addr, Vals (Ts.map V.ref) (Ts.map Value.ref)
  | [] => .nil
  | T :: Ts => .cons rfl (vals_refs Ts)
def tTZ (K : PySem.W.Frag) (ta : TA) : TE := fun σ H Q => ta σ H fun vs H1 => ∃ (a b : Addr) (xs ys : List V), vs = [.ref a, .ref b] ∧ SqL K H1 a xs ∧ SqL K H1 b ys ∧ xs.length ≤ sizeLine ∧
  ∀ (Ts : List Addr) (R : Addr) (H2 : Hp), Same H1 H2 → H1 R = none → H2 R = some (.tup (Ts.map V.ref)) → Ts.length = min xs.length ys.length → (∀ (j : Nat) (T : Addr), Ts[j]? = some T → ∃ x y, xs[j]? = some x ∧ ys[j]? = some y ∧ H1 T = none ∧ H2 T = some (.tup [x, y])) → Q (.ref R) H2
theorem boot_tuple : bootBuiltins "tuple" = some (.type "tuple") := by decide +kernel
theorem pe_tz {X : Cx} {e e2 : Expr} {ta : TA} {p p2 q pos : Pos} (hc : X.calm = true) (hg : Gl X "tuple") (hm : X.mg "tuple" = none) (hg2 : Gl X "zip") (hm2 : X.mg "zip" = none) (ha : PA X [e, e2] ta)
    (hs : starEach [e, e2] X.env = (false, eval e X.env) :: starEach [e2] X.env) (hpl : (backTo q (starEach [e2] X.env)).any (·.1) = false) :
    PE X (.Call (.Name "tuple" p) [.Call (.Name "zip" p2) [e, e2] [] q] [] pos) (tTZ X.K ta) := by
  refine ⟨fun pins s σ H Q I h => ?_⟩
  refine Call_ (ld_blt I hg hm boot_tuple ?_)
  refine PyProof.Rows.callWith_type1 (PyProof.Rows.args_cons ?_ rfl) rfl rfl
  refine Call_ (ld_blt I hg2 hm2 PyProof.Rows.boot_zip (PyProof.Rows.callWith_type1 (thn (ha.run q pins s σ H _ I h) fun us s1 ⟨vs, H1, I1, r1, q1⟩ => ?_) hs hpl))
  obtain ⟨a, b, xs, ys, ex, hqx, hqy, hsz, q1⟩ := q1
  subst ex
  cases r1 with
  | cons r rr =>
    cases rr with
    | cons r' rr =>
      cases rr
      cases r
      cases r'
      obtain ⟨its, rv, p1, _⟩ := I1.list hqx
      obtain ⟨its2, rv2, p2', _⟩ := I1.list hqy
      refine call_zip_2 p1.isList p2'.isList fun h' hz hTI hTO h1 h2 hsz' hk => ?_
      refine PyProof.Rows.args_nil ?_
      have l1 : its.length = xs.length := rv.length.symm
      have l2 : its2.length = ys.length := rv2.length.symm
      have D := PySem.W.ktu_apart s1.heap.objs.size a b p1.lt p2'.lt
      have hmin : min its.toArray.size its2.toArray.size = min xs.length ys.length := by rw [List.size_toArray, List.size_toArray, l1, l2]
      refine TZ.call_tuple_zip (s := { s1 with heap := h' }) (I1.ok.hd hc) D hz hTI hTO h1 h2 (p1.isList.at fun o e => hk _ o e) (p2'.isList.at fun o e => hk _ o e) (by rw [hmin]; exact Nat.le_trans (Nat.min_le_left ..) hsz) fun h3 acc hk3 hacc => ?_
      rw [hmin] at hacc
      obtain ⟨Ts, ea, tl, tn, ti⟩ := accs_list hacc
      -- the state at the end
      have old : ∀ c o, s1.heap.get? c = some o → (h3.push { cls := .type "tuple", data := .seq acc }).get? c = some o := fun c o e => by
        have hc1 := Heap.lt_size e
        refine Heap.get?_push_of_some _ (hk3 c o (fun hm => ?_) (hk c o e))
        simp only [List.mem_cons, List.not_mem_nil, or_false] at hm
        rcases hm with z | z | z | z
        · rw [z] at hc1; exact absurd hc1 (Nat.not_lt.mpr (Nat.le_add_right _ _))
        · rw [z] at hc1; exact absurd hc1 (Nat.not_lt.mpr (Nat.le_add_right _ _))
        · rw [z] at hc1; exact absurd hc1 (Nat.lt_irrefl _)
        · rw [z] at hc1; exact absurd hc1 (Nat.not_lt.mpr (Nat.le_add_right _ _))
      have I2 : Inv X pins σ H1 { s1 with heap := h3.push { cls := .type "tuple", data := .seq acc } } := I1.kept (t' := s1.toks) old
      have big : s1.heap.objs.size ≤ h'.objs.size + 1 := by
        rw [hsz']
        exact Nat.le_trans (Nat.le_add_right _ 5) (Nat.le_succ _)
      have hl : ∀ (j : Nat) (T : Addr), Ts[j]? = some T → ∃ (x y : V) (u v : Value), xs[j]? = some x ∧ ys[j]? = some y ∧ RelV x u ∧ RelV y v ∧ IsPair (h3.push { cls := .type "tuple", data := .seq acc }) T u v ∧ s1.heap.objs.size ≤ T := fun j T e => by
        obtain ⟨u, v, e1, e2, e3, e4⟩ := ti j T e
        have f1 : its[j]? = some u := by simpa using e1
        have f2 : its2[j]? = some v := by simpa using e2
        obtain ⟨x, g1, g2⟩ := vals_getV rv f1
        obtain ⟨y, g3, g4⟩ := vals_getV rv2 f2
        exact ⟨x, y, u, v, g1, g3, g2, g4, Heap.get?_push_of_some _ e3, Nat.le_trans big e4⟩
      have fr : ∀ T, s1.heap.objs.size ≤ T → H1 T = none ∧ Trk X pins T := fun T hT => ⟨I1.hok.fresh hT, trk_of I1 hT⟩
      -- the pairs
      let L : List (Addr × V × V) := (List.range Ts.length).map fun j => (Ts.getD j 0, xs.getD j .non, ys.getD j .non)
      have hL : ∀ t ∈ L, ∃ (j : Nat) (x y : V), Ts[j]? = some t.1 ∧ xs[j]? = some x ∧ ys[j]? = some y ∧ t = (t.1, x, y) := fun t ht => by
        obtain ⟨j, hj, e⟩ := List.mem_map.mp ht
        have hj' := List.mem_range.mp hj
        obtain ⟨x, y, u, v, g1, g2, _⟩ := hl j Ts[j] (List.getElem?_eq_getElem hj')
        refine ⟨j, x, y, ?_, g1, g2, ?_⟩
        · rw [← e, List.getElem?_eq_getElem hj']
          show some Ts[j] = some (Ts.getD j 0)
          rw [List.getD_eq_getElem?_getD, List.getElem?_eq_getElem hj']
          rfl
        · rw [← e]
          show (Ts.getD j 0, xs.getD j .non, ys.getD j .non) = (Ts.getD j 0, x, y)
          rw [List.getD_eq_getElem?_getD (l := xs), List.getD_eq_getElem?_getD (l := ys), g1, g2]
          rfl
      obtain ⟨H', I3, sm, ht, hno⟩ := track_pairs (s := { s1 with heap := h3.push { cls := .type "tuple", data := .seq acc } }) L I2 (fun t ht => by
        obtain ⟨j, x, y, g0, g1, g2, et⟩ := hL t ht
        obtain ⟨x', y', u, v, k1, k2, k3, k4, k5, k6⟩ := hl j t.1 g0
        rw [g1] at k1
        rw [g2] at k2
        cases k1
        cases k2
        rw [et]
        exact ⟨(fr _ k6).1, (fr _ k6).2, u, v, k5, k3, k4⟩) (by
        rw [List.pairwise_map]
        refine List.Pairwise.imp_of_mem (fun {i j} hi hj hij z => ?_) List.pairwise_lt_range
        have hi' := List.mem_range.mp hi
        have hj' := List.mem_range.mp hj
        have z : Ts.getD i 0 = Ts.getD j 0 := z
        rw [List.getD_eq_getElem?_getD, List.getD_eq_getElem?_getD, List.getElem?_eq_getElem hi', List.getElem?_eq_getElem hj'] at z
        have z : Ts[i] = Ts[j] := z
        exact List.pairwise_iff_getElem.mp tn i j hi' hj' hij z)
      -- the tuple itself
      have hR : s1.heap.objs.size ≤ h3.objs.size := by
        have hz3 := hk3 (s1.heap.objs.size + 2) _ (by
          simp only [List.mem_cons, List.not_mem_nil, or_false]
          intro z
          rcases z with z | z | z | z
          · simp at z
          · simp at z
          · simp at z
          · simp at z) hTI
        exact Nat.le_of_lt (Nat.lt_of_le_of_lt (Nat.le_add_right _ 2) (Heap.lt_size hz3))
      obtain ⟨nR, tR⟩ := fr h3.objs.size hR
      have nR' : H' h3.objs.size = none := hno _ nR fun t ht z => by
        obtain ⟨j, x, y, g0, g1, g2, et⟩ := hL t ht
        obtain ⟨u, v, _, _, e3, _⟩ := ti j t.1 g0
        have := Heap.lt_size e3
        rw [z] at this
        exact absurd this (Nat.lt_irrefl _)
      have hget : (h3.push { cls := .type "tuple", data := .seq acc }).get? h3.objs.size = some { cls := .type "tuple", data := .seq acc } := Heap.get?_push_size _ rfl
      have J := inv_track I3 nR' tR.L tR.C tR.p tR.z (o := .tup (Ts.map V.ref)) ⟨by rw [List.length_map, tl]; exact Nat.le_trans (Nat.min_le_left ..) hsz, acc.toList, by rw [ea]; exact vals_refs Ts, ⟨_, hget, rfl, _, rfl⟩⟩
      have smR : Same H' (upd H' h3.objs.size (.tup (Ts.map V.ref))) := fun b o e => by rw [upd_ne (ne_of_none e nR')]; exact e
      refine ⟨.ref h3.objs.size, _, J, rfl, q1 Ts h3.objs.size _ (fun b o e => smR b o (sm b o e)) nR upd_same tl fun j T e => ?_⟩
      obtain ⟨x, y, u, v, g1, g2, _, _, _, g6⟩ := hl j T e
      refine ⟨x, y, g1, g2, (fr T g6).1, smR _ _ ?_⟩
      have hj := (List.getElem?_eq_some_iff.mp e).1
      have hm : (Ts.getD j 0, xs.getD j .non, ys.getD j .non) ∈ L := List.mem_map.mpr ⟨j, List.mem_range.mpr hj, rfl⟩
      have := ht _ hm
      rw [List.getD_eq_getElem?_getD, List.getD_eq_getElem?_getD, List.getD_eq_getElem?_getD, e, g1, g2] at this
      exact this
theorem reps_by {K : PySem.W.Frag} {A : Nat → Option Addr} {H : Hp} : ∀ {vs : List V} {ds : List D}, vs.length = ds.length → (∀ (j : Nat) (v : V) (d : D), vs[j]? = some v → ds[j]? = some d → Rep K A H v d) → Reps K A H vs ds
  | [], [], _, _ => .nil
  | v :: vs, d :: ds, hl, h => .cons (h 0 v d rfl rfl) (reps_by (by simpa using hl) fun j v d e1 e2 => h (j + 1) v d (by simpa using e1) (by simpa using e2))
  | [], _ :: _, h, _ => by simp at h
  | _ :: _, [], h, _ => by simp at h
section
variable {X : Cx} {c : Cn} {W : WX} {ea eb : E} {x y : Expr}
theorem s_tzip {p p2 q pos : Pos} (hK : c.K = X.K) (hc : X.calm = true) (hg : Gl X "tuple") (hm : X.mg "tuple" = none) (hg2 : Gl X "zip") (hm2 : X.mg "zip" = none) (ha : PE X x (TEr c W false ea)) (hb : PE X y (TEr c W false eb)) (hn : notStar x = true) (hn2 : notStar y = true) :
    PE X (.Call (.Name "tuple" p) [.Call (.Name "zip" p2) [x, y] [] q] [] pos) (TEr c W false (.tzip ea eb)) := pe_imp (pe_tz hc hg hm hg2 hm2 (pa_cons ha (pa_cons hb pa_nil (star_of hn2)) (star_of hn)) (star_of hn) (by rw [star_of hn2]; rfl)) fun σ H Q h => by
  obtain ⟨G, L, m, ρ, E, h⟩ := h
  rw [evE] at h
  refine ⟨G, L, m, ρ, E, (PstG.bind h).imp fun d m1 H1 L1 e s1 ok q v r => ?_⟩
  have E1 := E.step s1 ok
  refine ⟨G, L1, m1, ρ, E1, (PstG.bind q).imp fun d2 m2 H2 La e2 s2 ok2 q2 v2 r2 => ?_⟩
  have r' := r.step E1 s2
  cases d with
  | lst ds =>
    cases d2 with
    | lst ds2 =>
      obtain ⟨a, vs, e1, hs, rs, z⟩ := rep_lst r'.rep
      obtain ⟨a2, vs2, e2, hs2, rs2, z2⟩ := rep_lst r2.rep
      refine ⟨a, a2, vs, vs2, by rw [e1, e2], hK ▸ Same.sqL hide_sub hs, hK ▸ Same.sqL hide_sub hs2, by rw [rs.length]; exact z, fun Ts R H3 sm n hr hl ht => ?_⟩
      have E2 := E1.step s2 ok2
      have nb : ∀ T, H2 T = none → ¬ Bd G La T := fun T h => E2.nb E2.sok.foot h
      have ln : (List.zipWith (fun x y => D.tup [x, y]) ds ds2).length = min ds.length ds2.length := List.length_zipWith
      refine q2 H3 La (Stp.same sm) (ok2.same sm) _ (.inl (.tup (.inl (.inl (hide_of (nb R n) hr))) (reps_by ?_ fun j v d e1 e2 => ?_) ?_))
      · rw [ln, List.length_map, hl, rs.length, rs2.length]
      · obtain ⟨T, eT, ev⟩ := List.getElem?_map (f := V.ref) (l := Ts) ▸ e1 |> Option.map_eq_some_iff.mp
        subst ev
        obtain ⟨x, y, g1, g2, g3, g4⟩ := ht j T eT
        obtain ⟨d1, k1, r1⟩ := rs.getV g1
        obtain ⟨d2, k2, r2⟩ := rs2.getV g2
        have : d = .tup [d1, d2] := by
          rw [zw_get k1 k2] at e2
          exact (Option.some.inj e2).symm
        subst this
        have st := (Stp.same (L := La) sm).hid (G := G)
        exact .tup (.inl (.inl (hide_of (nb T g3) g4))) (.cons (r1.mono st fun _ _ h => h) (.cons (r2.mono st fun _ _ h => h) .nil)) two_le
      · rw [ln]
        exact Nat.le_trans (Nat.min_le_left ..) z
    | _ => exact (show False from q2).elim
  | _ =>
    cases d2 <;> exact (show False from q2).elim
end
end MP
set_option maxRecDepth 100000
set_option maxHeartbeats 4000000
set_option autoImplicit false
namespace MP
open PySem L2 PySem.Spec PyProof.Rows
def PE1 (X : Cx) (e : Expr) (t : TE) : Prop :=
  ∀ (pins : List (Addr × Obj)) (s : Shared) (σ : L2.St) (H : Hp) (Q : VK), Inv X pins σ H s → t σ H Q → wpAny (model X.prog X.w) X.A (PySem.eval e X.env) (fun v s1 => 1 ≤ s1.toks ∧ EP X pins σ Q v s1) X.xe s
section
variable {X : Cx} {c : Cn} {W : WX} {ea eb : E} {x y : Expr}
theorem pa_consT {e : Expr} {es : List Expr} {te : TE} {ta : TA} (ha : PE1 X e te) (hr : PAT X es ta) (hs : starEach (e :: es) X.env = (false, PySem.eval e X.env) :: starEach es X.env) : PA X (e :: es) (tCons te ta) := by
  refine ⟨fun pos pins s σ H Q I h => ?_⟩
  rw [hs]
  show wpAny _ _ (spliced ((false, PySem.eval e X.env) :: backTo pos (starEach es X.env))) _ _ s
  refine Calls.spliced_cons (thn (ha pins s σ H _ I h) fun u s1 ⟨h1, x, H1, I1, r1, q1⟩ => ?_)
  exact thn (hr pos pins s1 σ H1 _ h1 I1 q1) fun us s2 ⟨xs, H2, I2, r2, q2⟩ => ⟨x :: xs, H2, I2, .cons r1 r2, q2⟩
theorem pet_imp {e : Expr} {t t' : TE} (h : PET X e t) (i : ∀ σ H Q, t' σ H Q → t σ H Q) : PET X e t' := fun pins s σ H Q h0 I q => h pins s σ H Q h0 I (i σ H Q q)
theorem pe1_add {a : List Nat} {j : Nat} {p pos : Pos} (hb : PE X y (TEr c W false eb)) : PE1 X (.BinOp (.Constant (.str (S a)) j p) .Add y pos) (TEr c W false (.bin .add (.lit (.str a)) eb)) := by
  intro pins s σ H Q I h
  obtain ⟨G, L, m, ρ, E, h⟩ := h
  rw [evE, evE, Res.bind_ok] at h
  refine wpAny_BinOp (Calls.Constant_str ?_)
  have I' : Inv X pins σ H { s with toks := s.toks + 1 } := I.tok (s.toks + 1)
  have hb' := hb.run pins { s with toks := s.toks + 1 } σ H (fun v H1 => ∃ b : List Nat, v = .str (S b) ∧ a.length + b.length ≤ sizeD ∧ Q (.str (S a ++ S b)) H1) I' ⟨G, L, m, ρ, E, (PstG.bind h).imp fun d m1 H1 L1 e s1 ok q v r => by
    cases d with
    | str b =>
      have q' : PstG c W G L1 σ H1 (fun d _ H' L' => ∀ v, RB c.K false G L' H' v d → Q v H') (.opt (if a.length + b.length ≤ sizeD then some (.str (a ++ b)) else none) m1) := q
      by_cases hz : a.length + b.length ≤ sizeD
      · rw [if_pos hz] at q'
        refine ⟨b, r.str.1, hz, ?_⟩
        rw [S_app]
        exact q' H1 L1 (Stp.refl _ _) ok _ (.inl (.str _ (by rw [List.length_append]; exact sd hz)))
      · rw [if_neg hz] at q'
        exact (show False from q').elim
    | _ => exact (show False from q).elim⟩
  refine wpAny_mono (PySem.wpAny_toks hb') (fun u s2 q => ?_) fun _ _ z => z.2
  obtain ⟨hk, v, H2, I2, r2, b, e, hz, q2⟩ := q
  subst e
  have hk : s.toks + 1 ≤ s2.toks := hk
  refine wpAny_mono (PySem.wpAny_toks (op_add_str pins s2 σ H2 (.str (S a)) (.str (S b)) (.str (S a) s.toks) u Q I2 ⟨_, rfl⟩ r2 ⟨_, _, rfl, rfl, by rw [S_len, S_len]; exact sd hz, q2⟩)) (fun w s3 q3 => ⟨Nat.le_trans (by omega) q3.1, q3.2⟩) fun _ _ z => z.2
theorem s_repT {a b : List Nat} {o : Expr} {j k : Nat} {c0 c1 apos pos : Pos} (ho : PE X o (TEr c W false ea)) (hyz : (S a == S b) = false) (hb : notCall0 o = true) (hline : (apos.endLine == pos.line) = true) :
    PET X (.Call (.Attribute o "replace" apos) [.Constant (.str (S a)) j c0, .Constant (.str (S b)) k c1] [] pos) (TEr c W false (.rep a b ea)) := pet_imp (CwR.pet_replC ho hyz rfl (base_of hb) hline) fun σ H Q h => by
  obtain ⟨G, L, m, ρ, E, h⟩ := h
  rw [evE] at h
  refine ⟨G, L, m, ρ, E, (PstG.bind h).imp fun d m1 H1 L1 e s1 ok q v r => ?_⟩
  cases d with
  | str t =>
    have q' : PstG c W G L1 σ H1 (fun d _ H' L' => ∀ v, RB c.K false G L' H' v d → Q v H') (.opt (if t.length + (t.length + 1) * b.length ≤ 16777216 then some (.str (tl (Txt.replace (S t) (S a) (S b)))) else none) m1) := q
    by_cases hz : t.length + (t.length + 1) * b.length ≤ 16777216
    · rw [if_pos hz] at q'
      refine ⟨S t, r.str.1, by rw [S_len, S_len]; exact hz, ?_⟩
      have hl := TK.replace_len (S t) (S a) (S b)
      rw [S_len, S_len] at hl
      have q2 := q' H1 L1 (Stp.refl _ _) ok (.str (S (tl (Txt.replace (S t) (S a) (S b))))) (.inl (.str _ (by
        have : (tl (Txt.replace (S t) (S a) (S b))).length = (Txt.replace (S t) (S a) (S b)).length := by simp [tl, Str.length]
        rw [this]
        exact Nat.le_trans hl (Nat.le_trans hz (by decide)))))
      rw [S_tl] at q2
      exact q2
    · rw [if_neg hz] at q'
      exact (show False from q').elim
  | _ => exact (show False from q).elim
theorem s_nilT : PAT X [] (TAr c W false .nil) := fun pos pins s σ H Q _ I h => s_nil.run pos pins s σ H Q I h
theorem s_consT {es : List Expr} {l : Es} (ha : PET X x (TEr c W false ea)) (hl : PAT X es (TAr c W false l)) (hn : notStar x = true) : PAT X (x :: es) (TAr c W false (.cons ea l)) := fun pos pins s σ H Q h0 I h => by
  obtain ⟨G, L, m, ρ, E, h⟩ := h
  rw [evEs] at h
  refine (pat_cons ha hl (star_of hn)) pos pins s σ H Q h0 I ?_
  refine ⟨G, L, m, ρ, E, (PstG.bind h).imp fun d m1 H1 L1 e s1 ok1 q v r => ?_⟩
  have E1 := E.step s1 ok1
  refine ⟨G, L1, m1, ρ, E1, (PstG.bind q).imp fun ds m2 H2 L2 e2 s2 ok2 q2 vs rs => ?_⟩
  exact q2 H2 L2 (Stp.refl _ _) ok2 (v :: vs) (.cons (r.step E1 s2) rs)
theorem s_cons1 {es : List Expr} {l : Es} (ha : PE1 X x (TEr c W false ea)) (hl : PAT X es (TAr c W false l)) (hn : notStar x = true) : PA X (x :: es) (TAr c W false (.cons ea l)) := ⟨fun pos pins s σ H Q I h => by
  obtain ⟨G, L, m, ρ, E, h⟩ := h
  rw [evEs] at h
  refine (pa_consT ha hl (star_of hn)).run pos pins s σ H Q I ?_
  refine ⟨G, L, m, ρ, E, (PstG.bind h).imp fun d m1 H1 L1 e s1 ok1 q v r => ?_⟩
  have E1 := E.step s1 ok1
  refine ⟨G, L1, m1, ρ, E1, (PstG.bind q).imp fun ds m2 H2 L2 e2 s2 ok2 q2 vs rs => ?_⟩
  exact q2 H2 L2 (Stp.refl _ _) ok2 (v :: vs) (.cons (r.step E1 s2) rs)⟩
end
end MP
set_option maxRecDepth 100000
set_option maxHeartbeats 8000000
set_option autoImplicit false
namespace MP
open PySem L2
def siD (e : Str × Int) : PyData := .tuple [.str e.1, .int e.2]
def leSD (a b : Str × Int) : Bool := if decide (b.1 = a.1) = true then !decide (b.2 < a.2) else !decide (b.1.cps.toList < a.1.cps.toList)
theorem leSD_eq : PySem.W.dataLe false siD = leSD := by
  rw [PySem.W.dataLe_eq]
  funext a b
  show (!PySem.W.dataLt (siD b) (siD a)) = _
  unfold siD
  rw [PySem.W.dataLt_pair rfl rfl]
  unfold leSD
  have e1 : PyData.eqv (.str b.1) (.str a.1) = decide (b.1 = a.1) := by
    rw [PyData.eqv]
    by_cases z : b.1 = a.1
    · rw [z, decide_eq_true rfl]; exact beq_self_eq_true _
    · rw [decide_eq_false z]; exact beq_eq_false_iff_ne.mpr z
  have e2 : PyData.eqv (.int b.2) (.int a.2) = decide (b.2 = a.2) := by
    rw [PyData.eqv]
    by_cases z : b.2 = a.2
    · rw [z, decide_eq_true rfl]; exact beq_self_eq_true _
    · rw [decide_eq_false z]; exact beq_eq_false_iff_ne.mpr z
  rw [e1, e2, PySem.W.dataLt_str, PySem.W.dataLt_int]
  by_cases z : b.1 = a.1
  · rw [decide_eq_true z, if_pos rfl, if_pos rfl]
    by_cases y : b.2 = a.2
    · rw [decide_eq_true y, if_pos rfl, y, decide_eq_false (Int.lt_irrefl _)]
    · rw [decide_eq_false y, if_neg (by simp)]
  · rw [decide_eq_false z, if_neg (by simp), if_neg (by simp)]
section
variable {X : Cx}
def rItemsD : V → List V → Hp → VK → Prop := fun x xs H Q => ∃ (a : Addr) (kvs : List (Key × V)), x = .ref a ∧ xs = [] ∧ Rd H a (.dK kvs) ∧ ∀ p, H p = none → Q (.ref p) (upd H p (DX.itemsO p a))
theorem mt_itemsD : MtR X "dict.items" rItemsD := by
  intro pins s σ H x xs v us Q I rx rxs h
  obtain ⟨a, kvs, rfl, rfl, ha, q⟩ := h
  cases rx
  cases rxs
  obtain ⟨z, hd, vs, rel, o, es, ep, ho, hx, hdat, _⟩ := dk_rd I.hok ha
  refine DT.callItems (es := es) (ep := ep) hd ⟨o, ho, hx, hdat⟩ ?_
  have hf : H s.heap.objs.size = none := I.hok.fresh (Nat.le_refl _)
  exact ⟨.ref s.heap.objs.size, upd H s.heap.objs.size (DX.itemsO s.heap.objs.size a), I.laid (t' := s.toks) (fun b u e => Heap.get?_push_of_some _ e) (Nat.le_refl _) (DX.itemsO_ok (Heap.get?_push_size _ rfl)), rfl, q _ hf⟩
def entSI (e : Str × Int) : Key × V := (Sum.inr e.1, V.int e.2)
def rSortID : List V → Hp → VK → Prop := fun xs H Q => ∃ (p a : Addr) (ks : List (Str × Int)), xs = [.ref p] ∧ H p = some (DX.itemsO p a) ∧ Rd H a (.dK (ks.map entSI)) ∧
  ∀ (H' : Hp) (l : Addr) (zs : List (Addr × Str × Int)), Same H H' → H l = none → (∀ z ∈ zs, H z.1 = none) → zs.map (·.2) = ks.mergeSort leSD → H' l = some (.lst (zs.map fun z => V.ref z.1)) → (∀ z ∈ zs, H' z.1 = some (.tup [.str z.2.1, .int z.2.2])) → Q (.ref l) H'
theorem pairs_at {P : Program} {w : World} : ∀ {es : List DictEntry} {vs : List (Key × Value)} {ks : List (Str × Int)} {j : Nat} {e : DictEntry}, Pairs (mixKind P w) es vs → KV (ks.map entSI) vs → es[j]? = some e → ∃ (k : Str × Int) (t u : Tok), ks[j]? = some k ∧ e.key = .str k.1 t ∧ e.val = .int k.2 u
  | _, _, [], j, e, p, r, h => by
    cases r
    cases p
    simp at h
  | _, _, k :: ks, 0, e, p, r, h => by
    cases r with
    | cons r1 r2 =>
      cases p with
      | cons h1 h2 h3 =>
        rename_i e0 es0 kv0 vs0
        have h : some _ = some e := h
        cases h
        obtain ⟨q1, q2⟩ := r1
        rw [← q1] at h1
        rcases keyIs_shape (show keyIs (Sum.inr k.1) e.key = true from h1) with ⟨i, t, z, _⟩ | ⟨x, t, e2, e1⟩
        · cases z
        · cases e2
          obtain ⟨u, hu⟩ := (show ∃ u, _ = Value.int k.2 u from q2)
          exact ⟨k, t, u, rfl, e1, by rw [h2, hu]⟩
  | _, _, k :: ks, j + 1, e, p, r, h => by
    cases r with
    | cons r1 r2 =>
      cases p with
      | cons h1 h2 h3 =>
        obtain ⟨k', t, u, g1, g2, g3⟩ := pairs_at (j := j) h3 r2 (by simpa using h)
        exact ⟨k', t, u, by simpa using g1, g2, g3⟩
theorem each_zip {α : Type} : ∀ {as : List Addr} {ks : List α}, as.length = ks.length → PySem.W.EachIs (fun v (b : Addr × α) => v = Value.ref b.1) (as.map Value.ref) (as.zip ks)
  | [], [], _ => .nil
  | a :: as, k :: ks, h => .cons rfl (each_zip (by simpa using h))
  | [], _ :: _, h => by simp at h
  | _ :: _, [], h => by simp at h
theorem each_all {α : Type} {R : Value → α → Prop} : ∀ {vs : List Value} {bs : List α}, vs.length = bs.length → (∀ (j : Nat) (v : Value) (b : α), vs[j]? = some v → bs[j]? = some b → R v b) → PySem.W.EachIs R vs bs
  | [], [], _, _ => .nil
  | v :: vs, b :: bs, hl, h => .cons (h 0 v b rfl rfl) (each_all (by simpa using hl) fun j v b e1 e2 => h (j + 1) v b (by simpa using e1) (by simpa using e2))
  | [], _ :: _, h, _ => by simp at h
  | _ :: _, [], h, _ => by simp at h
theorem each_map_ref {α : Type} : ∀ {vs : List Value} {bs : List (Addr × α)}, PySem.W.EachIs (fun v (b : Addr × α) => v = Value.ref b.1) vs bs → vs = bs.map fun b => Value.ref b.1
  | _, _, .nil => rfl
  | _, _, .cons h r => by rw [List.map_cons, ← each_map_ref r, h]
theorem cr_sortID (hc : X.calm = true) (hu : X.A.units + 64 < cLine) : CallR X (.builtin "sorted") rSortID := by
  intro pins s σ H xs us Q I r h
  obtain ⟨p, a, ks, rfl, hp, ha, q⟩ := h
  obtain rfl := Vals.ref1 r
  have view : s.heap.IsItemsView p a := (show ObjOk X.prog X.w H s.heap p (DX.itemsO p a) from I.hok p _ hp).1
  obtain ⟨z, hd, vs, rel, o, es, ep, ho, hx, hdat, hko, hpr, hn⟩ := dk_rd I.hok ha
  have l1 : (ks.map entSI).length = vs.length := Paired.length rel
  rw [List.length_map] at l1 z
  have l2 : es.toList.length = vs.length := hpr.length
  have hh : X.A.handled = none := I.ok.hd hc
  refine DT.sortedI (es := es) (ep := ep) hh view ⟨o, ho, hx, hdat⟩ (by rw [← Array.length_toList, l2, ← l1]; exact z) fun h' tk as hk hlt hl hG => ?_
  have lak : as.length = ks.length := by rw [hl, ← Array.length_toList, l2, l1]
  have nd : as.Nodup := List.Pairwise.imp (fun h => Nat.ne_of_lt h) hG.rise
  have pr : ∀ (j : Nat) (b : Addr) (k : Str × Int), as[j]? = some b → ks[j]? = some k → ∃ t u, h'.get? b = some { cls := .type "tuple", data := .seq #[Value.str k.1 t, Value.int k.2 u] } := by
    intro j b k hj hkj
    obtain ⟨e, he, hg⟩ := hG.pairs j b hj
    obtain ⟨k', t, u, g1, g2, g3⟩ := pairs_at hpr rel (show es.toList[j]? = some e by rw [Array.getElem?_toList]; exact he)
    rw [hkj] at g1
    cases g1
    exact ⟨t, u, by rw [hg, g2, g3]⟩
  have hob : (h'.push { cls := .type "list", data := .seq (as.map Value.ref).toArray }).get? h'.objs.size = some (PyProof.Rows.seqObj "list" (as.map Value.ref).toArray 0) := Heap.get?_push_size _ rfl
  have ka0 : ∀ b o, h'.get? b = some o → (h'.push { cls := .type "list", data := .seq (as.map Value.ref).toArray }).get? b = some o := fun b o e => Heap.get?_push_of_some _ e
  generalize hh2 : h'.push { cls := .type "list", data := .seq (as.map Value.ref).toArray } = h2 at hob ka0 ⊢
  have ne0 : ∀ b o, h'.get? b = some o → b ≠ h'.objs.size := fun b o e => Nat.ne_of_lt (Heap.lt_size e)
  have e0 := each_zip (ks := ks) lak
  have lz : (as.zip ks).length = ks.length := by rw [List.length_zip, lak, Nat.min_self]
  refine PySem.W.list_sort_data (bs := as.zip ks) (enc := fun b => siD b.2) (R := fun v b => v = Value.ref b.1) (s := { s with heap := h2, toks := tk }) hob e0 (each_all (by rw [List.length_map, lz, lak]) fun j v b e1 e2 => ?_) (.of fun b b' => rfl) (.tuples fun b => ⟨_, _, rfl⟩) (by rw [lz]; exact z) (fun b _ => ?_) fun out ol eo => ?_
  · obtain ⟨x, hx1, hx2⟩ := Option.map_eq_some_iff.mp ((List.getElem?_map ..).symm.trans e1)
    obtain ⟨g1, g2⟩ := List.getElem?_zip_eq_some.mp e2
    rw [g1] at hx1
    cases hx1
    subst hx2
    obtain ⟨t, u, hg⟩ := pr j b.1 b.2 g1 g2
    refine ⟨[], .tuple (ka0 _ _ hg) rfl rfl ?_, by simp⟩
    exact .cons (as := []) (.str _ _) (.cons (as := []) (.int _ _) .nil)
  · have : (siD b.2).depth ≤ 1 := by
      unfold siD
      simp [PyData.depth, PyData.depthAll]
    show X.A.units + 1 + 1 + (siD b.2).depth < cLine
    omega
  · show EP X pins σ Q (.ref h'.objs.size) { s with heap := PyProof.Rows.sortedHeap h2 h'.objs.size (as.map Value.ref) (List.toArray out), toks := tk }
    obtain ⟨zs, hzs⟩ : ∃ zs, zs = (as.zip ks).mergeSort (PySem.W.dataLe false fun b => siD b.2) := ⟨_, rfl⟩
    rw [← hzs] at eo
    have pz : zs.Perm (as.zip ks) := by rw [hzs]; exact List.mergeSort_perm _ _
    have hout := each_map_ref eo
    have hz2 : zs.map (·.2) = ks.mergeSort leSD := by
      rw [hzs, List.map_mergeSort (s := leSD) (fun a _ b _ => by
        have := congrFun (congrFun leSD_eq a.2) b.2
        rw [← this]
        rfl)]
      rw [List.map_snd_zip (by rw [lak]; exact Nat.le_refl _)]
    have idx : ∀ z ∈ zs, ∃ j : Nat, as[j]? = some z.1 ∧ ks[j]? = some z.2 := by
      intro z' hz'
      obtain ⟨j, hj⟩ := List.mem_iff_getElem?.mp (pz.mem_iff.mp hz')
      exact ⟨j, List.getElem?_zip_eq_some.mp hj⟩
    have kF : ∀ b o, b ≠ h'.objs.size → h2.get? b = some o → (PyProof.Rows.sortedHeap h2 h'.objs.size (as.map Value.ref) (List.toArray out)).get? b = some o := fun b o hb e => (PyProof.Rows.sortedHeap_old hb (Heap.lt_size e)).trans e
    have kS : ∀ b o, s.heap.get? b = some o → (PyProof.Rows.sortedHeap h2 h'.objs.size (as.map Value.ref) (List.toArray out)).get? b = some o := fun b o e => kF b o (ne0 _ _ (hk b o e)) (ka0 b o (hk b o e))
    obtain ⟨eF, heF⟩ := PyProof.Rows.sortedHeap_at (vs := as.map Value.ref) (out := List.toArray out) hob
    have I1 : Inv X pins σ H { s with heap := PyProof.Rows.sortedHeap h2 h'.objs.size (as.map Value.ref) (List.toArray out), toks := tk } := I.kept (t' := tk) kS
    have hn0 : H h'.objs.size = none := I.hok.fresh (Nat.le_of_lt hlt)
    have tr0 := trk_of I (Nat.le_of_lt hlt)
    have zlen : zs.length = ks.length := by rw [pz.length_eq, lz]
    have rv : Vals (zs.map fun z => V.ref z.1) out := by
      rw [hout]
      have : ∀ l : List (Addr × Str × Int), Vals (l.map fun z => V.ref z.1) (l.map fun z => Value.ref z.1) := fun l => by
        induction l with
        | nil => exact .nil
        | cons a l ih => exact .cons rfl ih
      exact this zs
    have J := inv_track I1 hn0 tr0.L tr0.C tr0.p tr0.z (o := .lst (zs.map fun z => V.ref z.1)) ⟨by rw [List.length_map, zlen]; exact z, out, eF, rv, heF⟩
    have hlow : ∀ z ∈ zs, s.heap.objs.size ≤ z.1 ∧ z.1 ≠ h'.objs.size := fun z hz => by
      obtain ⟨j, j1, j2⟩ := idx z hz
      obtain ⟨t, u, hg⟩ := pr j z.1 z.2 j1 j2
      exact ⟨Nat.le_of_lt (hG.above _ (List.mem_of_getElem? j1)), ne0 _ _ hg⟩
    have hnz : ∀ z ∈ zs, H z.1 = none := fun z hz => I.hok.fresh (hlow z hz).1
    obtain ⟨H2, I3, sm, ht, _⟩ := track_pairs (zs.map fun z => (z.1, V.str z.2.1, V.int z.2.2)) J (fun t ht => by
      obtain ⟨z, hz, e⟩ := List.mem_map.mp ht
      subst e
      obtain ⟨j, j1, j2⟩ := idx z hz
      obtain ⟨t, u, hg⟩ := pr j z.1 z.2 j1 j2
      refine ⟨by rw [upd_ne (hlow z hz).2]; exact hnz z hz, trk_of I (hlow z hz).1, _, _, kF _ _ (hlow z hz).2 (ka0 _ _ hg), ⟨t, rfl⟩, ⟨u, rfl⟩⟩) (by
      rw [List.pairwise_map]
      have n1 : (zs.map (·.1)).Nodup := by
        have e := (pz.map (·.1)).nodup_iff.mpr (by rw [List.map_fst_zip (by rw [lak]; exact Nat.le_refl _)]; exact nd)
        exact e
      exact List.pairwise_map.mp n1)
    have smT : Same H (upd H h'.objs.size (.lst (zs.map fun z => V.ref z.1))) := fun b o e => by rw [upd_ne (ne_of_none e hn0)]; exact e
    refine ⟨.ref h'.objs.size, H2, I3, rfl, q H2 h'.objs.size zs (fun b o e => sm b o (smT b o e)) hn0 hnz hz2 (sm _ _ upd_same) fun z hz => ?_⟩
    exact ht _ (List.mem_map.mpr ⟨z, hz, rfl⟩)
end
section
variable {K : PySem.W.Frag} {A : Nat → Option Addr} {H : Hp}
theorem siOf_rep : ∀ {l : List (D × D)} {ps : List (List Nat × Int)} {kvs : List (Key × V)}, siOf l = some ps → Repk K A H kvs l → kvs = (ps.map fun e => (S e.1, e.2)).map entSI ∧ (∀ e ∈ ps, e.1.length ≤ sizeLine) ∧ ps.length = l.length
  | [], _, _, h, r => by
    cases h
    cases r
    exact ⟨rfl, (fun _ h => by cases h), rfl⟩
  | (d, d2) :: l, ps, _, h, r => by
    cases r with
    | @cons k v kvs d ds z hv r =>
      cases k with
      | inl i => simp [keyD, siOf] at h
      | inr s =>
        cases d2 with
        | int i =>
          simp only [keyD, siOf] at h
          obtain ⟨ps', h', e⟩ := Option.map_eq_some_iff.mp h
          subst e
          obtain ⟨e1, e2, e3⟩ := siOf_rep h' r
          cases hv
          refine ⟨?_, fun e he => ?_, by rw [List.length_cons, List.length_cons, e3]⟩
          · rw [e1, List.map_cons, List.map_cons]
            show _ = (Sum.inr (S (tl s)), V.int i) :: _
            rw [S_tl]
          · rcases List.mem_cons.mp he with q | q
            · rw [q]; exact z
            · exact e2 e q
        | _ => simp [keyD, siOf] at h
end
theorem leSI_S (a b : List Nat × Int) : leSI a b = leSD (S a.1, a.2) (S b.1, b.2) := by
  unfold leSI leSD
  have e1 : (S b.1 = S a.1) = (b.1 = a.1) := propext ⟨fun h => S_inj h, fun h => by rw [h]⟩
  have e2 : decide ((S b.1).cps.toList < (S a.1).cps.toList) = decide (b.1 < a.1) := by simp [S]
  simp only [e1, e2]
def tItemsD (to : TE) : TE := fun σ H Q => to σ H fun x H1 => rItemsD x [] H1 Q
theorem pe_itemsD {X : Cx} {o : Expr} {to : TE} {apos cpos : Pos} (ho : PE X o to) (hbase : attributeBase o "items" X.env (eval o X.env) = eval o X.env) (hline : (apos.endLine == cpos.line) = true) : PE X (.Call (.Attribute o "items" apos) [] [] cpos) (tItemsD to) := by
  refine ⟨fun pins s σ H Q I h => ?_⟩
  refine wpAny_Call_method0_late hbase hline (thn (ho.run pins s σ H _ I h) fun v s1 ⟨x, H1, I1, r1, q1⟩ => ?_)
  obtain ⟨a, kvs, rfl, _, ha, q⟩ := id q1
  cases r1
  obtain ⟨z, hd, vs, rel, o, es, ep, hoo, hx, hdat, _⟩ := dk_rd I1.hok ha
  exact ⟨"dict", "dict.items", PySem.F.plainAttrs_dict, PySem.F.slot_dict_items, PySem.F.type_dict_items, ⟨o, hoo, hx.1⟩, fun b e => by cases e; exact ⟨o, hoo, hx.2.1⟩, Calls.callWith_builtin rfl (PySem.evalArgs_none (mt_itemsD pins s1 σ H1 (.ref a) [] _ [] Q I1 (show RelV (.ref a) (Value.ref a) from rfl) .nil q1))⟩
section
variable {X : Cx} {c : Cn} {W : WX} {ea : E} {x : Expr} {ba : Bool}
theorem s_sortI {p apos cpos pos : Pos} (hK : c.K = X.K) (hc : X.calm = true) (hu : X.A.units + 65 < cLine) (hg : Gl X "sorted") (hm : X.mg "sorted" = none) (ho : PE X x (TEr c W ba ea)) (hb : notCall0 x = true) (hline : (apos.endLine == cpos.line) = true) :
    PE X (.Call (.Name "sorted" p) [.Call (.Attribute x "items" apos) [] [] cpos] [] pos) (TEr c W false (.sortI ea)) :=
  pe_imp (pe_callB (r := rSortID) (cr_sortID hc (by omega)) hg hm (show bootBuiltins "sorted" = some (.builtin "sorted") by decide +kernel) (pa_cons (pe_itemsD ho (base_of hb) hline) pa_nil (star_of rfl)) (by decide) (by decide) (star_of rfl) (by rfl)) fun σ H Q h => by
  obtain ⟨G, L, m, ρ, E, h⟩ := h
  rw [evE] at h
  show TEr c W ba ea σ H fun v H1 => rItemsD v [] H1 fun w H2 => rSortID [w] H2 Q
  refine TEr.bind E h fun d' m1' v H1 L1 q1 s1 E1 r1 h1 => ?_
  obtain ⟨l, hq, a0, kvs, ev, ha, rk, z⟩ : ∃ l, Pst c W false G L1 σ H1 Q (.opt (sortID (.dic l)) m1') ∧ ∃ a kvs, v = .ref a ∧ Rd H1 a (.dK kvs) ∧ Repk c.K (AL L1) (hide (Bd G L1) H1) kvs l ∧ l.length ≤ sizeLine := by
    have box : ∀ x, d' = x → (match lkD x m1' with | some (_, d) => (.opt (sortID d) m1' : Res D) | none => .stuck) = srtIL d' m1' → ∃ l, Pst c W false G L1 σ H1 Q (.opt (sortID (.dic l)) m1') ∧ ∃ a kvs, v = .ref a ∧ Rd H1 a (.dK kvs) ∧ Repk c.K (AL L1) (hide (Bd G L1) H1) kvs l ∧ l.length ≤ sizeLine := fun x ex hx => by
      rw [← hx] at h1
      cases e3 : lkD x m1' with
      | none => rw [e3] at h1; exact (show False from h1).elim
      | some nd =>
        obtain ⟨n, d⟩ := nd
        rw [e3] at h1
        dsimp only at h1
        cases d with
        | dic l =>
          obtain ⟨ey, h3⟩ := lkD_some e3
          subst ex ey
          obtain ⟨p, u, hL, hp, cu, nf⟩ := E1.sok.box h3
          obtain ⟨p', ev, hL'⟩ := r1.obj
          rw [hL] at hL'
          cases hL'
          cases cu with
          | dic rk z => exact ⟨l, h1, p, _, ev, .inl hp, rk, z⟩
        | _ => exact (show False from h1).elim
    cases d' with
    | dic l =>
      obtain ⟨a, kvs, ev, ha, rk, z⟩ := r1.dic
      exact ⟨l, h1, a, kvs, ev, ha, rk, z⟩
    | non => exact box _ rfl rfl
    | bl _ => exact box _ rfl rfl
    | int _ => exact box _ rfl rfl
    | str _ => exact box _ rfl rfl
    | tup _ => exact box _ rfl rfl
    | lst _ => exact box _ rfl rfl
    | obj _ => exact box _ rfl rfl
    | exc _ => exact box _ rfl rfl
  cases e4 : siOf l with
  | none =>
    unfold sortID at hq
    dsimp only at hq
    rw [e4] at hq
    exact (show False from hq).elim
  | some ps =>
    subst ev
    unfold sortID at hq
    dsimp only at hq
    rw [e4] at hq
    obtain ⟨ek, hz, hl⟩ := siOf_rep e4 rk
    refine ⟨a0, _, rfl, rfl, ha, fun a hn => ⟨a, a0, ps.map fun e => (S e.1, e.2), rfl, upd_same, ?_, fun H' l' zs sm n1 n2 e z1 z2 => ?_⟩⟩
    · rw [← ek]
      rcases ha with ha | ⟨o, ha⟩
      · exact .inl (by rw [upd_ne (ne_of_none ha hn)]; exact ha)
      · exact .inr ⟨o, by rw [upd_ne (ne_of_none ha hn)]; exact ha⟩
    · have sm1 : Same H1 H' := fun b o e => sm b o (by rw [upd_ne (ne_of_none e hn)]; exact e)
      have nn : ∀ b : Addr, L2.upd H1 a (DX.itemsO a a0) b = none → H1 b = none := fun b hb => by
        by_cases q : b = a
        · rw [q]; exact hn
        · rw [upd_ne q] at hb; exact hb
      have nb : ∀ T, H1 T = none → ¬ Bd G L1 T := fun T h => E1.nb E1.sok.foot h
      have ez : zs.map (·.2) = (ps.mergeSort leSI).map fun e => (S e.1, e.2) := by
        rw [e, ← List.map_mergeSort (r := leSI) (s := leSD) fun a _ b _ => leSI_S a b]
      have zl : zs.length = (ps.mergeSort leSI).length := by
        have := congrArg List.length ez
        rw [List.length_map, List.length_map] at this
        exact this
      have hq : Pst c W false G L1 σ H1 Q (.ok (.lst ((ps.mergeSort leSI).map siD1)) m1') := hq
      refine hq H' L1 (Stp.same sm1) (E1.sok.same sm1) _ (.inl (.lst (.inl (.inl (hide_of (nb l' (nn l' n1)) z1))) (reps_by (by rw [List.length_map, List.length_map, zl]) fun j v d e1 e2 => ?_) (by rw [List.length_map, List.length_mergeSort, hl]; exact z)))
      obtain ⟨t, t1, t2⟩ := Option.map_eq_some_iff.mp ((List.getElem?_map ..).symm.trans e1)
      obtain ⟨w, w1, w2⟩ := Option.map_eq_some_iff.mp ((List.getElem?_map ..).symm.trans e2)
      subst t2 w2
      have tz := List.mem_of_getElem? t1
      have et : t.2 = (S w.1, w.2) := by
        have := congrArg (fun l => l[j]?) ez
        simp only [List.getElem?_map, t1, w1, Option.map_some, Option.some.injEq] at this
        exact this
      have hw : w ∈ ps := (List.mergeSort_perm ps leSI).mem_iff.mp (List.mem_of_getElem? w1)
      have hh := z2 t tz
      rw [et] at hh
      exact .tup (.inl (.inl (hide_of (nb t.1 (nn t.1 (n2 t tz))) hh))) (.cons (.str _ (hz w hw)) (.cons (.int _) .nil)) two_le
end
end MP
set_option maxRecDepth 100000
set_option maxHeartbeats 4000000
set_option autoImplicit false
namespace MP
open PySem L2
structure Se where
  N : List Str
  own : List Nat
  FN : List (Nat × Str × Nat)
  GC : List (Str × D)
  /-- the numbers of the classes that may be named -/
  EX : List Nat
  /-- the numbers of the defs whose gift is new -/
  FR : List Nat
  /-- defaults, by the defs' numbers -/
  DV : List (Nat × List D)
  /-- is this def's gift new -/
  fr : Bool
  /-- is it leaf_of -/
  lam : Bool
def Se.ow (se : Se) (i : Nat) : Bool := se.own.contains i
def visB (sc : Scope) (x : Str) : Bool := match sc.names.lookup x with
  | some .local | some .cell | some .free => true
  | _ => false
def locB (sc : Scope) (x : Str) : Bool := match sc.names.lookup x with
  | some .local | some .cell => true
  | _ => false
def lclB (sc : Scope) (x : Str) : Bool := match sc.names.lookup x with
  | some .local => true
  | _ => false
def glB (sc : Scope) (x : Str) : Bool := match sc.names.lookup x with
  | some .globalImplicit => true
  | _ => false
def plB (x : Str) : Bool := !(x == ("__debug__" : Str)) && !(x == ("__classdict__" : Str))
def bor (se : Se) : E → Bool
  | .var i => se.ow i
  | _ => false
def isSlice : Expr → Bool
  | .Slice _ _ _ _ => true
  | _ => false
def ckTg (se : Se) (sc : Scope) (fnAll : Bool) : Tgt → Expr → Bool
  | .one i, .Name x _ => decide (se.N[i]? = some x) && (if fnAll then locB sc x else lclB sc x) && !se.ow i
  | .many l, .Tuple es _ _ => go l es
  | _, _ => false
where
  go : List Nat → List Expr → Bool
  | [], [] => true
  | i :: l, .Name x _ :: es => decide (se.N[i]? = some x) && (if fnAll then locB sc x else lclB sc x) && !se.ow i && go l es
  | _, _ => false
def ownOf (se : Se) : Tgt → List (Str × Nat)
  | .one i => [((se.N[i]?).getD "", i)]
  | .many l => l.map fun i => ((se.N[i]?).getD "", i)
def ckIt : I → Expr → Bool
  | .zip _ _, .Tuple _ _ _ => true
  | .enum _, .Tuple _ _ _ => true
  | .zip _ _, _ => false
  | .enum _, _ => false
  | _, _ => true
def foldB : Expr → Bool
  | .Set _ _ _ => false
  | _ => true
def same : D → D → Bool
  | .int i, .int j => i == j
  | .str a, .str b => decide (a = b)
  | .tup l, .tup r => (match strsOf l, strsOf r with
    | some a, some b => decide (a = b)
    | _, _ => false)
  | _, _ => false
def isNonB : D → Bool
  | .non => true
  | _ => false
def sameDv : List D → List D → Bool
  | [], [] => true
  | d :: l, e :: r => ((isNonB d && isNonB e) || same d e) && sameDv l r
  | _, _ => false
def dvB (se : Se) (k : Nat) (dv : List D) : Bool := match dv with
  | [] => true
  | dv => match se.DV.lookup k with
    | some dv' => sameDv dv dv'
    | none => false
def parB (se : Se) (k : Nat) (n : Nat) : Bool := match se.FN.lookup k with
  | some (_, par) => par == n
  | none => false
def ckLit : D → Expr → Bool
  | .non, .Constant .none _ _ => true
  | .bl b, .Constant (.bool b') _ _ => b == b'
  | .int i, .Constant (.int j) _ _ => i == j
  | .int i, .UnaryOp .USub (.Constant (.int j) _ _) _ => i == -j
  | .str s, .Constant (.str x) _ _ => decide (tl x = s) && decide (s.length ≤ sizeD)
  | _, _ => false
def ckVar (se : Se) (sc : Scope) (i : Nat) : Expr → Bool
  | .Name x _ => decide (se.N[i]? = some x) && visB sc x && plB x
  | _ => false
def ckGlob (se : Se) (sc : Scope) (x : Str) (d : D) : Expr → Bool
  | .Name y _ => decide (x = y) && glB sc y && plB y && (se.GC.any fun p => decide (p.1 = x) && same p.2 d)
  | _ => false
def ckTys (sc : Scope) : List Ty → Expr → Bool
  | [t], .Name y _ => decide (y = tyName t) && glB sc y
  | [t, u], .Tuple [.Name y _, .Name z _] _ _ => decide (y = tyName t) && glB sc y && decide (z = tyName u) && glB sc z
  | _, _ => false
def nilB : Es → Bool
  | .nil => true
  | _ => false
def fldB (o : OpN) (l : Es) (nm : Str) : Bool := match o with
  | .fld f => nilB l && decide (nm = fName f)
  | _ => false
def isNw : NwN → NwN → Bool
  | .lst, .lst => true
  | .dic, .dic => true
  | .dict, .dict => true
  | _, _ => false
def isTupB : Expr → Bool
  | .Tuple _ _ _ => true
  | _ => false
def walkX (kd : Kd) (t iter : Expr) : Option Expr := match kd, iter with
  | .lst, x => some x
  | .keys, x => some x
  | .vals, .Call (.Attribute x nm apos) [] [] cpos => if (decide (nm = "values") && notCall0 x && (apos.endLine == cpos.line)) = true then some x else none
  | .items, .Call (.Attribute x nm apos) [] [] cpos => if (decide (nm = "items") && notCall0 x && (apos.endLine == cpos.line) && isTupB t) = true then some x else none
  | _, _ => none
def ckCl (se : Se) (sc : Scope) : List Nat → List Expr → Bool
  | [], [] => true
  | k :: ks, .Name z _ :: es => decide (z = exName k) && glB sc z && plB z && se.EX.contains k && ckCl se sc ks es
  | _, _ => false
mutual
def ckE (se : Se) (sc : Scope) : E → Expr → Bool
  | .var i, e => ckVar se sc i e
  | .lit d, e => ckLit d e
  | .glob x d, e => ckGlob se sc x d e
  | .bin o a b, e => match e with
    | .BinOp x op y _ => decide (op = opOf o) && ckE se sc a x && ckE se sc b y
    | _ => false
  | .cmp o a b, e => match e with
    | .Compare x [op] [y] _ => decide (op = cOf o) && ckE se sc a x && ckE se sc b y && !isSet y
    | _ => false
  | .isN neg a, e => match e with
    | .Compare x [op] [.Constant .none _ _] _ => decide (op = if neg then .IsNot else .Is) && ckE se sc a x
    | _ => false
  | .chain o1 o2 a b c, e => match e with
    | .Compare x [op1, op2] [y, z] _ => decide (op1 = cOf o1) && decide (op2 = cOf o2) && ckE se sc a x && ckE se sc b y && ckE se sc c z && !isSet z
    | _ => false
  | .and2 a b, e => match e with
    | .BoolOp .And [x, y] _ => ckE se sc a x && ckE se sc b y && !bor se a && !bor se b
    | .BoolOp .And (x :: y :: z :: r) _ => ckE se sc a x && !bor se a && ckEl se sc .And b (y :: z :: r)
    | _ => false
  | .or2 a b, e => match e with
    | .BoolOp .Or [x, y] _ => ckE se sc a x && ckE se sc b y && !bor se a && !bor se b
    | .BoolOp .Or (x :: y :: z :: r) _ => ckE se sc a x && !bor se a && ckEl se sc .Or b (y :: z :: r)
    | _ => false
  | .not1 a, e => match e with
    | .UnaryOp .Not x _ => ckE se sc a x
    | _ => false
  | .ifx c a b, e => match e with
    | .IfExp z x y _ => ckT se sc c z && ckE se sc a x && ckE se sc b y && !bor se a && !bor se b
    | _ => false
  | .idx a b, e => match e with
    | .Subscript x y _ => ckE se sc a x && ckE se sc b y && !isSlice y
    | _ => false
  | .sl a lo hi, e => match e with
    | .Subscript x (.Slice l h none _) _ => ckE se sc a x && ckO se sc lo l && ckO se sc hi h
    | _ => false
  | .slS a lo st, e => if 0 < st then (match e with
      | .Subscript x (.Slice l none (some (.Constant (.int k) _ _)) _) _ => decide (k = st) && ckE se sc a x && ckO se sc lo l
      | _ => false) else match lo, st, e with
    | .no, -1, .Subscript x (.Slice none none (some (.UnaryOp .USub (.Constant (.int 1) _ _) _)) _) _ => ckE se sc a x
    | _, _, _ => false
  | .tup l, e => match e with
    | .Tuple es _ _ => ckEs se sc false l es && decide (l.len ≤ 1000)
    | _ => false
  | .lst l, e => match e with
    | .List es _ => (ckEs se sc false l es || ckLT se sc l es) && decide (l.len ≤ 1000)
    | _ => false
  | .dic0, e => match e with
    | .Dict [] [] _ => true
    | _ => false
  | .comp tg it cn b, e => match e with
    | .ListComp elt [⟨t, iter, ifs, a⟩] scope _ => decide (a = 0) && ckTg se (relS scope sc) false tg t && ckI se sc it iter && ckIt it t && foldB iter && ckC se (relS scope sc) cn ifs && ckE se (relS scope sc) b elt && !bor se b && blkC se.N sc scope (ownOf se tg)
    | _ => false
  | .call k l, e => match e with
    | .Call (.Name x _) [] [] _ => decide (se.FN.lookup k = some (x, 0)) && decide (k < 1000000) && glB sc x && plB x && nilB l
    | .Call (.Name x _) (e :: es) [] _ => decide (se.FN.lookup k = some (x, l.len)) && decide (k < 1000000) && glB sc x && plB x && ckEs se sc false l (e :: es)
    | _ => false
  | .bi b l, e => match e with
    | .Call (.Name x _) (e :: es) [] _ => decide (x = biName b) && glB sc x && ckEs se sc true l (e :: es)
    | _ => false
  | .mth o r l, e => match e with
    | .Call (.Attribute x nm apos) (e :: es) [] cpos => decide (nm = mtName o) && mtTxt o && ckE se sc r x && ckEs se sc true l (e :: es) && decide (es.length ≤ 3) && notCall0 x && (apos.endLine == cpos.line)
    | .Call (.Attribute x nm apos) [] [] cpos => decide (nm = mtName o) && mtTxt o && ckE se sc r x && notCall0 x && (apos.endLine == cpos.line) && nilB l
    | _ => false
  | .rep _ _ _, _ => false
  | .mop o r l, e => match e with
    | .Attribute x nm _ => fldB o l nm && ckE se sc r x && notCall0 x
    | .Call (.Attribute x nm apos) (e :: es) [] cpos => oOk o && decide (nm = oN o) && ckE se sc r x && ckEs se sc false l (e :: es) && decide (es.length ≤ 3) && notCall0 x && (apos.endLine == cpos.line)
    | .Call (.Attribute x nm apos) [] [] cpos => oOk o && decide (nm = oN o) && ckE se sc r x && notCall0 x && (apos.endLine == cpos.line) && nilB l
    | _ => false
  | .ext r a, e => match e with
    | .Call (.Attribute x nm apos) [y] [] cpos => decide (nm = "extend") && ckE se sc r x && ckF se sc a y && notStar y && notCall0 x && (apos.endLine == cpos.line)
    | _ => false
  | .new o l, e => (match o, l with
    | .fre, .cons a .nil => ckF se sc a e
    | _, _ => false) || match e with
    | .Dict [] [] _ => isNw .dic o && nilB l
    | .List es _ => isNw .lst o && ckEs se sc false l es && decide (l.len ≤ 1000)
    | .Call (.Name x _) [y] [] _ => isNw .dict o && decide (x = "dict") && glB sc x && ckEs se sc true l [y]
    | _ => false
  | .meth c nm r l dv, e => match e with
    | .Call (.Attribute x m apos) (e :: es) [] cpos => decide (m = mName nm) && decide (nm < 1000) && parB se (mnum c nm) (l.len + dv.length + 1) && dvB se (mnum c nm) dv && ckE se sc r x && ckEs se sc false l (e :: es) && decide (es.length ≤ 15) && notCall0 x && (apos.endLine == cpos.line)
    | .Call (.Attribute x m apos) [] [] cpos => decide (m = mName nm) && decide (nm < 1000) && parB se (mnum c nm) (dv.length + 1) && dvB se (mnum c nm) dv && ckE se sc r x && notCall0 x && (apos.endLine == cpos.line) && nilB l
    | _ => false
  | .make c l dv, e => match e with
    | .Call (.Name x _) (e :: es) [] _ => decide (x = clName c) && glB sc x && plB x && parB se (mnum c 0) (l.len + dv.length + 1) && dvB se (mnum c 0) dv && ckEs se sc false l (e :: es)
    | .Call (.Name x _) [] [] _ => decide (x = clName c) && glB sc x && plB x && parB se (mnum c 0) (dv.length + 1) && dvB se (mnum c 0) dv && nilB l
    | _ => false
  | .callD k l dv, e => match e with
    | .Call (.Name x _) (e :: es) [] _ => decide (se.FN.lookup k = some (x, l.len + dv.length)) && decide (k < 1000000) && dvB se k dv && glB sc x && plB x && ckEs se sc false l (e :: es)
    | .Call (.Name x _) [] [] _ => decide (se.FN.lookup k = some (x, dv.length)) && decide (k < 1000000) && dvB se k dv && glB sc x && plB x && nilB l
    | _ => false
  | .lrep l b, e => match e with
    | .BinOp (.List es _) .Mult y _ => ckEs se sc false l es && decide (l.len ≤ 1000) && ckE se sc b y
    | _ => false
  | .cat a b, e => match e with
    | .BinOp x .Add y _ => ckE se sc a x && ckE se sc b y
    | _ => false
  | .compL kd a tg cn b, e => match e with
    | .ListComp elt [⟨t, iter, ifs, w⟩] scope _ => match walkX kd t iter with
      | some x => decide (w = 0) && pureA a && ckTg se (relS scope sc) false tg t && ckE se sc a x && foldB iter && ckC se (relS scope sc) cn ifs && ckE se (relS scope sc) b elt && !bor se b && blkC se.N sc scope (ownOf se tg)
      | none => false
    | _ => false
  | .sortK _, _ => false
  | .sortI a, e => match e with
    | .Call (.Name x _) [.Call (.Attribute y nm apos) [] [] cpos] [] _ => decide (x = "sorted") && glB sc x && decide (nm = "items") && ckE se sc a y && notCall0 y && (apos.endLine == cpos.line)
    | _ => false
  | .tzip a b, e => match e with
    | .Call (.Name x _) [.Call (.Name z _) [e, y] [] _] [] _ => decide (x = "tuple") && glB sc x && decide (z = "zip") && glB sc z && ckE se sc a e && notStar e && ckE se sc b y && notStar y && !bor se a && !bor se b
    | _ => false
  | .isi ts a, e => match e with
    | .Call (.Name x _) [y, z] [] _ => decide (x = "isinstance") && glB sc x && ckTys sc ts z && ckE se sc a y && notStar y
    | _ => false
  | .isxT ks a, e => match e with
    | .Call (.Name x _) [y, .Tuple es _ _] [] _ => decide (x = "isinstance") && glB sc x && ckCl se sc ks es && !ks.isEmpty && decide (ks.length ≤ 1000) && ckE se sc a y && notStar y
    | _ => false
  | .isx k a, e => match e with
    | .Call (.Name x _) [y, .Name z _] [] _ => decide (x = "isinstance") && glB sc x && decide (z = exName k) && glB sc z && plB z && se.EX.contains k && ckE se sc a y && notStar y
    | _ => false
/-- the rest of a row of ands or ors, two things at least -/
def ckEl (se : Se) (sc : Scope) (o : BoolOp) : E → List Expr → Bool
  | .and2 a b, es => match es with
    | [x, y] => decide (o = .And) && ckE se sc a x && ckE se sc b y && !bor se a && !bor se b
    | x :: y :: z :: r => decide (o = .And) && ckE se sc a x && !bor se a && ckEl se sc o b (y :: z :: r)
    | _ => false
  | .or2 a b, es => match es with
    | [x, y] => decide (o = .Or) && ckE se sc a x && ckE se sc b y && !bor se a && !bor se b
    | x :: y :: z :: r => decide (o = .Or) && ckE se sc a x && !bor se a && ckEl se sc o b (y :: z :: r)
    | _ => false
  | _, _ => false
def ckT (se : Se) (sc : Scope) : E → Expr → Bool
  | .cmp o a b, e => match e with
    | .Compare x [op] [y] _ => decide (op = cOf o) && ckE se sc a x && ckE se sc b y && !isSet y
    | _ => false
  | .isN neg a, e => match e with
    | .Compare x [op] [.Constant .none _ _] _ => decide (op = if neg then .IsNot else .Is) && ckE se sc a x
    | _ => false
  | .chain o1 o2 a b c, e => match e with
    | .Compare x [op1, op2] [y, z] _ => decide (op1 = cOf o1) && decide (op2 = cOf o2) && ckE se sc a x && ckE se sc b y && ckE se sc c z && !isSet z
    | _ => false
  | .and2 a b, e => match e with
    | .BoolOp .And [x, y] _ => ckT se sc a x && ckT se sc b y
    | .BoolOp .And (x :: y :: z :: r) _ => ckT se sc a x && ckTl se sc .And b (y :: z :: r)
    | _ => false
  | .or2 a b, e => match e with
    | .BoolOp .Or [x, y] _ => ckT se sc a x && ckT se sc b y
    | .BoolOp .Or (x :: y :: z :: r) _ => ckT se sc a x && ckTl se sc .Or b (y :: z :: r)
    | _ => false
  | .not1 a, e => match e with
    | .UnaryOp .Not x _ => ckT se sc a x
    | _ => false
  | .var i, e => ckVar se sc i e
  | .idx a b, e => match e with
    | .Subscript x y _ => ckE se sc a x && ckE se sc b y && !isSlice y
    | _ => false
  | .call k l, e => match e with
    | .Call (.Name x _) [] [] _ => decide (se.FN.lookup k = some (x, 0)) && decide (k < 1000000) && glB sc x && plB x && nilB l
    | .Call (.Name x _) (e :: es) [] _ => decide (se.FN.lookup k = some (x, l.len)) && decide (k < 1000000) && glB sc x && plB x && ckEs se sc false l (e :: es)
    | _ => false
  | .bi b l, e => match e with
    | .Call (.Name x _) (e :: es) [] _ => decide (x = biName b) && glB sc x && ckEs se sc true l (e :: es)
    | _ => false
  | .isi ts a, e => match e with
    | .Call (.Name x _) [y, z] [] _ => decide (x = "isinstance") && glB sc x && ckTys sc ts z && ckE se sc a y && notStar y
    | _ => false
  | .isx k a, e => match e with
    | .Call (.Name x _) [y, .Name z _] [] _ => decide (x = "isinstance") && glB sc x && decide (z = exName k) && glB sc z && plB z && se.EX.contains k && ckE se sc a y && notStar y
    | _ => false
  | .mth o r l, e => match e with
    | .Call (.Attribute x nm apos) (e :: es) [] cpos => decide (nm = mtName o) && mtTxt o && ckE se sc r x && ckEs se sc true l (e :: es) && decide (es.length ≤ 3) && notCall0 x && (apos.endLine == cpos.line)
    | .Call (.Attribute x nm apos) [] [] cpos => decide (nm = mtName o) && mtTxt o && ckE se sc r x && notCall0 x && (apos.endLine == cpos.line) && nilB l
    | _ => false
  | .tzip a b, e => match e with
    | .Call (.Name x _) [.Call (.Name z _) [e, y] [] _] [] _ => decide (x = "tuple") && glB sc x && decide (z = "zip") && glB sc z && ckE se sc a e && notStar e && ckE se sc b y && notStar y && !bor se a && !bor se b
    | _ => false
  | .meth c nm r l dv, e => match e with
    | .Call (.Attribute x m apos) (e :: es) [] cpos => decide (m = mName nm) && decide (nm < 1000) && parB se (mnum c nm) (l.len + dv.length + 1) && dvB se (mnum c nm) dv && ckE se sc r x && ckEs se sc false l (e :: es) && decide (es.length ≤ 15) && notCall0 x && (apos.endLine == cpos.line)
    | .Call (.Attribute x m apos) [] [] cpos => decide (m = mName nm) && decide (nm < 1000) && parB se (mnum c nm) (dv.length + 1) && dvB se (mnum c nm) dv && ckE se sc r x && notCall0 x && (apos.endLine == cpos.line) && nilB l
    | _ => false
  | .mop o r l, e => match e with
    | .Attribute x nm _ => fldB o l nm && ckE se sc r x && notCall0 x
    | _ => false
  | _, _ => false
def ckTl (se : Se) (sc : Scope) (o : BoolOp) : E → List Expr → Bool
  | .and2 a b, es => match es with
    | [x, y] => decide (o = .And) && ckT se sc a x && ckT se sc b y
    | x :: y :: z :: r => decide (o = .And) && ckT se sc a x && ckTl se sc o b (y :: z :: r)
    | _ => false
  | .or2 a b, es => match es with
    | [x, y] => decide (o = .Or) && ckT se sc a x && ckT se sc b y
    | x :: y :: z :: r => decide (o = .Or) && ckT se sc a x && ckTl se sc o b (y :: z :: r)
    | _ => false
  | _, _ => false
def ckEs (se : Se) (sc : Scope) (b : Bool) : Es → List Expr → Bool
  | .nil, es => match es with
    | [] => true
    | _ => false
  | .cons a l, es => match es with
    | x :: es => ckE se sc a x && notStar x && (b || !bor se a) && ckEs se sc b l es
    | _ => false
def ckO (se : Se) (sc : Scope) : OE → Option Expr → Bool
  | .no, e => match e with
    | none => true
    | _ => false
  | .yes a, e => match e with
    | some x => ckE se sc a x
    | _ => false
def ckC (se : Se) (sc : Scope) : OE → List Expr → Bool
  | .no, es => match es with
    | [] => true
    | _ => false
  | .yes a, es => match es with
    | [x] => ckT se sc a x
    | _ => false
def ckI (se : Se) (sc : Scope) : I → Expr → Bool
  | .rev a, e => match e with
    | .Call (.Name x _) [e] [] _ => decide (x = "reversed") && glB sc x && ckE se sc a e && notStar e && !bor se a
    | _ => false
  | .enum a, e => match e with
    | .Call (.Name x _) [e] [] _ => decide (x = "enumerate") && glB sc x && ckE se sc a e && notStar e && !bor se a
    | _ => false
  | .zip a b, e => match e with
    | .Call (.Name x _) [e, y] [] _ => decide (x = "zip") && glB sc x && ckE se sc a e && notStar e && ckE se sc b y && notStar y && !bor se a && !bor se b
    | _ => false
  | .e a, x => ckE se sc a x
  | .rng1 a, e => match e with
    | .Call (.Name x _) [e] [] _ => decide (x = "range") && glB sc x && ckE se sc a e && notStar e && !bor se a
    | _ => false
  | .rng2 a b, e => match e with
    | .Call (.Name x _) [e, y] [] _ => decide (x = "range") && glB sc x && ckE se sc a e && notStar e && ckE se sc b y && notStar y && !bor se a && !bor se b
    | _ => false
  | .rng3 a b w, e => match e with
    | .Call (.Name x _) [e, y, z] [] _ => decide (x = "range") && glB sc x && ckE se sc a e && notStar e && ckE se sc b y && notStar y && ckE se sc w z && notStar z && !bor se a && !bor se b && !bor se w
    | _ => false
  | _, _ => false
/-- what gives something new -/
def ckF (se : Se) (sc : Scope) : E → Expr → Bool
  | .lst l, e => match e with
    | .List es _ => ckEs se sc false l es && decide (l.len ≤ 1000)
    | _ => false
  | .lrep l b, e => match e with
    | .BinOp (.List es _) .Mult y _ => ckEs se sc false l es && decide (l.len ≤ 1000) && ckE se sc b y
    | _ => false
  | .cat a b, e => match e with
    | .BinOp x .Add y _ => ckE se sc a x && ckE se sc b y
    | _ => false
  | .comp tg it cn b, e => match e with
    | .ListComp elt [⟨t, iter, ifs, a⟩] scope _ => decide (a = 0) && ckTg se (relS scope sc) false tg t && ckI se sc it iter && ckIt it t && foldB iter && ckC se (relS scope sc) cn ifs && ckE se (relS scope sc) b elt && !bor se b && blkC se.N sc scope (ownOf se tg)
    | _ => false
  | .call k l, e => match e with
    | .Call (.Name x _) (e :: es) [] _ => decide (se.FN.lookup k = some (x, l.len)) && decide (k < 1000000) && se.FR.contains k && glB sc x && plB x && ckEs se sc false l (e :: es)
    | _ => false
  | .meth c nm r l dv, e => match e with
    | .Call (.Attribute x m apos) [] [] cpos => decide (m = mName nm) && decide (nm < 1000) && parB se (mnum c nm) 1 && se.FR.contains (mnum c nm) && ckE se sc r x && notCall0 x && (apos.endLine == cpos.line) && nilB l && dv.isEmpty
    | _ => false
  | _, _ => false
/-- what gives a token out -/
def ckH (se : Se) (sc : Scope) : E → Expr → Bool
  | .bin o a b, e => match o, a, e with
    | .add, .lit (.str a), .BinOp (.Constant (.str a') _ _) .Add y _ => decide (a' = S a) && ckE se sc b y && !bor se b
    | _, _, _ => false
  | _, _ => false
/-- what wants one -/
def ckR (se : Se) (sc : Scope) : E → Expr → Bool
  | .rep y z a, e => match e with
    | .Call (.Attribute x nm apos) [.Constant (.str y') _ _, .Constant (.str z') _ _] [] cpos => decide (nm = "replace") && decide (y' = S y) && decide (z' = S z) && !(S y == S z) && ckE se sc a x && !bor se a && notCall0 x && (apos.endLine == cpos.line)
    | _ => false
  | _, _ => false
def ckLT (se : Se) (sc : Scope) : Es → List Expr → Bool
  | .nil, _ => false
  | .cons a l, es => match es with
    | x :: es => ckH se sc a x && notStar x && ckET se sc l es
    | _ => false
def ckET (se : Se) (sc : Scope) : Es → List Expr → Bool
  | .nil, es => match es with
    | [] => true
    | _ => false
  | .cons a l, es => match es with
    | x :: es => (ckR se sc a x || (ckE se sc a x && !bor se a)) && notStar x && ckET se sc l es
    | _ => false
end
def ckLam (params : Arguments) (body : Expr) (scope : Scope) : Bool := match params, body with
  | ⟨[], [⟨a, _, _⟩], none, [], [], none, []⟩, .Subscript (.Name b _) (.Constant (.int 0) _ _) _ => decide (a = "pair") && decide (b = a) && (match scope.kind with | .function => true | _ => false) && !scope.isCoroutine && !scope.isGenerator && decide (scope.names = [(a, .local)])
  | _, _ => false
def ckSK (se : Se) (sc : Scope) (a : E) : Expr → Bool
  | .Call (.Name x _) [e] [⟨some k, .Lambda params body scope _, _⟩] _ => se.lam && decide (x = "sorted") && glB sc x && decide (k = "key") && ckE se sc a e && notStar e && ckLam params body scope
  | _ => false
theorem ckE_var {se : Se} {sc : Scope} {i : Nat} {e : Expr} : ckE se sc (.var i) e = ckVar se sc i e := by rw [ckE]
end MP
set_option maxRecDepth 100000
set_option maxHeartbeats 8000000
set_option autoImplicit false
namespace MP
open PySem L2
def borI (se : Se) : I → Bool
  | .e a => bor se a
  | _ => false
structure Good (se : Se) (c : Cn) (n : Nat) (W : WX) (X : Cx) : Prop where
  hK : c.K = X.K
  calm : X.calm = true
  hN : X.N = se.N
  nd : se.N.Nodup
  own : ∀ i, c.own i = se.ow i
  room : Room (n + 1) X.A
  bi : ∀ b : BI, X.mg (biName b) = none
  ty : ∀ t : Ty, X.mg (tyName t) = none
  isi : X.mg "isinstance" = none
  rng : X.mg "range" = none
  zp : X.mg "zip" = none
  en : X.mg "enumerate" = none
  rv : X.mg "reversed" = none
  pa : ∀ σ, PassesAt (L2.CX X.prog X.w) X σ (WE W σ)
  fns : ∀ (k : Nat) (nm : Str) (par : Nat), k < 1000000 → se.FN.lookup k = some (nm, par) → ∃ (f : Addr) (fd : FuncData) (ps : List Str), X.mg nm = some (.ref f) ∧ PySem.W.keepIn X.K (.ref f) = true ∧ Binds X.K fd ps [] ∧ FnOk X.prog X.w X.K X.mg X.base (L2.CX X.prog X.w) n f fd ps (spD X.K c.cls (se.FR.contains k) par (c.cfg.call k)) ∧
    ∀ dv, dvB se k dv = true → ∃ dvs us, Binds X.K fd ps us ∧ Dv X.K dv dvs us
  mts : ∀ (k nm par : Nat), nm < 1000 → parB se (mnum k nm) par = true → ∃ (C f : Addr) (fd : FuncData) (ps : List Str), ClsA X.K k C ∧ X.mg (clName k) = some (.ref C) ∧ Cls X.K C ∧ Meth X.K C (mName nm) f ∧ (nm = 0 → Mk X.K C f) ∧
    FnOk X.prog X.w X.K X.mg X.base (L2.CX X.prog X.w) n f fd ps (spD X.K c.cls (se.FR.contains (mnum k nm)) par (c.cfg.call (mnum k nm))) ∧ Binds X.K fd ps [] ∧ ∀ dv, dvB se (mnum k nm) dv = true → ∃ dvs us, Binds X.K fd ps us ∧ Dv X.K dv dvs us
  obs : ObF X.K
  gcs : ∀ (nm : Str) (d : D), (nm, d) ∈ se.GC → ∃ v u, X.mg nm = some u ∧ RelV v u ∧ ∀ (A : Nat → Option Addr) (H : Hp), Rep c.K A H v d
  exf : ExFacts se.EX X.K X.mg c.cls c.cfg.sub
theorem Good.blk {se : Se} {c : Cn} {n : Nat} {W : WX} {X : Cx} (g : Good se c n W X) (s : Shared) (H : Hp) (scope : Scope) (env : Env) (fp : List Addr) : Good se c n W0 (X.blk s H scope env fp) :=
  ⟨g.hK, g.calm, g.hN, g.nd, g.own, g.room, g.bi, g.ty, g.isi, g.rng, g.zp, g.en, g.rv, fun σ => passAt takes0 σ, g.fns, g.mts, g.obs, g.gcs, g.exf⟩
theorem Good.blkX {se : Se} {c : Cn} {n : Nat} {W W' : WX} {X : Cx} (g : Good se c n W X) (s : Shared) (H : Hp) (scope : Scope) (env : Env) (fp : List Addr) (pa : ∀ σ, PassesAt (L2.CX X.prog X.w) (MP.blkX X s H scope env fp) σ (WE W' σ)) : Good se c n W' (MP.blkX X s H scope env fp) :=
  ⟨g.hK, g.calm, g.hN, g.nd, g.own, g.room, g.bi, g.ty, g.isi, g.rng, g.zp, g.en, g.rv, pa, g.fns, g.mts, g.obs, g.gcs, g.exf⟩
theorem Good.rm {se : Se} {c : Cn} {n : Nat} {W : WX} {X : Cx} (g : Good se c n W X) : Room n X.A := g.room.mono (Nat.le_succ _)
theorem Good.mth {se : Se} {c : Cn} {n : Nat} {W : WX} {X : Cx} (g : Good se c n W X) {k nm par : Nat} {dv : List D} (h1 : nm < 1000) (h2 : parB se (mnum k nm) par = true) (h3 : dvB se (mnum k nm) dv = true) : MthOk X c n k nm par dv := by
  obtain ⟨C, f, fd, ps, q1, q2, q3, q4, q5, q6, q7, q8⟩ := g.mts k nm par h1 h2
  obtain ⟨dvs, us, r1, r2⟩ := q8 dv h3
  exact ⟨⟨C, f, fd, ps, _, us, dvs, q1, q3, q4, q6, r1, r2⟩⟩
theorem Good.mkk {se : Se} {c : Cn} {n : Nat} {W : WX} {X : Cx} (g : Good se c n W X) {k par : Nat} {dv : List D} (h2 : parB se (mnum k 0) par = true) (h3 : dvB se (mnum k 0) dv = true) : MkOk X c n k par dv := by
  obtain ⟨C, f, fd, ps, q1, q2, q3, q4, q5, q6, q7, q8⟩ := g.mts k 0 par (by decide) h2
  obtain ⟨dvs, us, r1, r2⟩ := q8 dv h3
  exact ⟨⟨C, f, fd, ps, _, us, dvs, q1, q2, q5 rfl, q6, r1, r2⟩⟩
theorem Good.hu {se : Se} {c : Cn} {n : Nat} {W : WX} {X : Cx} (g : Good se c n W X) : X.A.units + 65 < cLine := by
  have := g.room.un
  omega
section
variable {se : Se} {c : Cn} {n : Nat} {W : WX} {X : Cx} {sc : Scope}
theorem vis_of (hs : X.env.scope = sc) {x : Str} (h : visB sc x = true) : Vis X.env.scope x := by
  unfold visB at h
  rw [hs]
  split at h
  · exact .inl (by assumption)
  · exact .inr (.inl (by assumption))
  · exact .inr (.inr (by assumption))
  · cases h
theorem loc_of (hs : X.env.scope = sc) {x : Str} (h : locB sc x = true) : Loc X.env.scope x := by
  unfold locB at h
  rw [hs]
  split at h
  · exact .inl (by assumption)
  · exact .inr (by assumption)
  · cases h
theorem lcl_of (hs : X.env.scope = sc) {x : Str} (h : lclB sc x = true) : X.env.scope.names.lookup x = some .local := by
  unfold lclB at h
  rw [hs]
  split at h
  · assumption
  · cases h
theorem gl_of (hs : X.env.scope = sc) {x : Str} (h : glB sc x = true) : Gl X x := by
  unfold glB at h
  show X.env.scope.names.lookup x = _
  rw [hs]
  split at h
  · assumption
  · cases h
theorem pl_of {x : Str} (h : plB x = true) : (x == ("__debug__" : Str)) = false ∧ (x == ("__classdict__" : Str)) = false := by
  unfold plB at h
  simp only [Bool.and_eq_true, Bool.not_eq_true'] at h
  exact h
theorem stars_of {b : Bool} : ∀ {l : Es} {es : List Expr}, ckEs se sc b l es = true → es.all notStar = true
  | .nil, [], _ => rfl
  | .nil, _ :: _, h => by simp [ckEs] at h
  | .cons a l, [], h => by simp [ckEs] at h
  | .cons a l, x :: es, h => by
    simp only [ckEs, Bool.and_eq_true] at h
    rw [List.all_cons, h.1.1.2, stars_of h.2]
    rfl
theorem fold_of {iter : Expr} (h : foldB iter = true) : ∀ x, foldedSetIterable iter X.env x = pure x := fun x => by
  cases iter <;> first | rfl | (simp [foldB] at h)
theorem tg_of (g : Good se c n W X) (hs : X.env.scope = sc) {fnAll : Bool} (hf : fnAll = true → ∀ x, X.fn x = true) : ∀ {tg : Tgt} {t : Expr}, ckTg se sc fnAll tg t = true → PG X t (TGr c.K tg) ∧ ∀ i ∈ tg.slots, c.own i = false := by
  have one : ∀ {i : Nat} {x : Str}, (decide (se.N[i]? = some x) && (if fnAll then locB sc x else lclB sc x) && !se.ow i) = true → X.N[i]? = some x ∧ Loc X.env.scope x ∧ (X.fn x = true ∨ X.env.scope.names.lookup x = some .local) ∧ c.own i = false := fun {i x} h => by
    simp only [Bool.and_eq_true, decide_eq_true_eq, Bool.not_eq_true'] at h
    refine ⟨by rw [g.hN]; exact h.1.1, ?_, ?_, by rw [g.own]; exact h.2⟩
    · cases fnAll with
      | true => exact loc_of hs h.1.2
      | false => exact .inl (lcl_of hs h.1.2)
    · cases fnAll with
      | true => exact .inl (hf rfl x)
      | false => exact .inr (lcl_of hs h.1.2)
  have go : ∀ (l : List Nat) (es : List Expr), ckTg.go se sc fnAll l es = true → Tgs X es l ∧ ∀ i ∈ l, c.own i = false := fun l => by
    induction l with
    | nil =>
      intro es h
      cases es with
      | nil => exact ⟨.nil, fun i hi => by cases hi⟩
      | cons _ _ => simp [ckTg.go] at h
    | cons i l ih =>
      intro es h
      cases es with
      | nil => simp [ckTg.go] at h
      | cons e es =>
        cases e with
        | Name x pos =>
          rw [ckTg.go, Bool.and_eq_true] at h
          obtain ⟨q1, q2, q3, q4⟩ := one h.1
          obtain ⟨r1, r2⟩ := ih es h.2
          exact ⟨.cons q1 q2 q3 r1, fun j hj => (List.mem_cons.mp hj).elim (fun e => by rw [e]; exact q4) (r2 j)⟩
        | _ => simp [ckTg.go] at h
  intro tg t h
  cases tg with
  | one i =>
    cases t with
    | Name x pos =>
      obtain ⟨q1, q2, q3, q4⟩ := one h
      refine ⟨?_, fun j hj => ?_⟩
      · rw [g.hK]
        exact s_tg1 (by rw [g.hN]; exact g.nd) q1 q2 q3
      · rcases List.mem_cons.mp hj with e | e
        · rw [e]; exact q4
        · cases e
    | _ => simp [ckTg] at h
  | many l =>
    cases t with
    | Tuple es k pos =>
      obtain ⟨q1, q2⟩ := go l es h
      refine ⟨?_, q2⟩
      rw [g.hK]
      exact s_tgN g.calm (by rw [g.hN]; exact g.nd) q1
    | _ => simp [ckTg] at h
theorem tg_own {fnAll : Bool} : ∀ {tg : Tgt} {t : Expr}, ckTg se sc fnAll tg t = true → ∀ i ∈ tg.slots, se.ow i = false := by
  have go : ∀ (l : List Nat) (es : List Expr), ckTg.go se sc fnAll l es = true → ∀ i ∈ l, se.ow i = false := fun l => by
    induction l with
    | nil => exact fun es _ i hi => by cases hi
    | cons i l ih =>
      intro es h
      cases es with
      | nil => simp [ckTg.go] at h
      | cons e es =>
        cases e with
        | Name x pos =>
          rw [ckTg.go] at h
          simp only [Bool.and_eq_true, Bool.not_eq_true'] at h
          exact fun j hj => (List.mem_cons.mp hj).elim (fun e => by rw [e]; exact h.1.2) (ih es h.2 j)
        | _ => simp [ckTg.go] at h
  intro tg t h
  cases tg with
  | one i =>
    cases t with
    | Name x pos =>
      unfold ckTg at h
      simp only [Bool.and_eq_true, Bool.not_eq_true'] at h
      exact fun j hj => by
        rcases List.mem_cons.mp hj with e | e
        · rw [e]; exact h.2
        · cases e
    | _ => simp [ckTg] at h
  | many l =>
    cases t with
    | Tuple es k pos => exact go l es h
    | _ => simp [ckTg] at h
theorem strsOf_inv : ∀ {l : List D} {ss : List (List Nat)}, strsOf l = some ss → l = ss.map D.str
  | [], _, h => by cases h; rfl
  | .str s :: r, _, h => by
    obtain ⟨ss', h', e⟩ := Option.map_eq_some_iff.mp (show (strsOf r).map (s :: ·) = some _ from h)
    subst e
    rw [strsOf_inv h', List.map_cons]
  | .non :: _, _, h | .bl _ :: _, _, h | .int _ :: _, _, h | .tup _ :: _, _, h | .lst _ :: _, _, h | .dic _ :: _, _, h | .obj _ :: _, _, h | .exc _ :: _, _, h => by cases h
theorem same_of {d e : D} (h : same d e = true) : d = e := by
  unfold same at h
  split at h
  · simp at h; rw [h]
  · simp at h; rw [h]
  · split at h
    · rename_i h1 h2
      have h3 := of_decide_eq_true h
      subst h3
      rw [strsOf_inv h1, strsOf_inv h2]
    · cases h
  · cases h
theorem ownOf_snd (tg : Tgt) : (ownOf se tg).map (·.2) = tg.slots := by
  cases tg with
  | one i => rfl
  | many l =>
    show (l.map _).map _ = l
    rw [List.map_map]
    exact List.map_id l
theorem bor_vis {i : Nat} (g : Good se c n W X) : bor se (.var i) = c.own i := (g.own i).symm
theorem k_var {W : WX} {i : Nat} {e : Expr} (g : Good se c n W X) (hs : X.env.scope = sc) (h : ckVar se sc i e = true) : PE X e (TEr c W (bor se (.var i)) (.var i)) := by
  unfold ckVar at h
  split at h
  · simp only [Bool.and_eq_true, decide_eq_true_eq] at h
    rw [bor_vis g]
    exact s_var (by rw [g.hN]; exact h.1.1) (vis_of hs h.1.2) (pl_of h.2).1 (pl_of h.2).2
  · cases h
theorem k_lit {W : WX} {d : D} {e : Expr} (h : ckLit d e = true) : PE X e (TEr c W false (.lit d)) := by
  unfold ckLit at h
  split at h
  · exact s_lit pe_non fun _ _ => .non
  · have := eq_of_beq h
    subst this
    exact s_lit pe_bl fun _ _ => .bl _
  · have := eq_of_beq h
    subst this
    exact s_lit pe_int fun _ _ => .int _
  · have := eq_of_beq h
    subst this
    refine s_lit (v := .int _) (pe_imp (pe_un un_neg pe_int) fun σ H Q q => ⟨_, rfl, q⟩) fun _ _ => .int _
  · rename_i s x _ _
    rw [Bool.and_eq_true, decide_eq_true_eq, decide_eq_true_eq] at h
    obtain ⟨h1, h2⟩ := h
    subst h1
    refine s_lit (v := .str (S (tl x))) (by rw [S_tl]; exact pe_str) fun _ _ => .str _ h2
  · cases h
theorem k_glob {W : WX} {d : D} {x : Str} {e : Expr} (g : Good se c n W X) (hs : X.env.scope = sc) (h : ckGlob se sc x d e = true) : PE X e (TEr c W false (.glob x d)) := by
  unfold ckGlob at h
  split at h
  · rename_i y pos
    simp only [Bool.and_eq_true, decide_eq_true_eq, List.any_eq_true] at h
    obtain ⟨⟨⟨h1, h2⟩, h3⟩, ⟨p, hp, h4, h5⟩⟩ := h
    subst h1
    have := same_of h5
    subst this
    obtain ⟨v, u, q1, q2, q3⟩ := g.gcs p.1 p.2 hp
    rw [h4] at q1
    exact s_glob (pe_glob (gl_of hs h2) q1 q2 (pl_of h3).1) q3
  · cases h
theorem TEr.up {W : WX} {b : Bool} {ir : E} {e : Expr} (h : PE X e (TEr c W b ir)) : PE X e (TEr c W true ir) := pe_imp h fun σ H Q ⟨G, L, m, ρ, E, q⟩ => ⟨G, L, m, ρ, E, PstG.imp q fun d m' H' L' _ _ _ q v r => q v r.weak⟩
theorem nb_of {W : WX} {ir : E} {e : Expr} (h : PE X e (TEr c W (bor se ir) ir)) (hb : bor se ir = false) : PE X e (TEr c W false ir) := by
  rw [hb] at h
  exact h
theorem star_ok {e : Expr} (h : (e :: ([] : List Expr)).all notStar = true) : notStar e = true := by
  rw [List.all_cons, Bool.and_eq_true] at h
  exact h.1
theorem isIx_of {y : Expr} (h : isSlice y = false) : PlainIx y := fun o i => by
  cases y <;> first | rfl | (simp [isSlice] at h)
end
theorem nil_of {l : Es} (h : nilB l = true) : l = .nil := by cases l <;> first | rfl | cases h
theorem nw_of {o p : NwN} (h : isNw o p = true) : p = o := by cases o <;> cases p <;> first | rfl | cases h
theorem fld_of {o : OpN} {l : Es} {nm : Str} (h : fldB o l nm = true) : ∃ f, o = .fld f ∧ l = .nil ∧ nm = fName f := by
  cases o with
  | fld f =>
    have h' : (nilB l && decide (nm = fName f)) = true := h
    rw [Bool.and_eq_true, decide_eq_true_eq] at h'
    exact ⟨f, rfl, nil_of h'.1, h'.2⟩
  | _ => cases h
theorem walk_of {X : Cx} {c : Cn} {W : WX} {b : Bool} {a : E} {kd : Kd} {t iter x : Expr} (h : walkX kd t iter = some x) (he : PE X x (TEr c W b a)) : PI X t iter (wiL X.K kd (TEr c W b a)) := by
  unfold walkX at h
  split at h
  · cases h; exact pi_list he
  · cases h; exact pi_keys he
  · split at h
    · rename_i q
      cases h
      simp only [Bool.and_eq_true, decide_eq_true_eq] at q
      obtain ⟨⟨e1, e2⟩, e3⟩ := q
      subst e1
      exact pi_values he (base_of e2) e3
    · cases h
  · split at h
    · rename_i q
      cases h
      simp only [Bool.and_eq_true, decide_eq_true_eq] at q
      obtain ⟨⟨⟨e1, e2⟩, e3⟩, e4⟩ := q
      subst e1
      cases t with
      | Tuple _ _ _ => exact pi_items he (base_of e2) e3
      | _ => cases e4
    · cases h
  · cases h
theorem cl_of {X : Cx} {se : Se} {sc : Scope} (hs : X.env.scope = sc) : ∀ {ks : List Nat} {es : List Expr}, ckCl se sc ks es = true → Paired (fun k e => k ∈ se.EX ∧ ∃ p, e = Expr.Name (exName k) p ∧ Gl X (exName k) ∧ (exName k == ("__debug__" : Str)) = false) ks es ∧ ∀ k ∈ ks, k ∈ se.EX
  | [], [], _ => ⟨.nil, fun _ z => by cases z⟩
  | k :: ks, e :: es, h => by
    unfold ckCl at h
    split at h
    · rename_i heq _; cases heq
    · rename_i k' ks' z pz es' h1 h2
      cases h1
      cases h2
      simp only [Bool.and_eq_true, decide_eq_true_eq, List.contains_iff_mem] at h
      obtain ⟨⟨⟨⟨h1, h2⟩, h3⟩, h4⟩, h5⟩ := h
      subst h1
      obtain ⟨q1, q2⟩ := cl_of hs h5
      exact ⟨.cons ⟨h4, pz, rfl, gl_of hs h2, (pl_of h3).1⟩ q1, fun x hx => (List.mem_cons.mp hx).elim (fun z => by rw [z]; exact h4) (q2 x)⟩
    · cases h
  | [], _ :: _, h => by cases h
  | _ :: _, [], h => by cases h
mutual
theorem okE {se : Se} {c : Cn} {n : Nat} : ∀ (ir : E) {e : Expr} {W : WX} {X : Cx} {sc : Scope}, Good se c n W X → X.env.scope = sc → ckE se sc ir e = true → PE X e (TEr c W (bor se ir) ir)
  | .var i, e, W, X, sc, g, hs, h => k_var g hs (by rw [ckE] at h; exact h)
  | .lit d, e, W, X, sc, g, hs, h => k_lit (by rw [ckE] at h; exact h)
  | .glob x d, e, W, X, sc, g, hs, h => k_glob g hs (by rw [ckE] at h; exact h)
  | .bin o a b, e, W, X, sc, g, hs, h => by
    unfold ckE at h
    split at h
    · simp only [Bool.and_eq_true, decide_eq_true_eq] at h
      obtain ⟨⟨h1, h2⟩, h3⟩ := h
      subst h1
      exact s_bin o g.hK (okE a g hs h2) (okE b g hs h3)
    · cases h
  | .cmp o a b, e, W, X, sc, g, hs, h => by
    unfold ckE at h
    split at h
    · simp only [Bool.and_eq_true, decide_eq_true_eq, Bool.not_eq_true'] at h
      obtain ⟨⟨⟨h1, h2⟩, h3⟩, h4⟩ := h
      subst h1
      exact s_cmp g.hK g.hu o (okE a g hs h2) (okE b g hs h3) h4
    · cases h
  | .isN neg a, e, W, X, sc, g, hs, h => by
    unfold ckE at h
    split at h
    · simp only [Bool.and_eq_true, decide_eq_true_eq] at h
      obtain ⟨h1, h2⟩ := h
      subst h1
      exact s_isN neg (okE a g hs h2)
    · cases h
  | .chain o1 o2 a b d, e, W, X, sc, g, hs, h => by
    unfold ckE at h
    split at h
    · simp only [Bool.and_eq_true, decide_eq_true_eq, Bool.not_eq_true'] at h
      obtain ⟨⟨⟨⟨⟨h1, h2⟩, h3⟩, h4⟩, h5⟩, h6⟩ := h
      subst h1 h2
      exact s_chain g.hK g.hu o1 o2 (okE a g hs h3) (okE b g hs h4) (okE d g hs h5) h6
    · cases h
  | .and2 a b, e, W, X, sc, g, hs, h => by
    unfold ckE at h
    split at h
    · simp only [Bool.and_eq_true, Bool.not_eq_true'] at h
      obtain ⟨⟨⟨h1, h2⟩, h3⟩, h4⟩ := h
      exact s_and g.hK (nb_of (okE a g hs h1) h3) (pe_one (nb_of (okE b g hs h2) h4))
    · simp only [Bool.and_eq_true, Bool.not_eq_true'] at h
      obtain ⟨⟨h1, h3⟩, h4⟩ := h
      exact s_and g.hK (nb_of (okE a g hs h1) h3) (okEl b .And _ g hs h4)
    · cases h
  | .or2 a b, e, W, X, sc, g, hs, h => by
    unfold ckE at h
    split at h
    · simp only [Bool.and_eq_true, Bool.not_eq_true'] at h
      obtain ⟨⟨⟨h1, h2⟩, h3⟩, h4⟩ := h
      exact s_or g.hK (nb_of (okE a g hs h1) h3) (pe_one (nb_of (okE b g hs h2) h4))
    · simp only [Bool.and_eq_true, Bool.not_eq_true'] at h
      obtain ⟨⟨h1, h3⟩, h4⟩ := h
      exact s_or g.hK (nb_of (okE a g hs h1) h3) (okEl b .Or _ g hs h4)
    · cases h
  | .not1 a, e, W, X, sc, g, hs, h => by
    unfold ckE at h
    split at h
    · exact s_not g.hK (okE a g hs h)
    · cases h
  | .ifx d a b, e, W, X, sc, g, hs, h => by
    unfold ckE at h
    split at h
    · simp only [Bool.and_eq_true, Bool.not_eq_true'] at h
      obtain ⟨⟨⟨⟨h1, h2⟩, h3⟩, h4⟩, h5⟩ := h
      exact s_ifx (okT d g hs h1) (nb_of (okE a g hs h2) h4) (nb_of (okE b g hs h3) h5)
    · cases h
  | .idx a b, e, W, X, sc, g, hs, h => by
    unfold ckE at h
    split at h
    · simp only [Bool.and_eq_true, Bool.not_eq_true'] at h
      exact s_idx g.hK g.hu (okE a g hs h.1.1) (okE b g hs h.1.2) (isIx_of h.2)
    · cases h
  | .sl a lo hi, e, W, X, sc, g, hs, h => by
    unfold ckE at h
    split at h
    · simp only [Bool.and_eq_true] at h
      exact s_sl g.hK (okE a g hs h.1.1) (okO lo g hs h.1.2) (okO hi g hs h.2)
    · cases h
  | .slS a lo st, e, W, X, sc, g, hs, h => by
    unfold ckE at h
    split at h
    · rename_i h0
      split at h
      · simp only [Bool.and_eq_true, decide_eq_true_eq] at h
        obtain ⟨⟨h1, h2⟩, h3⟩ := h
        subst h1
        exact s_step h0 g.hK (okE a g hs h2) (okO lo g hs h3)
      · cases h
    · split at h
      · exact s_rev g.hK (okE a g hs h)
      · cases h
  | .tup l, e, W, X, sc, g, hs, h => by
    unfold ckE at h
    split at h
    · rw [Bool.and_eq_true, decide_eq_true_eq] at h
      exact s_tup (okEs l g hs h.1) h.2
    · cases h
  | .lst l, e, W, X, sc, g, hs, h => by
    unfold ckE at h
    split at h
    · rw [Bool.and_eq_true, decide_eq_true_eq, Bool.or_eq_true] at h
      rcases h.1 with h1 | h1
      · exact s_lst (okEs l g hs h1) h.2
      · exact s_lst (okLT l g hs h1) h.2
    · cases h
  | .dic0, e, W, X, sc, g, hs, h => by
    unfold ckE at h
    split at h
    · exact s_dic0
    · cases h
  | .comp tg it cn b, e, W, X, sc, g, hs, h => by
    unfold ckE at h
    split at h
    · simp only [Bool.and_eq_true, Bool.not_eq_true', decide_eq_true_eq] at h
      obtain ⟨⟨⟨⟨⟨⟨⟨⟨h0, h1⟩, h2⟩, h2t⟩, h3⟩, h4⟩, h5⟩, h6⟩, h7⟩ := h
      subst h0
      rename_i scope pos
      have blk := fun (s : Shared) (H : Hp) (C : Addr) (cl : List (Str × Addr)) (fp : List Addr) => (g.blk s H scope (compEnvC scope cl C X.env) fp)
      refine s_comp (bc := borI se it) g.hK g.calm (by rw [g.hN]; exact g.nd) (okI it g hs h2 h2t) (by rw [g.hN, hs]; exact blkOk_by h7) (ownOf_snd tg) (fun i hi => ?_) (fun s H C cl fp => ?_) (fun s H C cl fp => ?_) (fun s H C cl fp => ?_) (fold_of h3)
      · rw [g.own]
        exact tg_own h1 i hi
      · exact (tg_of (blk s H C cl fp) (by rw [← hs]; rfl) (fun q => by cases q) h1).1
      · exact okC cn (blk s H C cl fp) (by rw [← hs]; rfl) h4
      · exact nb_of (okE b (blk s H C cl fp) (by rw [← hs]; rfl) h5) h6
    · cases h
  | .call k l, e, W, X, sc, g, hs, h => by
    unfold ckE at h
    split at h
    · simp only [Bool.and_eq_true, decide_eq_true_eq] at h
      obtain ⟨⟨⟨⟨h1, h0⟩, h2⟩, h3⟩, h4⟩ := h
      obtain ⟨f, fd, ps, q1, q2, q3, q4, _⟩ := g.fns _ _ _ h0 h1
      cases nil_of h4
      exact s_call0 g.hK q4 g.rm (gl_of hs h2) q1 q2 q3 g.pa (pl_of h3).1
    · simp only [Bool.and_eq_true, decide_eq_true_eq] at h
      obtain ⟨⟨⟨⟨h1, h0⟩, h2⟩, h3⟩, h4⟩ := h
      obtain ⟨f, fd, ps, q1, q2, q3, q4, _⟩ := g.fns _ _ _ h0 h1
      exact s_call g.hK q4 g.rm (gl_of hs h2) q1 q2 q3 g.pa (okEs l g hs h4) rfl (pl_of h3).1 (stars_of h4)
    · cases h
  | .bi b l, e, W, X, sc, g, hs, h => by
    unfold ckE at h
    split at h
    · simp only [Bool.and_eq_true, decide_eq_true_eq] at h
      obtain ⟨⟨h1, h2⟩, h3⟩ := h
      subst h1
      exact s_bi g.hK g.calm g.hu b (gl_of hs h2) (g.bi b) (okEs l g hs h3) (stars_of h3)
    · cases h
  | .mth o r l, e, W, X, sc, g, hs, h => by
    unfold ckE at h
    split at h
    · simp only [Bool.and_eq_true, decide_eq_true_eq] at h
      obtain ⟨⟨⟨⟨⟨⟨h1, h2⟩, h3⟩, h4⟩, h5⟩, h6⟩, h7⟩ := h
      subst h1
      exact s_mth h2 g.hK (okE r g hs h3) (okEs l g hs h4) (stars_of h4) h5 h6 h7
    · simp only [Bool.and_eq_true, decide_eq_true_eq] at h
      obtain ⟨⟨⟨⟨⟨h1, h2⟩, h3⟩, h4⟩, h5⟩, h6⟩ := h
      subst h1
      cases nil_of h6
      exact s_mth0 h2 g.hK (okE r g hs h3) h4 h5
    · cases h
  | .rep _ _ _, _, _, _, _, _, _, h => by simp [ckE] at h
  | .tzip a b, e, W, X, sc, g, hs, h => by
    unfold ckE at h
    split at h
    · simp only [Bool.and_eq_true, decide_eq_true_eq, Bool.not_eq_true'] at h
      obtain ⟨⟨⟨⟨⟨⟨⟨⟨⟨h1, h2⟩, h3⟩, h4⟩, h5⟩, h6⟩, h7⟩, h8⟩, h9⟩, h10⟩ := h
      subst h1 h3
      exact s_tzip g.hK g.calm (gl_of hs h2) (g.bi .tuple) (gl_of hs h4) g.zp (nb_of (okE a g hs h5) h9) (nb_of (okE b g hs h7) h10) h6 h8
    · cases h
  | .isi ts a, e, W, X, sc, g, hs, h => by
    unfold ckE at h
    split at h
    · simp only [Bool.and_eq_true, decide_eq_true_eq] at h
      obtain ⟨⟨⟨⟨h1, h2⟩, h3⟩, h4⟩, h5⟩ := h
      subst h1
      unfold ckTys at h3
      split at h3
      · simp only [Bool.and_eq_true, decide_eq_true_eq] at h3
        obtain ⟨h6, h7⟩ := h3
        subst h6
        exact s_isi1 (k := 0) _ g.hK (gl_of hs h2) g.isi (gl_of hs h7) (g.ty _) (okE a g hs h4) h5
      · simp only [Bool.and_eq_true, decide_eq_true_eq] at h3
        obtain ⟨⟨⟨h6, h7⟩, h8⟩, h9⟩ := h3
        subst h6 h8
        exact s_isi2 _ _ g.hK (gl_of hs h2) g.isi (gl_of hs h7) (g.ty _) (gl_of hs h9) (g.ty _) (okE a g hs h4) h5
      · cases h3
    · cases h
  | .isx k a, e, W, X, sc, g, hs, h => by
    unfold ckE at h
    split at h
    · simp only [Bool.and_eq_true, decide_eq_true_eq, List.contains_iff_mem] at h
      obtain ⟨⟨⟨⟨⟨⟨⟨h1, h2⟩, h3⟩, h4⟩, h5⟩, h6⟩, h7⟩, h8⟩ := h
      subst h1 h3
      exact s_isx g.exf h6 g.hK (gl_of hs h2) g.isi (gl_of hs h4) (pl_of h5).1 (okE a g hs h7) h8
    · cases h
  | .mop o r l, e, W, X, sc, g, hs, h => by
    unfold ckE at h
    split at h
    · simp only [Bool.and_eq_true, decide_eq_true_eq] at h
      obtain ⟨⟨h1, h2⟩, h3⟩ := h
      obtain ⟨f, rfl, rfl, rfl⟩ := fld_of h1
      exact s_fld g.obs g.hK (okE r g hs h2) (base_of h3)
    · simp only [Bool.and_eq_true, decide_eq_true_eq] at h
      obtain ⟨⟨⟨⟨⟨⟨h0, h1⟩, h3⟩, h4⟩, h5⟩, h6⟩, h7⟩ := h
      subst h1
      exact s_mop g.hu h0 g.hK (okE r g hs h3) (okEs l g hs h4) (stars_of h4) h5 h6 h7
    · simp only [Bool.and_eq_true, decide_eq_true_eq] at h
      obtain ⟨⟨⟨⟨⟨h0, h1⟩, h3⟩, h4⟩, h5⟩, h6⟩ := h
      subst h1
      cases nil_of h6
      exact s_mop0 g.hu h0 g.hK (okE r g hs h3) h4 h5
    · cases h
  | .ext r a, e, W, X, sc, g, hs, h => by
    unfold ckE at h
    split at h
    · simp only [Bool.and_eq_true, decide_eq_true_eq] at h
      obtain ⟨⟨⟨⟨⟨h1, h2⟩, h3⟩, h4⟩, h5⟩, h6⟩ := h
      subst h1
      exact s_ext g.hK (okE r g hs h2) (okF a g hs h3) h4 h5 h6
    · cases h
  | .new o l, e, W, X, sc, g, hs, h => by
    unfold ckE at h
    rw [Bool.or_eq_true] at h
    rcases h with h | h
    · cases o with
      | fre => cases l with
        | nil => cases h
        | cons a l => cases l with
          | nil => exact s_newF (okF a g hs h)
          | cons _ _ => cases h
      | _ => cases h
    split at h
    · simp only [Bool.and_eq_true] at h
      cases nw_of h.1
      cases nil_of h.2
      exact s_newD
    · simp only [Bool.and_eq_true, decide_eq_true_eq] at h
      cases nw_of h.1.1
      exact s_newL (okEs l g hs h.1.2) h.2
    · simp only [Bool.and_eq_true, decide_eq_true_eq] at h
      obtain ⟨⟨⟨h0, h1⟩, h2⟩, h3⟩ := h
      cases nw_of h0
      subst h1
      exact s_newT g.hK g.calm (gl_of hs h2) (g.bi .dict) (okEs l g hs h3) (star_ok (stars_of h3))
    · cases h
  | .meth k nm r l dv, e, W, X, sc, g, hs, h => by
    unfold ckE at h
    split at h
    · simp only [Bool.and_eq_true, decide_eq_true_eq] at h
      obtain ⟨⟨⟨⟨⟨⟨⟨⟨h1, h2⟩, h3⟩, h4⟩, h5⟩, h6⟩, h7⟩, h8⟩, h9⟩ := h
      subst h1
      exact s_meth g.hK (g.mth h2 h3 h4) g.rm g.pa (okE r g hs h5) (okEs l g hs h6) rfl (stars_of h6) (ht_of h8 (stars_of h6) (by rw [List.length_cons]; omega) h9)
    · simp only [Bool.and_eq_true, decide_eq_true_eq] at h
      obtain ⟨⟨⟨⟨⟨⟨⟨h1, h2⟩, h3⟩, h4⟩, h5⟩, h6⟩, h7⟩, h8⟩ := h
      subst h1
      cases nil_of h8
      exact s_meth0 g.hK (g.mth h2 h3 h4) g.rm g.pa (okE r g hs h5) rfl (ht_of h6 rfl (by decide) h7)
    · cases h
  | .make k l dv, e, W, X, sc, g, hs, h => by
    unfold ckE at h
    split at h
    · simp only [Bool.and_eq_true, decide_eq_true_eq] at h
      obtain ⟨⟨⟨⟨⟨h1, h2⟩, h3⟩, h4⟩, h5⟩, h6⟩ := h
      subst h1
      exact s_make g.hK (g.mkk h4 h5) g.room (gl_of hs h2) g.pa (okEs l g hs h6) rfl (pl_of h3).1 (stars_of h6)
    · simp only [Bool.and_eq_true, decide_eq_true_eq] at h
      obtain ⟨⟨⟨⟨⟨h1, h2⟩, h3⟩, h4⟩, h5⟩, h6⟩ := h
      subst h1
      cases nil_of h6
      exact s_make0 g.hK (g.mkk h4 h5) g.room (gl_of hs h2) g.pa rfl (pl_of h3).1
    · cases h
  | .callD k l dv, e, W, X, sc, g, hs, h => by
    unfold ckE at h
    split at h
    · simp only [Bool.and_eq_true, decide_eq_true_eq] at h
      obtain ⟨⟨⟨⟨⟨h1, h0⟩, h2⟩, h3⟩, h4⟩, h5⟩ := h
      obtain ⟨f, fd, ps, q1, q2, q3, q4, q5⟩ := g.fns _ _ _ h0 h1
      obtain ⟨dvs, us, r1, r2⟩ := q5 dv h2
      exact s_callD g.hK q4 g.rm (gl_of hs h3) q1 q2 r1 r2 g.pa (okEs l g hs h5) rfl (pl_of h4).1 (stars_of h5)
    · simp only [Bool.and_eq_true, decide_eq_true_eq] at h
      obtain ⟨⟨⟨⟨⟨h1, h0⟩, h2⟩, h3⟩, h4⟩, h5⟩ := h
      obtain ⟨f, fd, ps, q1, q2, q3, q4, q5⟩ := g.fns _ _ _ h0 h1
      obtain ⟨dvs, us, r1, r2⟩ := q5 dv h2
      cases nil_of h5
      exact s_callD0 g.hK q4 g.rm (gl_of hs h3) q1 q2 r1 r2 g.pa rfl (pl_of h4).1
    · cases h
  | .isxT ks a, e, W, X, sc, g, hs, h => by
    unfold ckE at h
    split at h
    · rename_i x px y es kk pt p
      simp only [Bool.and_eq_true, decide_eq_true_eq, Bool.not_eq_true'] at h
      obtain ⟨⟨⟨⟨⟨⟨h1, h2⟩, h3⟩, h4⟩, h5⟩, h6⟩, h7⟩ := h
      subst h1
      obtain ⟨q1, q2⟩ := cl_of hs h3
      exact s_isxT g.exf q1 h5 (by cases ks with
        | nil => cases h4
        | cons _ _ => exact fun z => by cases z) q2 g.hK (gl_of hs h2) g.isi (okE a g hs h6) h7
    · cases h
  | .sortK _, e, W, X, sc, g, hs, h => by simp [ckE] at h
  | .sortI a, e, W, X, sc, g, hs, h => by
    unfold ckE at h
    split at h
    · simp only [Bool.and_eq_true, decide_eq_true_eq] at h
      obtain ⟨⟨⟨⟨⟨h1, h2⟩, h3⟩, h4⟩, h5⟩, h6⟩ := h
      subst h1 h3
      exact s_sortI g.hK g.calm g.hu (gl_of hs h2) (g.bi .sorted) (okE a g hs h4) h5 h6
    · cases h
  | .lrep l b, e, W, X, sc, g, hs, h => by
    unfold ckE at h
    split at h
    · simp only [Bool.and_eq_true, decide_eq_true_eq] at h
      exact TEo.te (o_lrep (okEs l g hs h.1.1) h.1.2 (okE b g hs h.2))
    · cases h
  | .cat a b, e, W, X, sc, g, hs, h => by
    unfold ckE at h
    split at h
    · simp only [Bool.and_eq_true] at h
      exact TEo.te (o_cat g.hK (okE a g hs h.1) (okE b g hs h.2))
    · cases h
  | .compL kd a tg cn b, e, W, X, sc, g, hs, h => by
    unfold ckE at h
    split at h
    · rename_i elt t iter ifs w scope pos
      split at h
      · rename_i x hx
        simp only [Bool.and_eq_true, Bool.not_eq_true', decide_eq_true_eq] at h
        obtain ⟨⟨⟨⟨⟨⟨⟨⟨h0, hp⟩, h1⟩, h2⟩, h3⟩, h4⟩, h5⟩, h6⟩, h7⟩ := h
        subst h0
        have blk := fun (s : Shared) (H : Hp) (C : Addr) (cl : List (Str × Addr)) (fp : List Addr) => (g.blk s H scope (compEnvC scope cl C X.env) fp)
        refine s_compL (b := bor se a) g.hK g.calm (by rw [g.hN]; exact g.nd) hp (walk_of hx (okE a g hs h2)) (by rw [g.hN, hs]; exact blkOk_by h7) (ownOf_snd tg) (fun i hi => ?_) (fun s H C cl fp => ?_) (fun s H C cl fp => ?_) (fun s H C cl fp => ?_) (fold_of h3)
        · rw [g.own]
          exact tg_own h1 i hi
        · exact (tg_of (blk s H C cl fp) (by rw [← hs]; rfl) (fun q => by cases q) h1).1
        · exact okC cn (blk s H C cl fp) (by rw [← hs]; rfl) h4
        · exact nb_of (okE b (blk s H C cl fp) (by rw [← hs]; rfl) h5) h6
      · cases h
    · cases h
theorem okEl {se : Se} {c : Cn} {n : Nat} : ∀ (ir : E) (o : BoolOp) (es : List Expr) {W : WX} {X : Cx} {sc : Scope} {pos : Pos}, Good se c n W X → X.env.scope = sc → ckEl se sc o ir es = true → PE X (.BoolOp o es pos) (TEr c W false ir)
  | .and2 a b, o, es, W, X, sc, pos, g, hs, h => by
    unfold ckEl at h
    split at h
    · simp only [Bool.and_eq_true, Bool.not_eq_true', decide_eq_true_eq] at h
      obtain ⟨⟨⟨⟨h0, h1⟩, h2⟩, h3⟩, h4⟩ := h
      subst h0
      exact s_and g.hK (nb_of (okE a g hs h1) h3) (pe_one (nb_of (okE b g hs h2) h4))
    · simp only [Bool.and_eq_true, Bool.not_eq_true', decide_eq_true_eq] at h
      obtain ⟨⟨⟨h0, h1⟩, h3⟩, h4⟩ := h
      subst h0
      exact s_and g.hK (nb_of (okE a g hs h1) h3) (okEl b .And _ g hs h4)
    · cases h
  | .or2 a b, o, es, W, X, sc, pos, g, hs, h => by
    unfold ckEl at h
    split at h
    · simp only [Bool.and_eq_true, Bool.not_eq_true', decide_eq_true_eq] at h
      obtain ⟨⟨⟨⟨h0, h1⟩, h2⟩, h3⟩, h4⟩ := h
      subst h0
      exact s_or g.hK (nb_of (okE a g hs h1) h3) (pe_one (nb_of (okE b g hs h2) h4))
    · simp only [Bool.and_eq_true, Bool.not_eq_true', decide_eq_true_eq] at h
      obtain ⟨⟨⟨h0, h1⟩, h3⟩, h4⟩ := h
      subst h0
      exact s_or g.hK (nb_of (okE a g hs h1) h3) (okEl b .Or _ g hs h4)
    · cases h
  | .var _, _, _, _, _, _, _, _, _, h => by simp [ckEl] at h
  | .lit _, _, _, _, _, _, _, _, _, h => by simp [ckEl] at h
  | .glob _ _, _, _, _, _, _, _, _, _, h => by simp [ckEl] at h
  | .bin _ _ _, _, _, _, _, _, _, _, _, h => by simp [ckEl] at h
  | .cmp _ _ _, _, _, _, _, _, _, _, _, h => by simp [ckEl] at h
  | .isN _ _, _, _, _, _, _, _, _, _, h => by simp [ckEl] at h
  | .chain _ _ _ _ _, _, _, _, _, _, _, _, _, h => by simp [ckEl] at h
  | .not1 _, _, _, _, _, _, _, _, _, h => by simp [ckEl] at h
  | .ifx _ _ _, _, _, _, _, _, _, _, _, h => by simp [ckEl] at h
  | .idx _ _, _, _, _, _, _, _, _, _, h => by simp [ckEl] at h
  | .sl _ _ _, _, _, _, _, _, _, _, _, h => by simp [ckEl] at h
  | .slS _ _ _, _, _, _, _, _, _, _, _, h => by simp [ckEl] at h
  | .tup _, _, _, _, _, _, _, _, _, h => by simp [ckEl] at h
  | .lst _, _, _, _, _, _, _, _, _, h => by simp [ckEl] at h
  | .dic0, _, _, _, _, _, _, _, _, h => by simp [ckEl] at h
  | .comp _ _ _ _, _, _, _, _, _, _, _, _, h => by simp [ckEl] at h
  | .call _ _, _, _, _, _, _, _, _, _, h => by simp [ckEl] at h
  | .bi _ _, _, _, _, _, _, _, _, _, h => by simp [ckEl] at h
  | .mth _ _ _, _, _, _, _, _, _, _, _, h => by simp [ckEl] at h
  | .isi _ _, _, _, _, _, _, _, _, _, h => by simp [ckEl] at h
  | .isx _ _, _, _, _, _, _, _, _, _, h => by simp [ckEl] at h
  | .tzip _ _, _, _, _, _, _, _, _, _, h => by simp [ckEl] at h
  | .rep _ _ _, _, _, _, _, _, _, _, _, h => by simp [ckEl] at h
  | .mop _ _ _, _, _, _, _, _, _, _, _, h => by simp [ckEl] at h
  | .ext _ _, _, _, _, _, _, _, _, _, h => by simp [ckEl] at h
  | .new _ _, _, _, _, _, _, _, _, _, h => by simp [ckEl] at h
  | .meth _ _ _ _ _, _, _, _, _, _, _, _, _, h => by simp [ckEl] at h
  | .make _ _ _, _, _, _, _, _, _, _, _, h => by simp [ckEl] at h
  | .callD _ _ _, _, _, _, _, _, _, _, _, h => by simp [ckEl] at h
  | .lrep _ _, _, _, _, _, _, _, _, _, h => by simp [ckEl] at h
  | .sortK _, _, _, _, _, _, _, _, _, h => by simp [ckEl] at h
  | .sortI _, _, _, _, _, _, _, _, _, h => by simp [ckEl] at h
  | .isxT _ _, _, _, _, _, _, _, _, _, h => by simp [ckEl] at h
  | .cat _ _, _, _, _, _, _, _, _, _, h => by simp [ckEl] at h
  | .compL _ _ _ _ _, _, _, _, _, _, _, _, _, h => by simp [ckEl] at h
theorem okT {se : Se} {c : Cn} {n : Nat} : ∀ (ir : E) {e : Expr} {W : WX} {X : Cx} {sc : Scope}, Good se c n W X → X.env.scope = sc → ckT se sc ir e = true → PT X e (TTr c W ir)
  | .cmp o a b, e, W, X, sc, g, hs, h => by
    unfold ckT at h
    split at h
    · simp only [Bool.and_eq_true, decide_eq_true_eq, Bool.not_eq_true'] at h
      obtain ⟨⟨⟨h1, h2⟩, h3⟩, h4⟩ := h
      subst h1
      exact s_cmpT g.hK g.hu o (okE a g hs h2) (okE b g hs h3) h4
    · cases h
  | .isN neg a, e, W, X, sc, g, hs, h => by
    unfold ckT at h
    split at h
    · simp only [Bool.and_eq_true, decide_eq_true_eq] at h
      obtain ⟨h1, h2⟩ := h
      subst h1
      exact s_isNT neg (okE a g hs h2)
    · cases h
  | .chain o1 o2 a b d, e, W, X, sc, g, hs, h => by
    unfold ckT at h
    split at h
    · simp only [Bool.and_eq_true, decide_eq_true_eq, Bool.not_eq_true'] at h
      obtain ⟨⟨⟨⟨⟨h1, h2⟩, h3⟩, h4⟩, h5⟩, h6⟩ := h
      subst h1 h2
      exact s_chainT g.hK g.hu o1 o2 (okE a g hs h3) (okE b g hs h4) (okE d g hs h5) h6
    · cases h
  | .and2 a b, e, W, X, sc, g, hs, h => by
    unfold ckT at h
    split at h
    · rw [Bool.and_eq_true] at h
      exact (s_andT (okT a g hs h.1) (pw_and1 (okT b g hs h.2))).pt
    · rw [Bool.and_eq_true] at h
      exact (s_andT (okT a g hs h.1) (okTl b .And _ g hs h.2)).pt
    · cases h
  | .or2 a b, e, W, X, sc, g, hs, h => by
    unfold ckT at h
    split at h
    · rw [Bool.and_eq_true] at h
      exact (s_orT (okT a g hs h.1) (pw_or1 (okT b g hs h.2))).pt
    · rw [Bool.and_eq_true] at h
      exact (s_orT (okT a g hs h.1) (okTl b .Or _ g hs h.2)).pt
    · cases h
  | .not1 a, e, W, X, sc, g, hs, h => by
    unfold ckT at h
    split at h
    · exact s_notT (okT a g hs h)
    · cases h
  | .var i, e, W, X, sc, g, hs, h => by
    unfold ckT at h
    have h' := h
    unfold ckVar at h'
    split at h'
    · exact s_truth g.hK (k_var g hs h) fun _ => rfl
    · cases h'
  | .idx a b, e, W, X, sc, g, hs, h => by
    unfold ckT at h
    split at h
    · simp only [Bool.and_eq_true, Bool.not_eq_true'] at h
      exact s_truth g.hK (s_idx g.hK g.hu (okE a g hs h.1.1) (okE b g hs h.1.2) (isIx_of h.2)) fun _ => rfl
    · cases h
  | .call k l, e, W, X, sc, g, hs, h => by
    unfold ckT at h
    split at h
    · simp only [Bool.and_eq_true, decide_eq_true_eq] at h
      obtain ⟨⟨⟨⟨h1, h0⟩, h2⟩, h3⟩, h4⟩ := h
      obtain ⟨f, fd, ps, q1, q2, q3, q4, _⟩ := g.fns _ _ _ h0 h1
      cases nil_of h4
      exact s_truth g.hK (s_call0 g.hK q4 g.rm (gl_of hs h2) q1 q2 q3 g.pa (pl_of h3).1) fun _ => rfl
    · simp only [Bool.and_eq_true, decide_eq_true_eq] at h
      obtain ⟨⟨⟨⟨h1, h0⟩, h2⟩, h3⟩, h4⟩ := h
      obtain ⟨f, fd, ps, q1, q2, q3, q4, _⟩ := g.fns _ _ _ h0 h1
      exact s_truth g.hK (s_call g.hK q4 g.rm (gl_of hs h2) q1 q2 q3 g.pa (okEs l g hs h4) rfl (pl_of h3).1 (stars_of h4)) fun _ => rfl
    · cases h
  | .bi b l, e, W, X, sc, g, hs, h => by
    unfold ckT at h
    split at h
    · simp only [Bool.and_eq_true, decide_eq_true_eq] at h
      obtain ⟨⟨h1, h2⟩, h3⟩ := h
      subst h1
      exact s_truth g.hK (s_bi g.hK g.calm g.hu b (gl_of hs h2) (g.bi b) (okEs l g hs h3) (stars_of h3)) fun _ => rfl
    · cases h
  | .isi ts a, e, W, X, sc, g, hs, h => by
    unfold ckT at h
    split at h
    · simp only [Bool.and_eq_true, decide_eq_true_eq] at h
      obtain ⟨⟨⟨⟨h1, h2⟩, h3⟩, h4⟩, h5⟩ := h
      subst h1
      unfold ckTys at h3
      split at h3
      · simp only [Bool.and_eq_true, decide_eq_true_eq] at h3
        obtain ⟨h6, h7⟩ := h3
        subst h6
        exact s_truth g.hK (s_isi1 (k := 0) _ g.hK (gl_of hs h2) g.isi (gl_of hs h7) (g.ty _) (okE a g hs h4) h5) fun _ => rfl
      · simp only [Bool.and_eq_true, decide_eq_true_eq] at h3
        obtain ⟨⟨⟨h6, h7⟩, h8⟩, h9⟩ := h3
        subst h6 h8
        exact s_truth g.hK (s_isi2 _ _ g.hK (gl_of hs h2) g.isi (gl_of hs h7) (g.ty _) (gl_of hs h9) (g.ty _) (okE a g hs h4) h5) fun _ => rfl
      · cases h3
    · cases h
  | .isx k a, e, W, X, sc, g, hs, h => by
    unfold ckT at h
    split at h
    · simp only [Bool.and_eq_true, decide_eq_true_eq, List.contains_iff_mem] at h
      obtain ⟨⟨⟨⟨⟨⟨⟨h1, h2⟩, h3⟩, h4⟩, h5⟩, h6⟩, h7⟩, h8⟩ := h
      subst h1 h3
      exact s_truth g.hK (s_isx g.exf h6 g.hK (gl_of hs h2) g.isi (gl_of hs h4) (pl_of h5).1 (okE a g hs h7) h8) fun _ => rfl
    · cases h
  | .lit _, _, _, _, _, _, _, h => by simp [ckT] at h
  | .glob _ _, _, _, _, _, _, _, h => by simp [ckT] at h
  | .bin _ _ _, _, _, _, _, _, _, h => by simp [ckT] at h
  | .ifx _ _ _, _, _, _, _, _, _, h => by simp [ckT] at h
  | .sl _ _ _, _, _, _, _, _, _, h => by simp [ckT] at h
  | .slS _ _ _, _, _, _, _, _, _, h => by simp [ckT] at h
  | .tup _, _, _, _, _, _, _, h => by simp [ckT] at h
  | .lst _, _, _, _, _, _, _, h => by simp [ckT] at h
  | .dic0, _, _, _, _, _, _, h => by simp [ckT] at h
  | .comp _ _ _ _, _, _, _, _, _, _, h => by simp [ckT] at h
  | .mth o r l, e, W, X, sc, g, hs, h => by
    unfold ckT at h
    split at h
    · simp only [Bool.and_eq_true, decide_eq_true_eq] at h
      obtain ⟨⟨⟨⟨⟨⟨h1, h2⟩, h3⟩, h4⟩, h5⟩, h6⟩, h7⟩ := h
      subst h1
      exact s_truth g.hK (s_mth h2 g.hK (okE r g hs h3) (okEs l g hs h4) (stars_of h4) h5 h6 h7) fun _ => rfl
    · simp only [Bool.and_eq_true, decide_eq_true_eq] at h
      obtain ⟨⟨⟨⟨⟨h1, h2⟩, h3⟩, h4⟩, h5⟩, h6⟩ := h
      subst h1
      cases nil_of h6
      exact s_truth g.hK (s_mth0 h2 g.hK (okE r g hs h3) h4 h5) fun _ => rfl
    · cases h
  | .rep _ _ _, _, _, _, _, _, _, h => by simp [ckT] at h
  | .meth k nm r l dv, e, W, X, sc, g, hs, h => by
    unfold ckT at h
    split at h
    · simp only [Bool.and_eq_true, decide_eq_true_eq] at h
      obtain ⟨⟨⟨⟨⟨⟨⟨⟨h1, h2⟩, h3⟩, h4⟩, h5⟩, h6⟩, h7⟩, h8⟩, h9⟩ := h
      subst h1
      exact s_truth g.hK (s_meth g.hK (g.mth h2 h3 h4) g.rm g.pa (okE r g hs h5) (okEs l g hs h6) rfl (stars_of h6) (ht_of h8 (stars_of h6) (by rw [List.length_cons]; omega) h9)) fun _ => rfl
    · simp only [Bool.and_eq_true, decide_eq_true_eq] at h
      obtain ⟨⟨⟨⟨⟨⟨⟨h1, h2⟩, h3⟩, h4⟩, h5⟩, h6⟩, h7⟩, h8⟩ := h
      subst h1
      cases nil_of h8
      exact s_truth g.hK (s_meth0 g.hK (g.mth h2 h3 h4) g.rm g.pa (okE r g hs h5) rfl (ht_of h6 rfl (by decide) h7)) fun _ => rfl
    · cases h
  | .mop o r l, e, W, X, sc, g, hs, h => by
    unfold ckT at h
    split at h
    · simp only [Bool.and_eq_true, decide_eq_true_eq] at h
      obtain ⟨⟨h1, h2⟩, h3⟩ := h
      obtain ⟨f, rfl, rfl, rfl⟩ := fld_of h1
      exact s_truth g.hK (s_fld g.obs g.hK (okE r g hs h2) (base_of h3)) fun _ => rfl
    · cases h
  | .ext _ _, _, _, _, _, _, _, h => by simp [ckT] at h
  | .new _ _, _, _, _, _, _, _, h => by simp [ckT] at h
  | .make _ _ _, _, _, _, _, _, _, h => by simp [ckT] at h
  | .callD _ _ _, _, _, _, _, _, _, h => by simp [ckT] at h
  | .lrep _ _, _, _, _, _, _, _, h => by simp [ckT] at h
  | .sortK _, _, _, _, _, _, _, h => by simp [ckT] at h
  | .sortI _, _, _, _, _, _, _, h => by simp [ckT] at h
  | .isxT _ _, _, _, _, _, _, _, h => by simp [ckT] at h
  | .cat _ _, _, _, _, _, _, _, h => by simp [ckT] at h
  | .compL _ _ _ _ _, _, _, _, _, _, _, h => by simp [ckT] at h
  | .tzip a b, e, W, X, sc, g, hs, h => by
    unfold ckT at h
    split at h
    · simp only [Bool.and_eq_true, decide_eq_true_eq, Bool.not_eq_true'] at h
      obtain ⟨⟨⟨⟨⟨⟨⟨⟨⟨h1, h2⟩, h3⟩, h4⟩, h5⟩, h6⟩, h7⟩, h8⟩, h9⟩, h10⟩ := h
      subst h1 h3
      exact s_truth g.hK (s_tzip g.hK g.calm (gl_of hs h2) (g.bi .tuple) (gl_of hs h4) g.zp (nb_of (okE a g hs h5) h9) (nb_of (okE b g hs h7) h10) h6 h8) fun _ => rfl
    · cases h
theorem okTl {se : Se} {c : Cn} {n : Nat} : ∀ (ir : E) (o : BoolOp) (es : List Expr) {W : WX} {X : Cx} {sc : Scope} {pos : Pos}, Good se c n W X → X.env.scope = sc → ckTl se sc o ir es = true → PW X (.BoolOp o es pos) (TTr c W ir)
  | .and2 a b, o, es, W, X, sc, pos, g, hs, h => by
    unfold ckTl at h
    split at h
    · simp only [Bool.and_eq_true, decide_eq_true_eq] at h
      obtain ⟨⟨h0, h1⟩, h2⟩ := h
      subst h0
      exact s_andT (okT a g hs h1) (pw_and1 (okT b g hs h2))
    · simp only [Bool.and_eq_true, decide_eq_true_eq] at h
      obtain ⟨⟨h0, h1⟩, h2⟩ := h
      subst h0
      exact s_andT (okT a g hs h1) (okTl b .And _ g hs h2)
    · cases h
  | .or2 a b, o, es, W, X, sc, pos, g, hs, h => by
    unfold ckTl at h
    split at h
    · simp only [Bool.and_eq_true, decide_eq_true_eq] at h
      obtain ⟨⟨h0, h1⟩, h2⟩ := h
      subst h0
      exact s_orT (okT a g hs h1) (pw_or1 (okT b g hs h2))
    · simp only [Bool.and_eq_true, decide_eq_true_eq] at h
      obtain ⟨⟨h0, h1⟩, h2⟩ := h
      subst h0
      exact s_orT (okT a g hs h1) (okTl b .Or _ g hs h2)
    · cases h
  | .var _, _, _, _, _, _, _, _, _, h => by simp [ckTl] at h
  | .lit _, _, _, _, _, _, _, _, _, h => by simp [ckTl] at h
  | .glob _ _, _, _, _, _, _, _, _, _, h => by simp [ckTl] at h
  | .bin _ _ _, _, _, _, _, _, _, _, _, h => by simp [ckTl] at h
  | .cmp _ _ _, _, _, _, _, _, _, _, _, h => by simp [ckTl] at h
  | .isN _ _, _, _, _, _, _, _, _, _, h => by simp [ckTl] at h
  | .chain _ _ _ _ _, _, _, _, _, _, _, _, _, h => by simp [ckTl] at h
  | .not1 _, _, _, _, _, _, _, _, _, h => by simp [ckTl] at h
  | .ifx _ _ _, _, _, _, _, _, _, _, _, h => by simp [ckTl] at h
  | .idx _ _, _, _, _, _, _, _, _, _, h => by simp [ckTl] at h
  | .sl _ _ _, _, _, _, _, _, _, _, _, h => by simp [ckTl] at h
  | .slS _ _ _, _, _, _, _, _, _, _, _, h => by simp [ckTl] at h
  | .tup _, _, _, _, _, _, _, _, _, h => by simp [ckTl] at h
  | .lst _, _, _, _, _, _, _, _, _, h => by simp [ckTl] at h
  | .dic0, _, _, _, _, _, _, _, _, h => by simp [ckTl] at h
  | .comp _ _ _ _, _, _, _, _, _, _, _, _, h => by simp [ckTl] at h
  | .call _ _, _, _, _, _, _, _, _, _, h => by simp [ckTl] at h
  | .bi _ _, _, _, _, _, _, _, _, _, h => by simp [ckTl] at h
  | .mth _ _ _, _, _, _, _, _, _, _, _, h => by simp [ckTl] at h
  | .isi _ _, _, _, _, _, _, _, _, _, h => by simp [ckTl] at h
  | .isx _ _, _, _, _, _, _, _, _, _, h => by simp [ckTl] at h
  | .tzip _ _, _, _, _, _, _, _, _, _, h => by simp [ckTl] at h
  | .rep _ _ _, _, _, _, _, _, _, _, _, h => by simp [ckTl] at h
  | .mop _ _ _, _, _, _, _, _, _, _, _, h => by simp [ckTl] at h
  | .ext _ _, _, _, _, _, _, _, _, _, h => by simp [ckTl] at h
  | .new _ _, _, _, _, _, _, _, _, _, h => by simp [ckTl] at h
  | .meth _ _ _ _ _, _, _, _, _, _, _, _, _, h => by simp [ckTl] at h
  | .make _ _ _, _, _, _, _, _, _, _, _, h => by simp [ckTl] at h
  | .callD _ _ _, _, _, _, _, _, _, _, _, h => by simp [ckTl] at h
  | .lrep _ _, _, _, _, _, _, _, _, _, h => by simp [ckTl] at h
  | .sortK _, _, _, _, _, _, _, _, _, h => by simp [ckTl] at h
  | .sortI _, _, _, _, _, _, _, _, _, h => by simp [ckTl] at h
  | .isxT _ _, _, _, _, _, _, _, _, _, h => by simp [ckTl] at h
  | .cat _ _, _, _, _, _, _, _, _, _, h => by simp [ckTl] at h
  | .compL _ _ _ _ _, _, _, _, _, _, _, _, _, h => by simp [ckTl] at h
theorem okF {se : Se} {c : Cn} {n : Nat} : ∀ (ir : E) {e : Expr} {W : WX} {X : Cx} {sc : Scope}, Good se c n W X → X.env.scope = sc → ckF se sc ir e = true → PE X e (TEo c W ir)
  | .lst l, e, W, X, sc, g, hs, h => by
    unfold ckF at h
    split at h
    · rw [Bool.and_eq_true, decide_eq_true_eq] at h
      exact o_lst (okEs l g hs h.1) h.2
    · cases h
  | .lrep l b, e, W, X, sc, g, hs, h => by
    unfold ckF at h
    split at h
    · simp only [Bool.and_eq_true, decide_eq_true_eq] at h
      exact o_lrep (okEs l g hs h.1.1) h.1.2 (okE b g hs h.2)
    · cases h
  | .cat a b, e, W, X, sc, g, hs, h => by
    unfold ckF at h
    split at h
    · simp only [Bool.and_eq_true] at h
      exact o_cat g.hK (okE a g hs h.1) (okE b g hs h.2)
    · cases h
  | .comp tg it cn b, e, W, X, sc, g, hs, h => by
    unfold ckF at h
    split at h
    · simp only [Bool.and_eq_true, Bool.not_eq_true', decide_eq_true_eq] at h
      obtain ⟨⟨⟨⟨⟨⟨⟨⟨h0, h1⟩, h2⟩, h2t⟩, h3⟩, h4⟩, h5⟩, h6⟩, h7⟩ := h
      subst h0
      rename_i scope pos
      have blk := fun (s : Shared) (H : Hp) (C : Addr) (cl : List (Str × Addr)) (fp : List Addr) => (g.blk s H scope (compEnvC scope cl C X.env) fp)
      refine o_comp (bc := borI se it) g.hK g.calm (by rw [g.hN]; exact g.nd) (okI it g hs h2 h2t) (by rw [g.hN, hs]; exact blkOk_by h7) (ownOf_snd tg) (fun i hi => ?_) (fun s H C cl fp => ?_) (fun s H C cl fp => ?_) (fun s H C cl fp => ?_) (fold_of h3)
      · rw [g.own]
        exact tg_own h1 i hi
      · exact (tg_of (blk s H C cl fp) (by rw [← hs]; rfl) (fun q => by cases q) h1).1
      · exact okC cn (blk s H C cl fp) (by rw [← hs]; rfl) h4
      · exact nb_of (okE b (blk s H C cl fp) (by rw [← hs]; rfl) h5) h6
    · cases h
  | .call k l, e, W, X, sc, g, hs, h => by
    unfold ckF at h
    split at h
    · simp only [Bool.and_eq_true, decide_eq_true_eq] at h
      obtain ⟨⟨⟨⟨⟨h1, h0⟩, hf⟩, h2⟩, h3⟩, h4⟩ := h
      obtain ⟨f, fd, ps, q1, q2, q3, q4, _⟩ := g.fns _ _ _ h0 h1
      rw [hf] at q4
      exact o_call g.hK q4 g.rm (gl_of hs h2) q1 q2 q3 g.pa (okEs l g hs h4) rfl (pl_of h3).1 (stars_of h4)
    · cases h
  | .meth k nm r l dv, e, W, X, sc, g, hs, h => by
    unfold ckF at h
    split at h
    · simp only [Bool.and_eq_true, decide_eq_true_eq] at h
      obtain ⟨⟨⟨⟨⟨⟨⟨⟨h1, h2⟩, h3⟩, hf⟩, h5⟩, h6⟩, h7⟩, h8⟩, h9⟩ := h
      subst h1
      cases nil_of h8
      cases dv with
      | cons _ _ => cases h9
      | nil =>
        obtain ⟨C, f, fd, ps, q1, q2, q3, q4, q5, q6, q7, q8⟩ := g.mts _ _ _ h2 h3
        rw [hf] at q6
        exact o_meth0 g.hK q1 q3 q4 q6 q7 g.rm g.pa (okE r g hs h5) rfl (ht_of h6 rfl (by decide) h7)
    · cases h
  | .var _, e, W, X, sc, g, hs, h => by simp [ckF] at h
  | .lit _, e, W, X, sc, g, hs, h => by simp [ckF] at h
  | .glob _ _, e, W, X, sc, g, hs, h => by simp [ckF] at h
  | .bin _ _ _, e, W, X, sc, g, hs, h => by simp [ckF] at h
  | .cmp _ _ _, e, W, X, sc, g, hs, h => by simp [ckF] at h
  | .isN _ _, e, W, X, sc, g, hs, h => by simp [ckF] at h
  | .chain _ _ _ _ _, e, W, X, sc, g, hs, h => by simp [ckF] at h
  | .and2 _ _, e, W, X, sc, g, hs, h => by simp [ckF] at h
  | .or2 _ _, e, W, X, sc, g, hs, h => by simp [ckF] at h
  | .not1 _, e, W, X, sc, g, hs, h => by simp [ckF] at h
  | .ifx _ _ _, e, W, X, sc, g, hs, h => by simp [ckF] at h
  | .idx _ _, e, W, X, sc, g, hs, h => by simp [ckF] at h
  | .sl _ _ _, e, W, X, sc, g, hs, h => by simp [ckF] at h
  | .slS _ _ _, e, W, X, sc, g, hs, h => by simp [ckF] at h
  | .tup _, e, W, X, sc, g, hs, h => by simp [ckF] at h
  | .dic0, e, W, X, sc, g, hs, h => by simp [ckF] at h
  | .bi _ _, e, W, X, sc, g, hs, h => by simp [ckF] at h
  | .mth _ _ _, e, W, X, sc, g, hs, h => by simp [ckF] at h
  | .isi _ _, e, W, X, sc, g, hs, h => by simp [ckF] at h
  | .isx _ _, e, W, X, sc, g, hs, h => by simp [ckF] at h
  | .tzip _ _, e, W, X, sc, g, hs, h => by simp [ckF] at h
  | .sortK _, e, W, X, sc, g, hs, h => by simp [ckF] at h
  | .sortI _, e, W, X, sc, g, hs, h => by simp [ckF] at h
  | .isxT _ _, e, W, X, sc, g, hs, h => by simp [ckF] at h
  | .rep _ _ _, e, W, X, sc, g, hs, h => by simp [ckF] at h
  | .mop _ _ _, e, W, X, sc, g, hs, h => by simp [ckF] at h
  | .ext _ _, e, W, X, sc, g, hs, h => by simp [ckF] at h
  | .new _ _, e, W, X, sc, g, hs, h => by simp [ckF] at h
  | .make _ _ _, e, W, X, sc, g, hs, h => by simp [ckF] at h
  | .callD _ _ _, e, W, X, sc, g, hs, h => by simp [ckF] at h
  | .compL _ _ _ _ _, e, W, X, sc, g, hs, h => by simp [ckF] at h
theorem okEs {se : Se} {c : Cn} {n : Nat} : ∀ (l : Es) {es : List Expr} {b : Bool} {W : WX} {X : Cx} {sc : Scope}, Good se c n W X → X.env.scope = sc → ckEs se sc b l es = true → PA X es (TAr c W b l)
  | .nil, es, b, W, X, sc, g, hs, h => by
    unfold ckEs at h
    split at h
    · exact s_nil
    · cases h
  | .cons a l, es, b, W, X, sc, g, hs, h => by
    unfold ckEs at h
    split at h
    · simp only [Bool.and_eq_true, Bool.or_eq_true, Bool.not_eq_true'] at h
      obtain ⟨⟨⟨h1, h2⟩, h3⟩, h4⟩ := h
      refine s_cons ?_ (okEs l g hs h4) h2
      cases b with
      | true => exact TEr.up (okE a g hs h1)
      | false => exact nb_of (okE a g hs h1) (h3.elim (fun q => by cases q) id)
    · cases h
theorem okO {se : Se} {c : Cn} {n : Nat} : ∀ (o : OE) {e : Option Expr} {W : WX} {X : Cx} {sc : Scope}, Good se c n W X → X.env.scope = sc → ckO se sc o e = true → PO X e (TOr c W o)
  | .no, e, W, X, sc, g, hs, h => by
    unfold ckO at h
    split at h
    · exact s_no
    · cases h
  | .yes a, e, W, X, sc, g, hs, h => by
    unfold ckO at h
    split at h
    · exact s_yes (okE a g hs h)
    · cases h
theorem okC {se : Se} {c : Cn} {n : Nat} : ∀ (o : OE) {es : List Expr} {W : WX} {X : Cx} {sc : Scope}, Good se c n W X → X.env.scope = sc → ckC se sc o es = true → PTs X es (TKr c W o)
  | .no, es, W, X, sc, g, hs, h => by
    unfold ckC at h
    split at h
    · exact s_kno
    · cases h
  | .yes a, es, W, X, sc, g, hs, h => by
    unfold ckC at h
    split at h
    · exact s_kyes (okT a g hs h)
    · cases h
theorem okI {se : Se} {c : Cn} {n : Nat} : ∀ (it : I) {e tg : Expr} {W : WX} {X : Cx} {sc : Scope}, Good se c n W X → X.env.scope = sc → ckI se sc it e = true → ckIt it tg = true → PI X tg e (TIr c W (borI se it) it)
  | .e a, e, tg, W, X, sc, g, hs, h, ht => by
    unfold ckI at h
    exact s_Ie g.hK (okE a g hs h)
  | .rng1 a, e, tg, W, X, sc, g, hs, h, ht => by
    unfold ckI at h
    split at h
    · simp only [Bool.and_eq_true, decide_eq_true_eq, Bool.not_eq_true'] at h
      obtain ⟨⟨⟨⟨h1, h2⟩, h3⟩, h4⟩, h5⟩ := h
      subst h1
      exact s_I1 (gl_of hs h2) g.rng (nb_of (okE a g hs h3) h5) h4
    · cases h
  | .rng2 a b, e, tg, W, X, sc, g, hs, h, ht => by
    unfold ckI at h
    split at h
    · simp only [Bool.and_eq_true, decide_eq_true_eq, Bool.not_eq_true'] at h
      obtain ⟨⟨⟨⟨⟨⟨⟨h1, h2⟩, h3⟩, h4⟩, h5⟩, h6⟩, h7⟩, h8⟩ := h
      subst h1
      exact s_I2 (gl_of hs h2) g.rng (nb_of (okE a g hs h3) h7) (nb_of (okE b g hs h5) h8) h4 h6
    · cases h
  | .rev a, e, tg, W, X, sc, g, hs, h, ht => by
    unfold ckI at h
    split at h
    · simp only [Bool.and_eq_true, decide_eq_true_eq, Bool.not_eq_true'] at h
      obtain ⟨⟨⟨⟨h1, h2⟩, h3⟩, h4⟩, h5⟩ := h
      subst h1
      exact s_Irev g.hK (gl_of hs h2) g.rv (nb_of (okE a g hs h3) h5) h4
    · cases h
  | .enum a, e, tg, W, X, sc, g, hs, h, ht => by
    unfold ckI at h
    split at h
    · simp only [Bool.and_eq_true, decide_eq_true_eq, Bool.not_eq_true'] at h
      obtain ⟨⟨⟨⟨h1, h2⟩, h3⟩, h4⟩, h5⟩ := h
      subst h1
      cases tg with
      | Tuple es k p => exact s_Ienum g.hK (gl_of hs h2) g.en (nb_of (okE a g hs h3) h5) h4
      | _ => cases ht
    · cases h
  | .zip a b, e, tg, W, X, sc, g, hs, h, ht => by
    unfold ckI at h
    split at h
    · simp only [Bool.and_eq_true, decide_eq_true_eq, Bool.not_eq_true'] at h
      obtain ⟨⟨⟨⟨⟨⟨⟨h1, h2⟩, h3⟩, h4⟩, h5⟩, h6⟩, h7⟩, h8⟩ := h
      subst h1
      cases tg with
      | Tuple es k p => exact s_Izip g.hK (gl_of hs h2) g.zp (nb_of (okE a g hs h3) h7) (nb_of (okE b g hs h5) h8) h4 h6
      | _ => cases ht
    · cases h
  | .rng3 a b w, e, tg, W, X, sc, g, hs, h, ht => by
    unfold ckI at h
    split at h
    · simp only [Bool.and_eq_true, decide_eq_true_eq, Bool.not_eq_true'] at h
      obtain ⟨⟨⟨⟨⟨⟨⟨⟨⟨⟨h1, h2⟩, h3⟩, h4⟩, h5⟩, h6⟩, h7⟩, h8⟩, h9⟩, h10⟩, h11⟩ := h
      subst h1
      exact s_I3 (gl_of hs h2) g.rng (nb_of (okE a g hs h3) h9) (nb_of (okE b g hs h5) h10) (nb_of (okE w g hs h7) h11) h4 h6 h8
    · cases h
  | .keys _, _, _, _, _, _, _, _, h, _ => by simp [ckI] at h
  | .items _, _, _, _, _, _, _, _, h, _ => by simp [ckI] at h
  | .vals _, _, _, _, _, _, _, _, h, _ => by simp [ckI] at h
theorem okH {se : Se} {c : Cn} {n : Nat} : ∀ (ir : E) {e : Expr} {W : WX} {X : Cx} {sc : Scope}, Good se c n W X → X.env.scope = sc → ckH se sc ir e = true → PE1 X e (TEr c W false ir)
  | .bin o a b, e, W, X, sc, g, hs, h => by
    unfold ckH at h
    split at h
    · simp only [Bool.and_eq_true, decide_eq_true_eq, Bool.not_eq_true'] at h
      obtain ⟨⟨h1, h2⟩, h3⟩ := h
      subst h1
      exact pe1_add (nb_of (okE b g hs h2) h3)
    · cases h
  | .var _, _, _, _, _, _, _, h => by simp [ckH] at h
  | .lit _, _, _, _, _, _, _, h => by simp [ckH] at h
  | .glob _ _, _, _, _, _, _, _, h => by simp [ckH] at h
  | .cmp _ _ _, _, _, _, _, _, _, h => by simp [ckH] at h
  | .isN _ _, _, _, _, _, _, _, h => by simp [ckH] at h
  | .chain _ _ _ _ _, _, _, _, _, _, _, h => by simp [ckH] at h
  | .and2 _ _, _, _, _, _, _, _, h => by simp [ckH] at h
  | .or2 _ _, _, _, _, _, _, _, h => by simp [ckH] at h
  | .not1 _, _, _, _, _, _, _, h => by simp [ckH] at h
  | .ifx _ _ _, _, _, _, _, _, _, h => by simp [ckH] at h
  | .idx _ _, _, _, _, _, _, _, h => by simp [ckH] at h
  | .sl _ _ _, _, _, _, _, _, _, h => by simp [ckH] at h
  | .slS _ _ _, _, _, _, _, _, _, h => by simp [ckH] at h
  | .tup _, _, _, _, _, _, _, h => by simp [ckH] at h
  | .lst _, _, _, _, _, _, _, h => by simp [ckH] at h
  | .dic0, _, _, _, _, _, _, h => by simp [ckH] at h
  | .comp _ _ _ _, _, _, _, _, _, _, h => by simp [ckH] at h
  | .call _ _, _, _, _, _, _, _, h => by simp [ckH] at h
  | .bi _ _, _, _, _, _, _, _, h => by simp [ckH] at h
  | .mth _ _ _, _, _, _, _, _, _, h => by simp [ckH] at h
  | .isi _ _, _, _, _, _, _, _, h => by simp [ckH] at h
  | .isx _ _, _, _, _, _, _, _, h => by simp [ckH] at h
  | .tzip _ _, _, _, _, _, _, _, h => by simp [ckH] at h
  | .mop _ _ _, _, _, _, _, _, _, h => by simp [ckH] at h
  | .ext _ _, _, _, _, _, _, _, h => by simp [ckH] at h
  | .new _ _, _, _, _, _, _, _, h => by simp [ckH] at h
  | .meth _ _ _ _ _, _, _, _, _, _, _, h => by simp [ckH] at h
  | .make _ _ _, _, _, _, _, _, _, h => by simp [ckH] at h
  | .callD _ _ _, _, _, _, _, _, _, h => by simp [ckH] at h
  | .lrep _ _, _, _, _, _, _, _, h => by simp [ckH] at h
  | .sortK _, _, _, _, _, _, _, h => by simp [ckH] at h
  | .sortI _, _, _, _, _, _, _, h => by simp [ckH] at h
  | .isxT _ _, _, _, _, _, _, _, h => by simp [ckH] at h
  | .cat _ _, _, _, _, _, _, _, h => by simp [ckH] at h
  | .compL _ _ _ _ _, _, _, _, _, _, _, h => by simp [ckH] at h
  | .rep _ _ _, _, _, _, _, _, _, h => by simp [ckH] at h
theorem okRv {se : Se} {c : Cn} {n : Nat} : ∀ (ir : E) {e : Expr} {W : WX} {X : Cx} {sc : Scope}, Good se c n W X → X.env.scope = sc → ckR se sc ir e = true → PET X e (TEr c W false ir)
  | .rep y z a, e, W, X, sc, g, hs, h => by
    unfold ckR at h
    split at h
    · simp only [Bool.and_eq_true, decide_eq_true_eq, Bool.not_eq_true'] at h
      obtain ⟨⟨⟨⟨⟨⟨⟨h1, h2⟩, h3⟩, h4⟩, h5⟩, h6⟩, h7⟩, h8⟩ := h
      subst h1 h2 h3
      exact s_repT (nb_of (okE a g hs h5) h6) h4 h7 h8
    · cases h
  | .var _, _, _, _, _, _, _, h => by simp [ckR] at h
  | .lit _, _, _, _, _, _, _, h => by simp [ckR] at h
  | .glob _ _, _, _, _, _, _, _, h => by simp [ckR] at h
  | .bin _ _ _, _, _, _, _, _, _, h => by simp [ckR] at h
  | .cmp _ _ _, _, _, _, _, _, _, h => by simp [ckR] at h
  | .isN _ _, _, _, _, _, _, _, h => by simp [ckR] at h
  | .chain _ _ _ _ _, _, _, _, _, _, _, h => by simp [ckR] at h
  | .and2 _ _, _, _, _, _, _, _, h => by simp [ckR] at h
  | .or2 _ _, _, _, _, _, _, _, h => by simp [ckR] at h
  | .not1 _, _, _, _, _, _, _, h => by simp [ckR] at h
  | .ifx _ _ _, _, _, _, _, _, _, h => by simp [ckR] at h
  | .idx _ _, _, _, _, _, _, _, h => by simp [ckR] at h
  | .sl _ _ _, _, _, _, _, _, _, h => by simp [ckR] at h
  | .slS _ _ _, _, _, _, _, _, _, h => by simp [ckR] at h
  | .tup _, _, _, _, _, _, _, h => by simp [ckR] at h
  | .lst _, _, _, _, _, _, _, h => by simp [ckR] at h
  | .dic0, _, _, _, _, _, _, h => by simp [ckR] at h
  | .comp _ _ _ _, _, _, _, _, _, _, h => by simp [ckR] at h
  | .call _ _, _, _, _, _, _, _, h => by simp [ckR] at h
  | .bi _ _, _, _, _, _, _, _, h => by simp [ckR] at h
  | .mth _ _ _, _, _, _, _, _, _, h => by simp [ckR] at h
  | .isi _ _, _, _, _, _, _, _, h => by simp [ckR] at h
  | .isx _ _, _, _, _, _, _, _, h => by simp [ckR] at h
  | .tzip _ _, _, _, _, _, _, _, h => by simp [ckR] at h
  | .mop _ _ _, _, _, _, _, _, _, h => by simp [ckR] at h
  | .ext _ _, _, _, _, _, _, _, h => by simp [ckR] at h
  | .new _ _, _, _, _, _, _, _, h => by simp [ckR] at h
  | .meth _ _ _ _ _, _, _, _, _, _, _, h => by simp [ckR] at h
  | .make _ _ _, _, _, _, _, _, _, h => by simp [ckR] at h
  | .callD _ _ _, _, _, _, _, _, _, h => by simp [ckR] at h
  | .lrep _ _, _, _, _, _, _, _, h => by simp [ckR] at h
  | .sortK _, _, _, _, _, _, _, h => by simp [ckR] at h
  | .sortI _, _, _, _, _, _, _, h => by simp [ckR] at h
  | .isxT _ _, _, _, _, _, _, _, h => by simp [ckR] at h
  | .cat _ _, _, _, _, _, _, _, h => by simp [ckR] at h
  | .compL _ _ _ _ _, _, _, _, _, _, _, h => by simp [ckR] at h
theorem okLT {se : Se} {c : Cn} {n : Nat} : ∀ (l : Es) {es : List Expr} {W : WX} {X : Cx} {sc : Scope}, Good se c n W X → X.env.scope = sc → ckLT se sc l es = true → PA X es (TAr c W false l)
  | .nil, _, _, _, _, _, _, h => by simp [ckLT] at h
  | .cons a l, es, W, X, sc, g, hs, h => by
    unfold ckLT at h
    split at h
    · simp only [Bool.and_eq_true] at h
      obtain ⟨⟨h1, h2⟩, h3⟩ := h
      exact s_cons1 (okH a g hs h1) (okET l g hs h3) h2
    · cases h
theorem okET {se : Se} {c : Cn} {n : Nat} : ∀ (l : Es) {es : List Expr} {W : WX} {X : Cx} {sc : Scope}, Good se c n W X → X.env.scope = sc → ckET se sc l es = true → PAT X es (TAr c W false l)
  | .nil, es, W, X, sc, g, hs, h => by
    unfold ckET at h
    split at h
    · exact s_nilT
    · cases h
  | .cons a l, es, W, X, sc, g, hs, h => by
    unfold ckET at h
    split at h
    · simp only [Bool.and_eq_true, Bool.or_eq_true, Bool.not_eq_true'] at h
      obtain ⟨⟨h1, h2⟩, h3⟩ := h
      rcases h1 with h1 | ⟨h1, h4⟩
      · exact s_consT (okRv a g hs h1) (okET l g hs h3) h2
      · exact s_consT (CwR.PET.of (nb_of (okE a g hs h1) h4)) (okET l g hs h3) h2
    · cases h
end
end MP
set_option maxRecDepth 100000
set_option maxHeartbeats 8000000
set_option autoImplicit false
namespace MP
open PySem L2
def noCompB : Expr → Bool
  | .ListComp _ _ _ _ | .SetComp _ _ _ _ | .DictComp _ _ _ _ _ => false
  | _ => true
def isLC : Expr → Bool
  | .ListComp _ _ _ _ => true
  | _ => false
def isCompL : E → Bool
  | .compL _ _ _ _ _ => true
  | _ => false
def isComp : E → Bool
  | .comp _ _ _ _ => true
  | _ => false
def swB (sc : Scope) (y : Str) (py : Pos) (scope : Scope) (pos : Pos) : Bool := lclB sc y && (py.line == pos.line) && !(scope.names.any fun (n, k) => n == y && (k == .local || k == .cell))
def noTupB : Expr → Bool
  | .Tuple _ _ _ => false
  | _ => true
def foldedB : Expr → Bool
  | .Tuple vs _ _ => vs.all (foldedForSure 8)
  | _ => false
theorem sw_none {v : Expr} {t : Option Expr} {l : Nat} {env : Env} (h : noCompB v = true) : swapsWith v t l env = pure false := by
  cases v <;> first | rfl | (simp [noCompB] at h)
theorem sw_eq {elt : Expr} {gs : List Comprehension} {scope sc : Scope} {pos py : Pos} {y : Str} {l : Nat} {env : Env} (hs : env.scope = sc) (hk : sc.kind = .function) : swapsWith (.ListComp elt gs scope pos) (some (.Name y py)) l env = pure (swB sc y py scope pos) := by
  have hb : env.blockKind = .function := by unfold Env.blockKind; rw [hs, hk]; rfl
  have e1 : (env.blockKind == .function) = true := by rw [hb]; rfl
  have e2 : (env.kindOf y == some .local) = lclB sc y := by
    show (env.scope.names.lookup y == some .local) = _
    rw [hs]
    unfold lclB
    cases sc.names.lookup y with
    | none => rfl
    | some k => cases k <;> rfl
  show (pure (env.blockKind == .function && env.kindOf y == some .local && py.line == pos.line && !(scope.names.any fun (n, k) => n == y && (k == .local || k == .cell))) : Sem Bool) = _
  rw [e1, e2, Bool.true_and]
  rfl
theorem sst_none {es : List Expr} {k : Nat} {p : Pos} {v : Expr} {env : Env} (h : noTupB v = true) : swappedStores [.Tuple es k p] v env = pure none := by
  cases v <;> first | rfl | (simp [noTupB] at h)
theorem sst_fold {es : List Expr} {k : Nat} {p : Pos} {v : Expr} {env : Env} (h : foldedB v = true) : swappedStores [.Tuple es k p] v env = pure none := by
  cases v with
  | Tuple vs k2 p2 =>
    have h' : vs.all (foldedForSure 8) = true := h
    unfold swappedStores
    simp only [h', if_true]
    repeat' split
    all_goals rfl
  | _ => simp [foldedB] at h
def starB : Expr → Bool
  | .Starred _ _ => true
  | _ => false
def par2B (sc : Scope) (x y : Str) (px py : Pos) (vs : List Expr) : Bool := lclB sc x && lclB sc y && (px.line == px.line) && (py.line == px.line) && !(x == y) && !(vs.any starB) && !(vs.all (foldedForSure 8)) && !(vs.all (constantsAlone 8)) && (vs.length == 2)
def par3B (sc : Scope) (x y z : Str) (px py pz : Pos) (vs : List Expr) : Bool := lclB sc x && lclB sc y && lclB sc z && (py.line == px.line) && (pz.line == px.line) && !(x == y) && !(x == z) && !(y == z) && !(vs.any starB) && !(vs.all (foldedForSure 8)) && !(vs.all (constantsAlone 8)) && (vs.length == 3)
theorem lcl_kind {sc : Scope} {x : Str} {env : Env} (hs : env.scope = sc) (h : lclB sc x = true) : (env.kindOf x == some .local) = true := by
  show (env.scope.names.lookup x == some .local) = true
  rw [hs]
  unfold lclB at h
  split at h
  · rename_i e
    rw [e]
    rfl
  · cases h
theorem fn_block {env : Env} {sc : Scope} (hs : env.scope = sc) (hk : sc.kind = .function) : (env.blockKind != .function) = false := by
  have hb : env.blockKind = .function := by unfold Env.blockKind; rw [hs, hk]; rfl
  rw [hb]
  rfl
theorem nostar {e : Expr} (h : starB e = false) : ¬ ((match (generalizing := false) e with | .Starred .. => true | _ => false) = true) := by
  intro q
  cases e <;> first | (cases q; done) | (cases h; done)
theorem sst2 {sc : Scope} {x y : Str} {px py pt pt2 : Pos} {kt k2 : Nat} {a b : Expr} {env : Env} (hs : env.scope = sc) (hk : sc.kind = .function) (h : par2B sc x y px py [a, b] = true) :
    swappedStores [.Tuple [.Name x px, .Name y py] kt pt] (.Tuple [a, b] k2 pt2) env = pure (some [x, y]) := by
  unfold par2B at h
  simp only [Bool.and_eq_true, Bool.not_eq_true'] at h
  obtain ⟨⟨⟨⟨⟨⟨⟨⟨h1, h2⟩, _⟩, h3⟩, h4⟩, h5⟩, h6⟩, h7⟩, _⟩ := h
  have e1 := lcl_kind hs h1
  have e2 := lcl_kind hs h2
  have e3 := fn_block hs hk
  have s1 : starB a = false := by simp at h5; exact h5.1
  have s2 : starB b = false := by simp at h5; exact h5.2
  have en : (y == x) = false := by rw [Bool.eq_false_iff] at h4 ⊢; exact fun q => h4 (by rw [eq_of_beq q]; exact beq_self_eq_true x)
  have e1 := eq_of_beq e1
  have e2 := eq_of_beq e2
  have h3 := eq_of_beq h3
  unfold swappedStores
  simp only [e3, h6, h7]
  simp [Expr.pos]
  rw [if_neg (by
    rintro (q | q)
    · exact nostar s1 q
    · exact nostar s2 q)]
  simp [List.filterMap, e1, e2, h3, List.eraseDups_cons, en]
theorem sst3 {sc : Scope} {x y z : Str} {px py pz pt pt2 : Pos} {kt k2 : Nat} {a b d : Expr} {env : Env} (hs : env.scope = sc) (hk : sc.kind = .function) (h : par3B sc x y z px py pz [a, b, d] = true) :
    swappedStores [.Tuple [.Name x px, .Name y py, .Name z pz] kt pt] (.Tuple [a, b, d] k2 pt2) env = pure (some [x, y, z]) := by
  unfold par3B at h
  simp only [Bool.and_eq_true, Bool.not_eq_true'] at h
  obtain ⟨⟨⟨⟨⟨⟨⟨⟨⟨⟨⟨h1, h2⟩, h21⟩, h3⟩, h31⟩, h4⟩, h41⟩, h42⟩, h5⟩, h6⟩, h7⟩, _⟩ := h
  have e1 := lcl_kind hs h1
  have e2 := lcl_kind hs h2
  have e21 := lcl_kind hs h21
  have e3 := fn_block hs hk
  have s1 : starB a = false := by simp at h5; exact h5.1
  have s2 : starB b = false := by simp at h5; exact h5.2.1
  have s3 : starB d = false := by simp at h5; exact h5.2.2
  have fl : ∀ {x y : Str}, (x == y) = false → (y == x) = false := fun {x y} h => by rw [Bool.eq_false_iff] at h ⊢; exact fun q => h (by rw [eq_of_beq q]; exact beq_self_eq_true _)
  have e1 := eq_of_beq e1
  have e2 := eq_of_beq e2
  have e21 := eq_of_beq e21
  have h3 := eq_of_beq h3
  have h31 := eq_of_beq h31
  unfold swappedStores
  simp only [e3, h6, h7]
  simp [Expr.pos]
  rw [if_neg (by
    rintro (q | q | q)
    · exact nostar s1 q
    · exact nostar s2 q
    · exact nostar s3 q)]
  simp [List.filterMap, e1, e2, e21, h3, h31, List.eraseDups_cons, fl h4, fl h41, fl h42]
def celB (sc : Scope) (ts : List Expr) : Bool := ts.any fun t => match t with
  | .Name x _ => !lclB sc x
  | _ => true
theorem fm_lt {α β : Type} {f : α → Option β} : ∀ {l : List α}, (∃ x ∈ l, f x = none) → (l.filterMap f).length < l.length
  | [], h => by obtain ⟨x, hx, _⟩ := h; cases hx
  | a :: l, h => by
    have le : (l.filterMap f).length ≤ l.length := List.length_filterMap_le _ _
    cases e : f a with
    | none => rw [List.filterMap_cons_none e, List.length_cons]; omega
    | some b =>
      obtain ⟨x, hx, hn⟩ := h
      rcases List.mem_cons.mp hx with z | z
      · rw [z, e] at hn; cases hn
      · have := fm_lt (l := l) ⟨x, z, hn⟩
        rw [List.filterMap_cons_some e, List.length_cons, List.length_cons]
        omega
theorem sst_cell {sc : Scope} {ts : List Expr} {k : Nat} {p : Pos} {v : Expr} {env : Env} (hs : env.scope = sc) (h : celB sc ts = true) : swappedStores [.Tuple ts k p] v env = pure none := by
  cases v with
  | Tuple vs k2 p2 =>
    obtain ⟨t, ht, hq⟩ := List.any_eq_true.mp h
    unfold swappedStores
    dsimp only
    split
    · rfl
    · split
      · rfl
      · split
        · rfl
        · rename_i hc
          refine absurd ?_ hc
          rw [Bool.or_eq_true]
          refine .inl ?_
          rw [bne_iff_ne]
          refine Nat.ne_of_lt (fm_lt ⟨t, ht, ?_⟩)
          split
          · rename_i x px
            have hx : (!lclB sc x) = true := hq
            rw [if_neg]
            intro z
            rw [Bool.and_eq_true] at z
            have e2 : (env.kindOf x == some .local) = lclB sc x := by
              show (env.scope.names.lookup x == some .local) = _
              rw [hs]
              unfold lclB
              cases sc.names.lookup x with
              | none => rfl
              | some k => cases k <;> rfl
            rw [e2] at z
            rw [z.1] at hx
            cases hx
          · rfl
  | _ => rfl
end MP
set_option maxRecDepth 100000
set_option maxHeartbeats 8000000
set_option autoImplicit false
namespace MP
open PySem L2
section
variable {X : Cx} {c : Cn} {W : WX} {f : Fr} {bb : Bool} {ea eb ec : E} {x y z : Expr} {pos : Pos} {st : Stmt}
theorem FOk.set1 {L : Lay} {m : Mu} {ρ : Env'} {σ : L2.St} {H : Hp} {i : Nat} {d : D} {v : V} (O : FO c f L m ρ σ H) (hi : c.own i = false) (r : Rep c.K (AL L) (hide (Bd (OG f.F c.own ρ σ) L) H) v d) :
    FO c f L m (ρ.set i (some d)) (σ.set i (some v)) H ∧ KG f.F c.own L ρ σ H L (ρ.set i (some d)) (σ.set i (some v)) H := by
  refine O.re (O.est.set hi r) fun j hj => ?_
  have hij : i ≠ j := fun e => by rw [e, hj] at hi; cases hi
  exact ⟨List.getElem?_set_ne hij, List.getElem?_set_ne hij⟩
theorem s_par2 {i j : Nat} {l : Es} (hi : c.own i = false) (hj : c.own j = false) (hz : l.len = 2) (hp : PS X st (tPar i j (TAr c W false l))) : PS X st (TSr c W f (.asg (.many [i, j]) (.tup l))) := ps_imp hp fun Z σ H h => by
  obtain ⟨L, m, ρ, O, h⟩ := h
  rw [evS, evE] at h
  have q := PstG.bind (PstS.ex O h)
  refine ⟨_, L, m, ρ, O.est, q.imp fun ds m1 H1 L1 e s1 ok1 q vs r => ?_⟩
  have hl : ds.length = 2 := by rw [evEs_len e, hz]
  obtain ⟨d1, d2, rfl⟩ : ∃ a b, ds = [a, b] := by
    match ds, hl with
    | [a, b], _ => exact ⟨a, b, rfl⟩
  have q1 : PstS c W f L1 ρ σ H1 Z (.nxt ((ρ.set i (some d1)).set j (some d2)) m1) := q H1 L1 (Stp.refl _ _) ok1
  have rr := r.reps
  cases rr with
  | cons r1 rr =>
    cases rr with
    | cons r2 rr =>
      cases rr
      obtain ⟨O1, k1⟩ := O.step s1 ok1
      obtain ⟨O2, k2⟩ := O1.set1 hi r1
      obtain ⟨O3, k3⟩ := O2.set1 hj (r2.mono k2.sm k2.al)
      exact ⟨_, _, rfl, q1 _ _ L1 O3 (k2.trans k3)⟩
theorem s_par3 {i j k : Nat} {l : Es} (hi : c.own i = false) (hj : c.own j = false) (hk : c.own k = false) (hz : l.len = 3) (hp : PS X st (tPar3 i j k (TAr c W false l))) : PS X st (TSr c W f (.asg (.many [i, j, k]) (.tup l))) := ps_imp hp fun Z σ H h => by
  obtain ⟨L, m, ρ, O, h⟩ := h
  rw [evS, evE] at h
  have q := PstG.bind (PstS.ex O h)
  refine ⟨_, L, m, ρ, O.est, q.imp fun ds m1 H1 L1 e s1 ok1 q vs r => ?_⟩
  have hl : ds.length = 3 := by rw [evEs_len e, hz]
  obtain ⟨d1, d2, d3, rfl⟩ : ∃ a b d, ds = [a, b, d] := by
    match ds, hl with
    | [a, b, d], _ => exact ⟨a, b, d, rfl⟩
  have q1 : PstS c W f L1 ρ σ H1 Z (.nxt (((ρ.set i (some d1)).set j (some d2)).set k (some d3)) m1) := q H1 L1 (Stp.refl _ _) ok1
  have rr := r.reps
  cases rr with
  | cons r1 rr =>
    cases rr with
    | cons r2 rr =>
      cases rr with
      | cons r3 rr =>
        cases rr
        obtain ⟨O1, k1⟩ := O.step s1 ok1
        obtain ⟨O2, k2⟩ := O1.set1 hi r1
        obtain ⟨O3, k3⟩ := O2.set1 hj (r2.mono k2.sm k2.al)
        obtain ⟨O4, k4⟩ := O3.set1 hk ((r3.mono k2.sm k2.al).mono k3.sm k3.al)
        exact ⟨_, _, _, rfl, q1 _ _ L1 O4 ((k2.trans k3).trans k4)⟩
end
def isVar : E → Bool
  | .var _ => true
  | _ => false
def ckSw (se : Se) (sc : Scope) : Tgt → E → Expr → Expr → Bool
  | .one _, e, .Name _ _, v => noCompB v || ((isComp e || isCompL e) && isLC v)
  | .many [i, j], .tup l, .Tuple [.Name x px, .Name y py] _ _, .Tuple vs _ _ => vs.all (foldedForSure 8) || (par2B sc x y px py vs && !(i == j)) || celB sc [.Name x px, .Name y py]
  | .many [i, j, k], .tup l, .Tuple [.Name x px, .Name y py, .Name z pz] _ _, .Tuple vs _ _ => vs.all (foldedForSure 8) || (par3B sc x y z px py pz vs && !(i == j) && !(i == k) && !(j == k)) || celB sc [.Name x px, .Name y py, .Name z pz]
  | .many _, _, .Tuple _ _ _, v => noCompB v && (noTupB v || foldedB v)
  | _, _, _, _ => false
def isFgt : MP.St → Bool
  | .fgt _ => true
  | _ => false
def asB : BOp → Bool
  | .add | .sub => true
  | _ => false
def isIntB (j : Int) : D → Bool
  | .int k => j == k
  | _ => false
def retB (se : Se) (e : E) : Bool := match e with
  | .var i => se.ow i
  | .lit d => !isBoxD d
  | _ => false
def ckKey (se : Se) (sc : Scope) : Tgt → E → Expr → Expr → Bool
  | .one i, .sortK a, .Name x _, v => decide (se.N[i]? = some x) && locB sc x && !se.ow i && ckSK se sc a v
  | _, _, _, _ => false
def ckOs (se : Se) (sc : Scope) : Es → List Expr → Bool
  | .nil, [] => true
  | .cons a l, e :: es => (match a with
    | .var i => if se.ow i = true then ckVar se sc i e else ckE se sc a e
    | a => ckE se sc a e) && notStar e && ckOs se sc l es
  | _, _ => false
def ckRow (se : Se) (sc : Scope) : E → Expr → Bool
  | .tup l, .Tuple es _ _ => ckOs se sc l es && decide (l.len ≤ 1000)
  | .lst l, .List es _ => ckOs se sc l es && decide (l.len ≤ 1000)
  | _, _ => false
def ckSuE : E → Expr → Bool
  | .lit d, x => ckLit d x
  | .lst .nil, .List [] _ => true
  | .lst (.cons (.lit d) .nil), .List [y] _ => ckLit d y && notStar y
  | _, _ => false
def ckSu (se : Se) (sc : Scope) : MP.Sts → List Stmt → Bool
  | .cons (.ret e) .nil, [.Return (some x) _] => !se.fr && ckSuE e x
  | .cons (.asg (.one j) e) .nil, [.Assign [.Name y _] x _] => decide (se.N[j]? = some y) && locB sc y && !se.ow j && ckSuE e x && noCompB x
  | _, _ => false
mutual
def ckS (se : Se) (sc : Scope) : MP.St → Stmt → Bool
  | .asg tg e, st => match st with
    | .Assign [t] v _ => (ckTg se sc true tg t && ckE se sc e v && !bor se e && ckSw se sc tg e t v) || ckKey se sc tg e t v
    | _ => false
  | .own i e, st => match e, st with
    | .lst l, .Assign [.Name x _] (.List es _) _ => decide (se.N[i]? = some x) && locB sc x && se.ow i && ckEs se sc false l es && decide (l.len ≤ 1000)
    | .dic0, .Assign [.Name x _] (.Dict [] [] _) _ => decide (se.N[i]? = some x) && locB sc x && se.ow i
    | .bin .add (.var j) (.lst l), .Assign [.Name x _] (.BinOp y .Add z _) _ => decide (se.N[i]? = some x) && locB sc x && se.ow i && ckE se sc (.var j) y && ckE se sc (.lst l) z
    | _, _ => false
  | .aug i o e, st => match st with
    | .AugAssign (.Name x _) op v _ => decide (op = opOf o) && decide (se.N[i]? = some x) && locB sc x && !se.ow i && ckE se sc e v && !bor se e
    | _ => false
  | .setx i k e, st => match st with
    | .Assign [.Subscript (.Name x _) y _] v _ => decide (se.N[i]? = some x) && visB sc x && plB x && se.ow i && ckE se sc k y && ckE se sc e v && !bor se e && noCompB v
    | _ => false
  | .ssub r k e, st => match st with
    | .Assign [.Subscript x y _] v _ => ckE se sc r x && ckE se sc k y && ckE se sc e v && !bor se e && noCompB v
    | _ => false
  | .sfld f r e, st => match st with
    | .Assign [.Attribute x nm _] v _ => decide (nm = fName f) && decide (f < fNames.length) && ckE se sc r x && ckE se sc e v && !bor se e && noCompB v
    | _ => false
  | .faug f o r d, st => match st with
    | .AugAssign (.Attribute x nm _) op (.Constant (.int j) _ _) _ => decide (op = opOf o) && decide (nm = fName f) && decide (f < fNames.length) && asB o && isIntB j d && ckE se sc r x
    | _ => false
  | .ownB i e, st => match st with
    | .Assign [.Name x _] v _ => decide (se.N[i]? = some x) && locB sc x && se.ow i && ckF se sc e v && noCompB v
    | _ => false
  | .forsL kd a tg b, st => match st with
    | .For t iter x [] _ => match walkX kd t iter with
      | some y => ckTg se sc true tg t && pureA a && ckE se sc a y && foldB iter && ckSs se sc b x
      | none => false
    | _ => false
  | .app i e, st => match st with
    | .Expr (.Call (.Attribute (.Name x p) mn apos) [a] [] cpos) _ => decide (mn = "append") && (apos.endLine == cpos.line) && decide (se.N[i]? = some x) && visB sc x && plB x && se.ow i && ckE se sc e a && !bor se e && notStar a
    | _ => false
  | .drop e, st => match st with
    | .Expr v _ => ckE se sc e v && noCompB v
    | _ => false
  | .ret e, st => match st with
    | .Return (some v) _ => if se.fr = true then (ckF se sc e v || (ckE se sc e v && retB se e)) else (ckE se sc e v && (!bor se e || isVar e)) || ckRow se sc e v
    | _ => false
  | .retN, st => match st with
    | .Return none _ => true
    | _ => false
  | .ifs e a b, st => match st with
    | .If t x y _ => ckT se sc e t && ckSs se sc a x && ckSs se sc b y
    | _ => false
  | .whl e b, st => match st with
    | .While t x [] _ => ckT se sc e t && ckSs se sc b x
    | _ => false
  | .fors tg it b, st => match st with
    | .For t iter x [] _ => ckTg se sc true tg t && ckI se sc it iter && ckIt it t && !borI se it && foldB iter && ckSs se sc b x
    | _ => false
  | .rais k, st => match st with
    | .Raise (some (.Call (.Name x _) [.Constant (.str _) _ _] [] _)) none _ => decide (x = exName k) && glB sc x && plB x && se.EX.contains k && !(k == 11)
    | _ => false
  | .tri b k sl s, st => match sl, s, st with
    | some i, .cons (.asg (.one j) (.var i2)) .nil, .Try body [.ExceptHandler (some (.Name x _)) (some n) [.Assign [.Name y _] (.Name n2 _) _] _] [] [] _ =>
      (i2 == i) && decide (se.N[i]? = some n) && lclB sc n && decide (x = exName k) && glB sc x && plB x && se.EX.contains k && decide (se.N[j]? = some y) && locB sc y && decide (n2 = n) && plB n && !se.ow i && !se.ow j && ckSs se sc b body
    | none, s, .Try body [.ExceptHandler (some (.Name x _)) none suite _] [] [] _ => decide (x = exName k) && glB sc x && plB x && se.EX.contains k && ckSu se sc s suite && ckSs se sc b body
    | _, _, _ => false
  | .asgU l e, st => match st with
    | .Assign [.Tuple es k pt] (.Name y py) _ => ckTg se sc true (.many l) (.Tuple es k pt) && ckE se sc e (.Name y py) && !bor se e
    | _ => false
  | .asgX i tg it b, st => match st with
    | .Assign [.Name y py] (.ListComp elt [⟨t, iter, [], a⟩] scope pos) _ => decide (a = 0) && decide (se.N[i]? = some y) && lclB sc y && !se.ow i && swB sc y py scope pos && ckTg se (relS scope sc) false tg t && ckI se sc it iter && ckIt it t && foldB iter && ckE se (relS scope sc) b elt && !bor se b && blkC se.N sc scope (ownOf se tg)
    | _ => false
  | .pas, st => match st with
    | .Pass _ => true
    | _ => false
  | .fgt _, _ => false
  | .wall, _ => true
def ckSs (se : Se) (sc : Scope) : MP.Sts → List Stmt → Bool
  | .nil, l => match l with
    | [] => true
    | _ => false
  | .cons s r, l => if isFgt s = true then ckSs se sc r l else match l with
    | st :: l => ckS se sc s st && ckSs se sc r l
    | _ => false
end
end MP
set_option maxRecDepth 100000
set_option maxHeartbeats 4000000
set_option autoImplicit false
namespace MP
open PySem L2 PySem.Spec PyProof.Rows
theorem ps_setLcX {X : Cx} {W : WX} {i : Nat} {y : Str} {py : Pos} {elt tg iter : Expr} {ifs : List Expr} {scope : Scope} {own : List (Str × Nat)} {pos spos : Pos} {wi : TI} {g : TG} {tt : TT} {te : L2.St → TE} (hc : X.calm = true) (tk : Takes X W) (hst : X.stack = X.env :: X.outer) (hf : X.env.frame = some X.env.locals) (hN : X.N.Nodup)
    (hy : X.N[i]? = some y) (hyl : X.env.scope.names.lookup y = some .local) (hsw : swapsWith (.ListComp elt [⟨tg, iter, ifs, 0⟩] scope pos) (some (.Name y py)) spos.line X.env = pure true) (hi : PI X tg iter wi) (ok : BlkOk X.N X.env.scope scope own)
    (hg : ∀ (s : Shared) (H : Hp) (C : Addr) (cl : List (Str × Addr)) (fp : List Addr), PG (blkX X s H scope (compEnvC scope cl C X.env) fp) tg g) (ht : ∀ (s : Shared) (H : Hp) (C : Addr) (cl : List (Str × Addr)) (fp : List Addr), PTs (blkX X s H scope (compEnvC scope cl C X.env) fp) ifs tt)
    (he : ∀ (σ : L2.St) (s : Shared) (H : Hp) (C : Addr) (cl : List (Str × Addr)) (fp : List Addr), (∀ σ', PassesAt (L2.CX X.prog X.w) (blkX X s H scope (compEnvC scope cl C X.env) fp) σ' (fun cls d H => W cls d σ H)) → PE (blkX X s H scope (compEnvC scope cl C X.env) fp) elt (te σ)) (hs : ∀ x, foldedSetIterable iter X.env x = pure x) :
    PS X (.Assign [.Name y py] (.ListComp elt [⟨tg, iter, ifs, 0⟩] scope pos) spos) (fun D σ H => tLc wi g tt (te σ) (own.map (·.2)) σ H fun x H1 => gName i x σ H1 D.nx) := by
  refine ⟨fun pins s σ H D I h => ?_⟩
  rw [exec_Assign_Name_used _ _ _ _ hsw]
  refine wpAny_bind (wpAny_standAt (wpAny_bind ?_))
  show wpAny _ X.A (do let _ ← comprehension (.ListComp elt [⟨tg, iter, ifs, 0⟩] scope pos) scope X.env (firstIterPos [⟨tg, iter, ifs, 0⟩] pos) (newList []) false (eval iter X.env) (some (assign (.Name y py) X.env))) _ _ s
  refine wpAny_bind (thn (lc_coreX (Qf := fun _ s' => SP X pins D .next s') hc tk hst hf hN I hi ok hg ht he hs h fun L ce s' m H' I' q hn f => ?_) fun _ s' hq => wpAny_pure (wpAny_pure hq))
  show wpAny _ _ (assign (.Name y py) X.env (.ref L)) _ _ _
  refine wpAny_assign_Name (store_ok2 (v := V.ref L) I' hN hy (.inl hyl) rfl (fun s2 I2 ⟨a, sb, ha⟩ => ?_) (.inr hyl))
  obtain ⟨f0, f1, f2, f3, f4, f5⟩ := f
  have haC : ce.locals ≠ a := by
    rcases ha with z | z
    · rw [z]; exact f1
    · exact fun e => f4 y a z e.symm
  refine ⟨m, hn.sameBut sb haC, fun h3 sb3 => ?_⟩
  exact ⟨_, H', I2.turned (t' := s2.toks) (fun b o hb e => (sb3.2 b hb).trans e) f0 f1 f3 f4 f5, q⟩
section
variable {X : Cx} {c : Cn} {W : WX} {f : Fr} {bc : Bool} {ea : E}
abbrev Wd (W : WX) (σ : L2.St) : WX := fun cls d _ H => W cls d σ H
theorem turnsX_cons {f : D → Mu → Res D} {x : D} {xs : List D} {m : Mu} : turnsX f (x :: xs) m = (f x m).bind fun y m1 => (turnsX f xs m1).bind fun r m2 => .ok (y :: r) m2 := rfl
theorem compX_imp {q0 : List D → Mu → Hp → Lay → Prop} {Q : VK} {tgt : Tgt} {it : I} {own : List (Str × Nat)} (hv : own.map (·.2) = tgt.slots) (ho : ∀ i ∈ tgt.slots, c.own i = false) {G : Addr → Prop} {L : Lay} {m : Mu} {ρ : Env'} (σ : L2.St) (H : Hp) (E : ESt c.K c.own G L m ρ σ H)
    (h : PstG c W G L σ H q0 ((evI c.cfg it ρ m).bind fun xs m1 => turnsX (stepX c.cfg tgt ea ρ) xs m1))
    (hq : ∀ (ys : List D) (m' : Mu) (H' : Hp) (L' : Lay) (v : V), ESt c.K c.own G L' m' ρ σ H' → Stp L L' H H' → q0 ys m' H' L' → Rep c.K (AL L') (hide (Bd G L') H') v (.lst ys) → Q v H') :
    tLc (TIr c W bc it) (TGr c.K tgt) tYes (TEr c (Wd W σ) false ea) (own.map (·.2)) σ H Q := by
  rw [hv]
  refine ⟨G, L, m, ρ, E, (PstG.bind h).imp fun xs m1 H1 L1 e1 s1 ok1 q J src => fun Dl hD => ?_⟩
  have E1 := E.step s1 ok1
  generalize hf : stepX c.cfg tgt ea ρ = f at q
  -- the state that all turns bear
  have Ew : ESt c.K c.own G L1 m1 (wipeE ρ tgt.slots) (L2.wipe σ tgt.slots) H1 := E1.wipe
  have hown : ∀ (i : Nat) (d : D), c.own i = true → (wipeE ρ tgt.slots)[i]? = some (some d) → (L2.wipe σ tgt.slots)[i]? ≠ some (some (.ref Dl)) := fun i d q1 q2 q3 => by
    obtain ⟨v, h1, _, h3⟩ := Ew.slot i d q2
    obtain ⟨a, e, g, _⟩ := h3 q1
    rw [h1, e] at q3
    cases q3
    obtain ⟨⟨o, h⟩, _⟩ := Ew.gok _ g
    rw [hD] at h
    cases h
  refine ⟨fun i n H' => n = xs.length - i ∧ i ≤ xs.length ∧ ∃ (L' : Lay) (m' : Mu) (acc : List D) (vacc : List V), ESt c.K c.own (fun a => G a ∨ a = Dl) L' m' (wipeE ρ tgt.slots) (L2.wipe σ tgt.slots) H' ∧ Stp L1 L' H1 H' ∧
      H' Dl = some (.lst vacc) ∧ Reps c.K (AL L') (hide (Bd (fun a => G a ∨ a = Dl) L') H') vacc acc ∧ acc.length ≤ i ∧ turnsX f xs m1 = (turnsX f (xs.drop i) m').bind (fun ys m2 => .ok (acc ++ ys) m2) ∧ Same (hide (Bd G L1) H1) (hide (Bd (fun a => G a ∨ a = Dl) L') H') ∧ (∀ a o, G a → H1 a = some o → H' a = some o), ⟨_, rfl, Nat.zero_le _, L1, m1, [], [], (Ew.guard hD).1, Stp.upd hD, upd_same, .nil, Nat.zero_le _, by
      rw [List.drop_zero]
      cases turnsX f xs m1 <;> rfl, (Ew.guard hD).2, fun a o g h => by
      rw [upd_ne (ne_of_none h hD)]
      exact h⟩, ?_⟩
  rintro i n H' ⟨rfl, hle, L', m', acc, vacc, E', st, hDl, racc, hacc, hcat, sm, kG⟩
  have PP : PPr bc G (AL L1) (hide (Bd G L1) H1) H1 (AL L') (hide (Bd (fun a => G a ∨ a = Dl) L') H') H' := ⟨sm, st.al, hide_sub, fun _ => kG, st.frz⟩
  by_cases hlt : i < xs.length
  · right
    refine ⟨src.go _ _ _ i PP hlt, fun H3 => ∃ n', n' = xs.length - (i + 1) ∧ i + 1 ≤ xs.length ∧ ∃ (L' : Lay) (m' : Mu) (acc : List D) (vacc : List V), ESt c.K c.own (fun a => G a ∨ a = Dl) L' m' (wipeE ρ tgt.slots) (L2.wipe σ tgt.slots) H3 ∧ Stp L1 L' H1 H3 ∧
      H3 Dl = some (.lst vacc) ∧ Reps c.K (AL L') (hide (Bd (fun a => G a ∨ a = Dl) L') H3) vacc acc ∧ acc.length ≤ i + 1 ∧ turnsX f xs m1 = (turnsX f (xs.drop (i + 1)) m').bind (fun ys m2 => .ok (acc ++ ys) m2) ∧ Same (hide (Bd G L1) H1) (hide (Bd (fun a => G a ∨ a = Dl) L') H3) ∧ (∀ a o, G a → H1 a = some o → H3 a = some o), fun H3 ⟨n', h1, h2⟩ => ⟨n', by omega, h1, h2⟩, fun x H2 y => ?_⟩
    obtain ⟨d, hd, yl⟩ := src.yld _ _ _ i x H2 PP hlt y
    obtain ⟨sm2, rd⟩ := yl.told E'
    have st2 : Stp L' L' H' H2 := Stp.same sm2
    have E2 : ESt c.K c.own (fun a => G a ∨ a = Dl) L' m' (wipeE ρ tgt.slots) (L2.wipe σ tgt.slots) H2 := E'.step st2 (E'.sok.same sm2)
    have hdrop : xs.drop i = d :: xs.drop (i + 1) := by
      rw [List.drop_eq_getElem_cons hlt]
      have : xs[i] = d := by
        have := List.getElem?_eq_getElem hlt
        rw [hd] at this
        exact (Option.some.inj this).symm
      rw [this]
    rw [hdrop, turnsX_cons] at hcat
    have hfd : f d m' = match bindT tgt d (wipeE ρ tgt.slots) with
      | some ρ' => evE c.cfg ea ρ' m'
      | none => .stuck := by rw [← hf]; rfl
    cases hb : bindT tgt d (wipeE ρ tgt.slots) with
    | none =>
      rw [hb] at hfd
      rw [hfd] at hcat
      rw [hcat] at q
      exact (show False from q).elim
    | some ρ' =>
      rw [hb] at hfd
      refine E2.bind rd ho hb fun σ' E3 hw _ => ⟨by rw [hw _ (fun _ h => h), wipe_idem], ?_⟩
      unfold tYes
      refine iteT ?_
      refine ⟨_, L', m', ρ', E3, ?_⟩
      have hfd' : f d m' = evE c.cfg ea ρ' m' := hfd
      cases hy : evE c.cfg ea ρ' m' with
      | stuck =>
        rw [hfd', hy] at hcat
        rw [hcat] at q
        exact (show False from q).elim
      | err k m4 =>
        rw [hfd', hy] at hcat
        have hcat' : turnsX f xs m1 = .err k m4 := hcat
        rw [hcat'] at q
        intro H5 L5 s5 ok5
        have stC : Stp L1 L5 H1 H5 := st.trans (st2.trans s5)
        refine q H5 L5 stC (ok5.own fun a o ng h => ⟨fun g => ng (.inl g), h⟩)
      | ok yd m4 =>
        rw [hfd', hy, Res.bind_ok] at hcat
        intro H5 L5 s5 ok5 v rv
        have stC : Stp L' L5 H' H5 := st2.trans s5
        have E5w := E'.step stC ok5
        have kD5 : H5 Dl = some (.lst vacc) := stC.keep Dl _ (E'.gok Dl (.inr rfl)).2 hDl
        obtain ⟨E6, sm6⟩ := E5w.rewrite (o := .lst (vacc ++ [v])) hown
        refine ⟨vacc, kD5, ?_, ?_⟩
        · rw [racc.length]
          have := src.len
          omega
        · refine ⟨_, rfl, by omega, L5, _, acc ++ [yd], vacc ++ [v], E6, ?_, upd_same, ?_, ?_, ?_, ?_, ?_⟩
          · have stD : Stp L1 L5 H1 H5 := st.trans stC
            refine ⟨fun a o nf h => ?_, stD.new, fun a o h => ?_, stD.al, fun a o u h => ?_⟩
            · rw [upd_ne (ne_of_none h hD)]
              exact stD.keep a o nf h
            · rw [upd_ne (ne_of_none h hD)]
              exact stD.stay a o h
            · rw [upd_ne (ne_of_none h hD)]
              exact stD.frz a o u h
          · exact ((racc.mono stC.hid stC.al).mono sm6 fun _ _ h => h).append (.cons (rv.rep.mono sm6 fun _ _ h => h) .nil)
          · rw [List.length_append, List.length_singleton]
            omega
          · rw [hcat]
            cases turnsX f (xs.drop (i + 1)) m4 with
            | ok r m5 =>
              show Res.ok (acc ++ (yd :: r)) m5 = .ok (acc ++ [yd] ++ r) m5
              rw [List.append_assoc]; rfl
            | err k m5 => rfl
            | stuck => rfl
          · exact fun a o h => sm6 a o (stC.hid a o (sm a o h))
          · intro a o g h
            rw [upd_ne (ne_of_none h hD)]
            exact stC.keep a o (E'.gok a (.inl g)).2 (kG a o g h)
  · left
    refine ⟨src.stop _ _ _ i PP (by omega), ?_⟩
    rw [List.drop_eq_nil_of_le (by omega)] at hcat
    have hcat' : turnsX f xs m1 = .ok (acc ++ []) m' := hcat
    rw [List.append_nil] at hcat'
    rw [hcat'] at q
    have nD : ¬ Bd G L' Dl := fun z => by
      rcases z with z | z
      · obtain ⟨⟨o, h⟩, _⟩ := E1.gok Dl z
        rw [hD] at h
        cases h
      · exact (E'.gok Dl (.inr rfl)).2 z
    have smB : Same (hide (Bd (fun a => G a ∨ a = Dl) L') H') (hide (Bd G L') H') := hide_same fun a o nb h => ⟨fun z => nb (z.elim (fun g => .inl (.inl g)) .inr), h⟩
    have okG : SOk c.K G L' m' H' := E'.sok.own fun a o ng h => ⟨fun g => ng (.inl g), h⟩
    refine hq acc m' H' L' _ (E1.step st okG) (s1.trans st) (q H' L' st okG) (.lst (.inl (.inl (hide_of nD hDl))) (racc.mono smB fun _ _ h => h) ?_)
    have := src.len
    omega
theorem s_asgX {i : Nat} {y : Str} {py : Pos} {tgt : Tgt} {it : I} {elt tg iter : Expr} {scope : Scope} {own : List (Str × Nat)} {pos spos : Pos} (hK : c.K = X.K) (hyo : c.own i = false) (ho : ∀ i ∈ tgt.slots, c.own i = false) (hv : own.map (·.2) = tgt.slots)
    (hc : X.calm = true) (tk : Takes X W) (hst : X.stack = X.env :: X.outer) (hf : X.env.frame = some X.env.locals) (hN : X.N.Nodup) (hy : X.N[i]? = some y) (hyl : X.env.scope.names.lookup y = some .local)
    (hsw : swapsWith (.ListComp elt [⟨tg, iter, [], 0⟩] scope pos) (some (.Name y py)) spos.line X.env = pure true) (hi : PI X tg iter (TIr c W bc it)) (ok : BlkOk X.N X.env.scope scope own)
    (hg : ∀ (s : Shared) (H : Hp) (C : Addr) (cl : List (Str × Addr)) (fp : List Addr), PG (blkX X s H scope (compEnvC scope cl C X.env) fp) tg (TGr c.K tgt))
    (he : ∀ (σ : L2.St) (s : Shared) (H : Hp) (C : Addr) (cl : List (Str × Addr)) (fp : List Addr), (∀ σ', PassesAt (L2.CX X.prog X.w) (blkX X s H scope (compEnvC scope cl C X.env) fp) σ' (fun cls d H => W cls d σ H)) → PE (blkX X s H scope (compEnvC scope cl C X.env) fp) elt (TEr c (Wd W σ) false ea)) (hs : ∀ x, foldedSetIterable iter X.env x = pure x) :
    PS X (.Assign [.Name y py] (.ListComp elt [⟨tg, iter, [], 0⟩] scope pos) spos) (TSr c W f (.asgX i tgt it ea)) :=
  ps_imp (ps_setLcX (te := fun σ => TEr c (Wd W σ) false ea) hc tk hst hf hN hy hyl hsw hi ok hg (fun _ _ _ _ _ => pts_nil) he hs) fun Z σ H h => by
    obtain ⟨L, m, ρ, O, h⟩ := h
    rw [evS] at h
    have h' : PstG c W (OG f.F c.own ρ σ) L σ H (fun ys m' H' L' => PstS c W f L' ρ σ H' Z (if i < ρ.length then .nxt (ρ.set i (some (.lst ys))) m' else .stuck)) ((evI c.cfg it ρ m).bind fun xs m1 => turnsX (stepX c.cfg tgt ea ρ) xs m1) := by
      have q1 := PstS.ex O h
      cases hx : evI c.cfg it ρ m with
      | stuck => rw [hx] at q1; exact q1
      | err k m1 => rw [hx] at q1; exact q1
      | ok xs m1 =>
        rw [hx] at q1
        rw [Res.bind_ok]
        have q2 : PstS c W f L ρ σ H Z ((turnsX (stepX c.cfg tgt ea ρ) xs m1).fl ρ fun ys m2 => if i < ρ.length then .nxt (ρ.set i (some (.lst ys))) m2 else .stuck) := by
          rw [hx] at h
          exact h
        exact PstS.ex O q2
    refine compX_imp hv ho σ H O.est h' fun ys m' H' L' v E' st q r => ?_
    have OK := O.step st E'.sok
    by_cases hl : i < ρ.length
    · rw [if_pos hl] at q
      obtain ⟨O1, k1⟩ := OK.1.set1 (i := i) hyo r
      exact q _ _ L' O1 k1
    · rw [if_neg hl] at q
      exact (show False from q).elim
end
end MP
set_option maxRecDepth 100000
set_option maxHeartbeats 8000000
set_option autoImplicit false
namespace MP
open PySem L2
section
variable {EX : List Nat} {X : Cx} {c : Cn} {W : WX} {f : Fr} {st : Stmt}
theorem FOk.clr1 {L : Lay} {m : Mu} {ρ : Env'} {σ : L2.St} {H : Hp} {i : Nat} (O : FO c f L m ρ σ H) (hi : c.own i = false) :
    FO c f L m (ρ.set i none) (σ.set i none) H ∧ KG f.F c.own L ρ σ H L (ρ.set i none) (σ.set i none) H := by
  refine O.re ⟨O.est.gok, O.est.sok, by rw [List.length_set, List.length_set, O.est.len], fun j d hj => ?_⟩ fun j hj => ?_
  · by_cases hij : i = j
    · subst hij
      rw [List.getElem?_set] at hj
      simp at hj
    · rw [List.getElem?_set_ne hij] at hj
      rw [List.getElem?_set_ne hij]
      exact O.est.slot j d hj
  · have hij : i ≠ j := fun e => by rw [e, hj] at hi; cases hi
    exact ⟨List.getElem?_set_ne hij, List.getElem?_set_ne hij⟩
def tKeep (i j : Nat) (a : Addr) (_ : Value) : TS := fun D σ H => σ[i]? = some (some (.ref a)) ∧ D.nx (σ.set j (some (.ref a))) H
theorem s_tri_keep {b : MP.Sts} {k i j : Nat} (hK : c.K = X.K) (F : ExFacts EX X.K X.mg c.cls c.cfg.sub) (hi : c.own i = false) (hj : c.own j = false)
    (hp : PS X st (fun Z σ H => TSsr c (wKeep X.K (c.cls k) i (tKeep i j) W Z) f b Z σ H)) : PS X st (TSr c W f (.tri b k (some i) (.cons (.asg (.one j) (.var i)) .nil))) := ps_imp hp fun Z σ H h => by
  obtain ⟨L, m, ρ, O, h⟩ := h
  rw [evS] at h
  refine ⟨L, m, ρ, O, ?_⟩
  revert h
  cases hb : evSs c.cfg b ρ m with
  | nxt ρ1 m1 => exact fun h => h
  | ret d m1 => exact fun h => h
  | stuck => exact fun h => h
  | err c' ρ1 m1 =>
    intro h σ' H' L' O' kg
    simp only [] at h
    cases hs : c.cfg.sub c' k with
    | none => rw [hs] at h; exact (show False from h).elim
    | some t =>
      rw [hs] at h
      obtain ⟨⟨DA, e, C⟩, hc, hk1, hk2⟩ := F.pair c' k t hs
      refine ⟨t, hk2, fun ht => ⟨rfl, fun a na => ?_⟩, fun ht => ?_⟩
      · subst ht
        simp only [] at h
        have hiσ : i < ρ1.length := by
          rcases Nat.lt_or_ge i ρ1.length with q | q
          · exact q
          · exfalso
            rw [evSs, evS, evE, List.getElem?_eq_none (by rw [List.length_set]; exact q)] at h
            exact h
        have g0 : (ρ1.set i (some (MP.D.exc c')))[i]? = some (some (MP.D.exc c')) := List.getElem?_set_self hiσ
        rw [evSs, evS, evE, g0] at h
        simp only [Res.fl_ok, bindT, evSs] at h
        refine ⟨List.getElem?_set_self (by rw [← O'.est.len]; exact hiσ), ?_⟩
        have nb := O'.est.nb O'.est.sok.foot na
        obtain ⟨O1, k1⟩ := O'.step (Stp.upd (o := ExI (c.cls c') a) na) (O'.est.sok.upd na)
        have r1 : Rep c.K (AL L') (hide (Bd (OG f.F c.own ρ1 σ') L') (L2.upd H' a (ExI (c.cls c') a))) (.ref a) (.exc c') := .exc (by rw [hK]; exact hc) (Rep.new na nb)
        obtain ⟨O2, k2⟩ := O1.set1 hi r1
        have r2 := r1.mono k2.sm k2.al
        obtain ⟨O3, k3⟩ := O2.set1 hj r2
        obtain ⟨O4, k4⟩ := O3.clr1 hi
        exact h _ _ L' O4 ((((kg.trans k1).trans k2).trans k3).trans k4)
      · subst ht
        exact h σ' H' L' O' kg
theorem s_tri_only {b s : MP.Sts} {k : Nat} (F : ExFacts EX X.K X.mg c.cls c.cfg.sub) (hp : PS X st (fun Z σ H => TSsr c (wOnly X.K (c.cls k) (fun _ _ _ => TSsr c W f s) W Z) f b Z σ H)) : PS X st (TSr c W f (.tri b k none s)) := ps_imp hp fun Z σ H h => by
  obtain ⟨L, m, ρ, O, h⟩ := h
  rw [evS] at h
  refine ⟨L, m, ρ, O, ?_⟩
  revert h
  cases hb : evSs c.cfg b ρ m with
  | nxt ρ1 m1 => exact fun h => h
  | ret d m1 => exact fun h => h
  | stuck => exact fun h => h
  | err c' ρ1 m1 =>
    intro h σ' H' L' O' kg
    simp only [] at h
    cases hs : c.cfg.sub c' k with
    | none => rw [hs] at h; exact (show False from h).elim
    | some t =>
      rw [hs] at h
      obtain ⟨⟨DA, e, C⟩, hc, hk1, hk2⟩ := F.pair c' k t hs
      refine ⟨t, hk2, fun ht a na => ?_, fun ht => ?_⟩
      · subst ht
        simp only [] at h
        have h : PstS c W f L ρ σ H Z (evSs c.cfg s ρ1 m1) := by
          revert h
          cases evSs c.cfg s ρ1 m1 <;> exact fun h => h
        exact ⟨L', m1, ρ1, O', h.kg kg⟩
      · subst ht
        exact h σ' H' L' O' kg
end
end MP
set_option maxRecDepth 100000
set_option maxHeartbeats 8000000
set_option autoImplicit false
namespace MP
open PySem L2
structure GS (se : Se) (c : Cn) (n : Nat) (W : WX) (X : Cx) (sc : Scope) : Prop where
  g : Good se c n W X
  hs : X.env.scope = sc
  fn : ∀ x, X.fn x = true
  po : PassesOwn (model X.prog X.w) X.A X.env X.xe
  kd : sc.kind = .function
  st : X.stack = X.env :: X.outer
  fr : X.env.frame = some X.env.locals
  ex : X.ex = []
  tk : Takes X W
  lam : se.lam = true → ∃ cA P, TabA X.K P ∧ X.env.code = .ref cA ∧ LamX.TabB X.base X.mg cA P ∧ X.env.qual ++ "<lambda>" = lamQ
theorem GS.tr {se : Se} {c : Cn} {n : Nat} {W W' : WX} {X : Cx} {sc : Scope} (q : GS se c n W X sc) {pn : List (Addr × Obj)} {xe : Value → Shared → Prop} (tk : Takes (X.tr pn xe) W') (po : PassesOwn (model X.prog X.w) X.A X.env xe) : GS se c n W' (X.tr pn xe) sc :=
  ⟨⟨q.g.hK, q.g.calm, q.g.hN, q.g.nd, q.g.own, q.g.room, q.g.bi, q.g.ty, q.g.isi, q.g.rng, q.g.zp, q.g.en, q.g.rv, fun σ => passAt tk σ, q.g.fns, q.g.mts, q.g.obs, q.g.gcs, q.g.exf⟩, q.hs, q.fn, po, q.kd, q.st, q.fr, q.ex, tk, q.lam⟩
section
variable {se : Se} {c : Cn} {n : Nat} {W : WX} {X : Cx} {sc : Scope} {f : Fr}
theorem nd_of (g : Good se c n W X) : X.N.Nodup := by rw [g.hN]; exact g.nd
theorem ix_ne {l : List Str} {i j : Nat} {x : Str} (h : (i == j) = false) : i ≠ j := fun e => by
  rw [e, beq_self_eq_true] at h
  cases h
theorem sws {t v : Expr} {l : Nat} {env : Env} (h : noCompB v = true) : swapsWithSole [t] v l env = pure false := sw_none (t := some t) h
theorem pe_weak {b : Bool} {ir : E} {e : Expr} (h : PE X e (TEr c W b ir)) : PE X e (TEr c W true ir) := pe_imp h fun σ H Q q => by
  obtain ⟨G, L, m, ρ, E, q⟩ := q
  refine ⟨G, L, m, ρ, E, q.imp fun d m1 H1 L1 e s ok k v r => k v ?_⟩
  cases b with
  | false => exact r.weak
  | true => exact r
theorem star_each {e : Expr} {env : Env} (h : notStar e = true) : starEach [e] env = (false, PySem.eval e env) :: starEach [] env := by cases e <;> first | rfl | cases h
theorem ok_key (q : GS se c n W X sc) {tg : Tgt} {e : E} {t v : Expr} {pos : Pos} (h : ckKey se sc tg e t v = true) : PS X (.Assign [t] v pos) (TSr c W f (.asg tg e)) := by
  have g := q.g
  have hs := q.hs
  unfold ckKey at h
  split at h
  · rename_i i a x p
    simp only [Bool.and_eq_true, decide_eq_true_eq, Bool.not_eq_true'] at h
    obtain ⟨⟨⟨h1, h2⟩, h3⟩, h4⟩ := h
    unfold ckSK at h4
    split at h4
    · rename_i y py e k params body scope lp kp cp
      simp only [Bool.and_eq_true, decide_eq_true_eq] at h4
      obtain ⟨⟨⟨⟨⟨⟨k1, k2⟩, k3⟩, k4⟩, k5⟩, k6⟩, k7⟩ := h4
      subst k2 k4
      obtain ⟨cA, P, b1, b2, b3, b4⟩ := q.lam k1
      unfold ckLam at k7
      split at k7
      · simp only [Bool.and_eq_true, decide_eq_true_eq, Bool.not_eq_true'] at k7
        obtain ⟨⟨⟨⟨⟨c1, c2⟩, c3⟩, c4⟩, c5⟩, c6⟩ := k7
        subst c2
        have kd : scope.kind = .function := by
          split at c3
          · assumption
          · cases c3
        exact s_asg (fun j hj => by rw [List.mem_singleton.mp hj, g.own]; exact h3) (ps_set (nd_of g) (by rw [g.hN]; exact h1) (loc_of hs h2) (s_sortK g.hK (gl_of hs k3) (g.bi .sorted) (okE a g hs k5) (star_each k6) b1 b3 b2 b4 (g.room.mono (Nat.succ_le_succ (Nat.zero_le _))) kd c4 c5 c6 c1) (by rfl) (.inl (q.fn x)))
      · cases k7
    · cases h4
  · cases h
theorem ok_asg (q : GS se c n W X sc) {tg : Tgt} {e : E} {t v : Expr} {pos : Pos} (h1 : ckTg se sc true tg t = true) (h2 : ckE se sc e v = true) (h3 : bor se e = false) (h4 : ckSw se sc tg e t v = true) : PS X (.Assign [t] v pos) (TSr c W f (.asg tg e)) := by
  have g := q.g
  have hs := q.hs
  obtain ⟨pg, ho⟩ := tg_of g hs (fnAll := true) (fun _ => q.fn) h1
  have hN : X.N.Nodup := nd_of g
  have pe : PE X v (TEr c W false e) := nb_of (okE e g hs h2) h3
  unfold ckSw at h4
  split at h4
  · -- a name
    rename_i i x p
    have hl : X.N[i]? = some x ∧ Loc X.env.scope x := by
      have h1' : (decide (se.N[i]? = some x) && locB sc x && !se.ow i) = true := h1
      simp only [Bool.and_eq_true, decide_eq_true_eq] at h1'
      exact ⟨by rw [g.hN]; exact h1'.1.1, loc_of hs h1'.1.2⟩
    rw [Bool.or_eq_true] at h4
    rcases h4 with h4 | h4
    · exact s_asg ho (ps_set hN hl.1 hl.2 pe (sw_none h4) (.inl (q.fn x)))
    · rw [Bool.and_eq_true] at h4
      obtain ⟨hC, hL⟩ := h4
      cases e with
      | comp tg it cn b =>
        cases v with
        | ListComp elt gs scope pos2 =>
          cases hw : swB sc x p scope pos2 with
          | false => exact s_asg ho (ps_set hN hl.1 hl.2 pe (by rw [sw_eq hs q.kd, hw]) (.inl (q.fn x)))
          | true =>
            unfold ckE at h2
            split at h2
            · rename_i t2 iter2 ifs2 a2 scope2 pos3 he
              cases he
              simp only [Bool.and_eq_true, Bool.not_eq_true', decide_eq_true_eq] at h2
              obtain ⟨⟨⟨⟨⟨⟨⟨⟨h0, h1⟩, h2⟩, h2t⟩, h3⟩, h4⟩, h5⟩, h6⟩, h7⟩ := h2
              subst h0
              have blk := fun (s : Shared) (H : Hp) (C : Addr) (cl : List (Str × Addr)) (fp : List Addr) => (g.blk s H scope (compEnvC scope cl C X.env) fp)
              have lx : lclB sc x = true := by
                unfold swB at hw
                simp only [Bool.and_eq_true] at hw
                exact hw.1.1
              refine s_asg ho (ps_imp (ps_setLc (wi := TIr c W (borI se it) it) (g := TGr c.K tg) (tt := TKr c W0 cn) (te := TEr c W0 false b) g.calm hN hl.1 (lcl_of hs lx) (by rw [sw_eq hs q.kd, hw]) (okI it g hs h2 h2t) (by rw [g.hN, hs]; exact blkOk_by h7) (fun s H C cl fp => ?_) (fun s H C cl fp => ?_) (fun s H C cl fp => ?_) (fold_of h3)) fun Z σ H w => ?_)
              · exact (tg_of (blk s H C cl fp) (by rw [← hs]; rfl) (fun q => by cases q) h1).1
              · exact okC cn (blk s H C cl fp) (by rw [← hs]; rfl) h4
              · exact nb_of (okE b (blk s H C cl fp) (by rw [← hs]; rfl) h5) h6
              · exact comp_imp (ownOf_snd tg) (fun i hi => by rw [g.own]; exact tg_own h1 i hi) σ H _ w
            · cases h2
        | _ => cases hL
      | compL kd a tg cn b =>
        cases v with
        | ListComp elt gs scope pos2 =>
          cases hw : swB sc x p scope pos2 with
          | false => exact s_asg ho (ps_set hN hl.1 hl.2 pe (by rw [sw_eq hs q.kd, hw]) (.inl (q.fn x)))
          | true =>
            unfold ckE at h2
            split at h2
            · rename_i elt2 t iter ifs w scope2 pos3 he
              cases he
              split at h2
              · rename_i x2 hx
                simp only [Bool.and_eq_true, Bool.not_eq_true', decide_eq_true_eq] at h2
                obtain ⟨⟨⟨⟨⟨⟨⟨⟨h0, hp⟩, h1⟩, h2⟩, h3⟩, h4⟩, h5⟩, h6⟩, h7⟩ := h2
                subst h0
                have blk := fun (s : Shared) (H : Hp) (C : Addr) (cl : List (Str × Addr)) (fp : List Addr) => (g.blk s H scope (compEnvC scope cl C X.env) fp)
                have lx : lclB sc x = true := by
                  unfold swB at hw
                  simp only [Bool.and_eq_true] at hw
                  exact hw.1.1
                refine s_asg ho (ps_imp (ps_lock (ps_setLc (wi := wiL X.K kd (TEr c W (bor se a) a)) (g := TGr c.K tg) (tt := TKr c W0 cn) (te := TEr c W0 false b) g.calm hN hl.1 (lcl_of hs lx) (by rw [sw_eq hs q.kd, hw]) (walk_of hx (okE a g hs h2)) (by rw [g.hN, hs]; exact blkOk_by h7) (fun s H C cl fp => ?_) (fun s H C cl fp => ?_) (fun s H C cl fp => ?_) (fold_of h3))) fun Z σ H w => ?_)
                · exact (tg_of (blk s H C cl fp) (by rw [← hs]; rfl) (fun q => by cases q) h1).1
                · exact okC cn (blk s H C cl fp) (by rw [← hs]; rfl) h4
                · exact nb_of (okE b (blk s H C cl fp) (by rw [← hs]; rfl) h5) h6
                · obtain ⟨d, u, k1, k2, k3⟩ := compL_imp (b := bor se a) g.hK hp (ownOf_snd tg) (fun i hi => by rw [g.own]; exact tg_own h1 i hi) σ H _ w
                  exact ⟨d, u, k1, k2, fun od => k3 od⟩
              · cases h2
            · cases h2
        | _ => cases hL
      | _ => cases hC
  · -- two at once
    rename_i i j l x px y py kt pt vs k2 pt2
    have two := h1
    have h1' : (decide (se.N[i]? = some x) && (if true = true then locB sc x else lclB sc x) && !se.ow i && (decide (se.N[j]? = some y) && (if true = true then locB sc y else lclB sc y) && !se.ow j && true)) = true := h1
    simp only [Bool.and_eq_true, decide_eq_true_eq] at h1'
    rw [Bool.or_eq_true, Bool.or_eq_true] at h4
    rcases h4 with (h4 | h4) | h4
    rotate_left 2
    · exact s_asg ho (ps_asg pe pg (sws rfl) (sst_cell hs h4) rfl)
    · exact s_asg ho (ps_asg pe pg (sws rfl) (sst_fold h4) rfl)
    · simp only [Bool.and_eq_true, Bool.not_eq_true'] at h4
      obtain ⟨h5, h6⟩ := h4
      have h5' := h5
      unfold par2B at h5'
      simp only [Bool.and_eq_true, Bool.not_eq_true'] at h5'
      obtain ⟨⟨⟨⟨⟨⟨⟨⟨e1, e2⟩, _⟩, _⟩, _⟩, _⟩, _⟩, _⟩, e3⟩ := h5'
      obtain ⟨a, b, rfl⟩ : ∃ a b, vs = [a, b] := by
        match vs, eq_of_beq e3 with
        | [a, b], _ => exact ⟨a, b, rfl⟩
      have h2' : (ckEs se sc false l [a, b] && decide (l.len ≤ 1000)) = true := by unfold ckE at h2; exact h2
      rw [Bool.and_eq_true] at h2'
      have hl : l.len = 2 := by
        have : ckEs se sc false l [a, b] = true := h2'.1
        cases l with
        | nil => simp [ckEs] at this
        | cons a l =>
          cases l with
          | nil => simp [ckEs] at this
          | cons a l =>
            cases l with
            | nil => rfl
            | cons a l => simp [ckEs] at this
      refine s_par2 (ho i (by simp [Tgt.slots])) (ho j (by simp [Tgt.slots])) hl (ps_par g.calm hN (by rw [g.hN]; exact h1'.1.1.1) (by rw [g.hN]; exact h1'.2.1.1.1) (ix_ne (l := []) (x := "") h6) (lcl_of hs e1) (lcl_of hs e2) (okEs l g hs h2'.1) (sst2 hs q.kd h5) rfl)
  · -- three at once
    rename_i i j k l x px y py z pz kt pt vs k2 pt2
    have h1' : (decide (se.N[i]? = some x) && (if true = true then locB sc x else lclB sc x) && !se.ow i && (decide (se.N[j]? = some y) && (if true = true then locB sc y else lclB sc y) && !se.ow j && (decide (se.N[k]? = some z) && (if true = true then locB sc z else lclB sc z) && !se.ow k && true))) = true := h1
    simp only [Bool.and_eq_true, decide_eq_true_eq] at h1'
    rw [Bool.or_eq_true, Bool.or_eq_true] at h4
    rcases h4 with (h4 | h4) | h4
    rotate_left 2
    · exact s_asg ho (ps_asg pe pg (sws rfl) (sst_cell hs h4) rfl)
    · exact s_asg ho (ps_asg pe pg (sws rfl) (sst_fold h4) rfl)
    · simp only [Bool.and_eq_true, Bool.not_eq_true'] at h4
      obtain ⟨⟨⟨h5, h6⟩, h7⟩, h8⟩ := h4
      have h5' := h5
      unfold par3B at h5'
      simp only [Bool.and_eq_true, Bool.not_eq_true'] at h5'
      obtain ⟨⟨⟨⟨⟨⟨⟨⟨⟨⟨⟨e1, e2⟩, e4⟩, _⟩, _⟩, _⟩, _⟩, _⟩, _⟩, _⟩, _⟩, e3⟩ := h5'
      obtain ⟨a, b, d, rfl⟩ : ∃ a b d, vs = [a, b, d] := by
        match vs, eq_of_beq e3 with
        | [a, b, d], _ => exact ⟨a, b, d, rfl⟩
      have h2' : (ckEs se sc false l [a, b, d] && decide (l.len ≤ 1000)) = true := by unfold ckE at h2; exact h2
      rw [Bool.and_eq_true] at h2'
      have hl : l.len = 3 := by
        have : ckEs se sc false l [a, b, d] = true := h2'.1
        cases l with
        | nil => simp [ckEs] at this
        | cons a l =>
          cases l with
          | nil => simp [ckEs] at this
          | cons a l =>
            cases l with
            | nil => simp [ckEs] at this
            | cons a l =>
              cases l with
              | nil => rfl
              | cons a l => simp [ckEs] at this
      refine s_par3 (ho i (by simp [Tgt.slots])) (ho j (by simp [Tgt.slots])) (ho k (by simp [Tgt.slots])) hl (ps_par3 g.calm hN (by rw [g.hN]; exact h1'.1.1.1) (by rw [g.hN]; exact h1'.2.1.1.1) (by rw [g.hN]; exact h1'.2.2.1.1.1) (ix_ne (l := []) (x := "") h6) (ix_ne (l := []) (x := "") h7) (ix_ne (l := []) (x := "") h8) (lcl_of hs e1) (lcl_of hs e2) (lcl_of hs e4) (okEs l g hs h2'.1) (sst3 hs q.kd h5) rfl)
  · rw [Bool.and_eq_true, Bool.or_eq_true] at h4
    rcases h4.2 with h5 | h5
    · exact s_asg ho (ps_asg pe pg (sws h4.1) (sst_none h5) rfl)
    · exact s_asg ho (ps_asg pe pg (sws h4.1) (sst_fold h5) rfl)
  · cases h4
theorem okOs (g : Good se c n W X) (hs : X.env.scope = sc) : ∀ (l : Es) {es : List Expr}, ckOs se sc l es = true → PA X es (TAo c W l)
  | .nil, es, h => by
    cases es with
    | nil => exact o_nil
    | cons e es => cases h
  | .cons a l, es, h => by
    cases es with
    | nil => cases h
    | cons e es =>
      have h' := h
      unfold ckOs at h'
      simp only [Bool.and_eq_true] at h'
      obtain ⟨⟨h1, h2⟩, h3⟩ := h'
      split at h1
      · rename_i i
        split at h1
        · rename_i ho
          unfold ckVar at h1
          split at h1
          · simp only [Bool.and_eq_true, decide_eq_true_eq] at h1
            exact o_consV (by rw [g.own]; exact ho) (pe_var (by rw [g.hN]; exact h1.1.1) (vis_of hs h1.1.2) (pl_of h1.2).1 (pl_of h1.2).2) (okOs g hs l h3) h2
          · cases h1
        · rename_i ho
          exact o_consE (nb_of (okE (.var i) g hs h1) (by simpa [bor] using ho)) (okOs g hs l h3) h2
      · rename_i hv
        refine o_consE (nb_of (okE a g hs h1) ?_) (okOs g hs l h3) h2
        cases a with
        | var i => exact (hv i rfl).elim
        | _ => rfl
theorem ok_row (q : GS se c n W X sc) (hf : f.fr = false) {e : E} {v : Expr} {pos : Pos} (h : ckRow se sc e v = true) : PS X (.Return (some v) pos) (TSr c W f (.ret e)) := by
  unfold ckRow at h
  split at h
  · simp only [Bool.and_eq_true, decide_eq_true_eq] at h
    exact s_retTup hf h.2 (okOs q.g q.hs _ h.1)
  · simp only [Bool.and_eq_true, decide_eq_true_eq] at h
    exact s_retLst hf h.2 (okOs q.g q.hs _ h.1)
  · cases h
end
theorem okSuE {c : Cn} {W : WX} {X : Cx} : ∀ (e : E) {x : Expr}, ckSuE e x = true → PE X x (TEr c W false e) := fun e x h => by
  unfold ckSuE at h
  split at h
  · exact k_lit h
  · exact s_lst s_nil (show 0 ≤ 1000 by decide)
  · rw [Bool.and_eq_true] at h
    exact s_lst (s_cons (k_lit h.1) s_nil h.2) (show 1 ≤ 1000 by decide)
  · cases h
theorem okSu {se : Se} {c : Cn} {n : Nat} {f : Fr} (hf : f.fr = se.fr) {s : MP.Sts} {suite : List Stmt} {W : WX} {X : Cx} {sc : Scope} {a : Addr} {pn : List (Addr × Obj)} (q : GS se c n W X sc) (h : ckSu se sc s suite = true) : PSs (X.suite a pn) suite (TSsr c W f s) := by
  unfold ckSu at h
  split at h
  · rw [Bool.and_eq_true, Bool.not_eq_true'] at h
    exact s_scons (s_ret (by rw [hf]; exact h.1) (okSuE _ h.2)) s_snil
  · simp only [Bool.and_eq_true, Bool.not_eq_true', decide_eq_true_eq] at h
    obtain ⟨⟨⟨⟨h1, h2⟩, h3⟩, h4⟩, h5⟩ := h
    exact s_scons (s_asg (fun j hj => by rw [List.mem_singleton.mp hj, q.g.own]; exact h3) (ps_set (X := X.suite a pn) (nd_of (X := X) q.g) (by show X.N[_]? = _; rw [q.g.hN]; exact h1) (loc_of (X := X) q.hs h2) (okSuE _ h4) (sw_none h5) (.inl (q.fn _)))) s_snil
  · cases h
mutual
theorem okS {se : Se} {c : Cn} {n : Nat} {f : Fr} (hf : f.fr = se.fr) : ∀ (s : MP.St) {st : Stmt} {W : WX} {X : Cx} {sc : Scope}, GS se c n W X sc → ckS se sc s st = true → PS X st (TSr c W f s)
  | .asg tg e, st, W, X, sc, q, h => by
    unfold ckS at h
    split at h
    · rw [Bool.or_eq_true] at h
      rcases h with h | h
      · simp only [Bool.and_eq_true, Bool.not_eq_true'] at h
        exact ok_asg q h.1.1.1 h.1.1.2 h.1.2 h.2
      · exact ok_key q h
    · cases h
  | .own i e, st, W, X, sc, q, h => by
    unfold ckS at h
    split at h
    · simp only [Bool.and_eq_true, decide_eq_true_eq] at h
      obtain ⟨⟨⟨⟨h1, h2⟩, h3⟩, h4⟩, h5⟩ := h
      exact s_ownL (es := []) (by rw [q.g.own]; exact h3) h5 (ps_set (nd_of q.g) (by rw [q.g.hN]; exact h1) (loc_of q.hs h2) (pe_lst (okEs _ q.g q.hs h4)) rfl (.inl (q.fn _)))
    · simp only [Bool.and_eq_true, decide_eq_true_eq] at h
      obtain ⟨⟨h1, h2⟩, h3⟩ := h
      exact s_ownD (by rw [q.g.own]; exact h3) (ps_set (nd_of q.g) (by rw [q.g.hN]; exact h1) (loc_of q.hs h2) pe_dnewK rfl (.inl (q.fn _)))
    · simp only [Bool.and_eq_true, decide_eq_true_eq] at h
      obtain ⟨⟨⟨⟨h1, h2⟩, h3⟩, h4⟩, h5⟩ := h
      exact s_ownCat q.g.hK (by rw [q.g.own]; exact h3) (ps_set (nd_of q.g) (by rw [q.g.hN]; exact h1) (loc_of q.hs h2) (pe_op op_catL (pe_weak (okE _ q.g q.hs h4)) (nb_of (okE _ q.g q.hs h5) rfl)) rfl (.inl (q.fn _)))
    · cases h
  | .aug i o e, st, W, X, sc, q, h => by
    unfold ckS at h
    split at h
    · simp only [Bool.and_eq_true, Bool.not_eq_true', decide_eq_true_eq] at h
      obtain ⟨⟨⟨⟨⟨h0, h1⟩, h2⟩, h3⟩, h4⟩, h5⟩ := h
      subst h0
      exact s_aug (by rw [q.g.own]; exact h3) (nd_of q.g) (by rw [q.g.hN]; exact h1) (loc_of q.hs h2) (.inl (q.fn _)) (nb_of (okE e q.g q.hs h4) h5)
    · cases h
  | .setx i k e, st, W, X, sc, q, h => by
    unfold ckS at h
    split at h
    · simp only [Bool.and_eq_true, Bool.not_eq_true', decide_eq_true_eq] at h
      obtain ⟨⟨⟨⟨⟨⟨⟨h1, h2⟩, h3⟩, h4⟩, h5⟩, h6⟩, h7⟩, h8⟩ := h
      exact s_setx q.g.hK (by rw [q.g.own]; exact h4) (pe_var (by rw [q.g.hN]; exact h1) (vis_of q.hs h2) (pl_of h3).1 (pl_of h3).2) (okE k q.g q.hs h5) (nb_of (okE e q.g q.hs h6) h7) (sw_none h8)
    · cases h
  | .ssub r k e, st, W, X, sc, q, h => by
    unfold ckS at h
    split at h
    · simp only [Bool.and_eq_true, Bool.not_eq_true', decide_eq_true_eq] at h
      obtain ⟨⟨⟨⟨h1, h2⟩, h3⟩, h4⟩, h5⟩ := h
      exact s_ssub q.g.hu q.g.hK (okE r q.g q.hs h1) (okE k q.g q.hs h2) (nb_of (okE e q.g q.hs h3) h4) (sw_none h5)
    · cases h
  | .sfld j r e, st, W, X, sc, q, h => by
    unfold ckS at h
    split at h
    · simp only [Bool.and_eq_true, Bool.not_eq_true', decide_eq_true_eq] at h
      obtain ⟨⟨⟨⟨⟨h1, h2⟩, h3⟩, h4⟩, h5⟩, h6⟩ := h
      subst h1
      exact s_sfld q.g.obs q.g.hK h2 (okE r q.g q.hs h3) (nb_of (okE e q.g q.hs h4) h5) (sw_none h6)
    · cases h
  | .faug j o r d, st, W, X, sc, q, h => by
    unfold ckS at h
    split at h
    · simp only [Bool.and_eq_true, decide_eq_true_eq] at h
      obtain ⟨⟨⟨⟨⟨h0, h1⟩, h2⟩, h3⟩, h4⟩, h5⟩ := h
      subst h0 h1
      cases d with
      | int k =>
        cases eq_of_beq h4
        exact s_faug o (by cases o <;> first | exact .inl rfl | exact .inr rfl | cases h3) q.g.obs q.g.hK h2 (okE r q.g q.hs h5) pe_int
      | _ => cases h4
    · cases h
  | .ownB i e, st, W, X, sc, q, h => by
    unfold ckS at h
    split at h
    · simp only [Bool.and_eq_true, decide_eq_true_eq] at h
      obtain ⟨⟨⟨⟨h1, h2⟩, h3⟩, h4⟩, h5⟩ := h
      exact s_ownB (by rw [q.g.own]; exact h3) (ps_set (nd_of q.g) (by rw [q.g.hN]; exact h1) (loc_of q.hs h2) (okF e q.g q.hs h4) (sw_none h5) (.inl (q.fn _)))
    · cases h
  | .forsL kd a tg b, st, W, X, sc, q, h => by
    unfold ckS at h
    split at h
    · split at h
      · rename_i y hy
        simp only [Bool.and_eq_true] at h
        obtain ⟨⟨⟨⟨h1, h2⟩, h3⟩, h4⟩, h5⟩ := h
        obtain ⟨pg, ho⟩ := tg_of q.g q.hs (fnAll := true) (fun _ => q.fn) h1
        exact s_forsL q.g.hK ho h2 q.po q.g.calm (walk_of hy (okE a q.g q.hs h3)) pg (okSs hf b q h5) (fold_of h4)
      · cases h
    · cases h
  | .app i e, st, W, X, sc, q, h => by
    unfold ckS at h
    split at h
    · simp only [Bool.and_eq_true, Bool.not_eq_true', decide_eq_true_eq] at h
      obtain ⟨⟨⟨⟨⟨⟨⟨⟨h0, h1⟩, h2⟩, h3⟩, h4⟩, h5⟩, h6⟩, h7⟩, h8⟩ := h
      subst h0
      exact s_app q.g.hK (by rw [q.g.own]; exact h5) (ps_expr (pe_bm PySem.F.plainAttrs_list PySem.F.slot_list_append PySem.F.type_list_append mt_append (pe_var (by rw [q.g.hN]; exact h2) (vis_of q.hs h3) (pl_of h4).1 (pl_of h4).2) (pa_cons (nb_of (okE e q.g q.hs h6) h7) pa_nil (star_of h8)) rfl (by
        rw [star_of h8]
        rfl) h1 (star_of h8) rfl) rfl)
    · cases h
  | .drop e, st, W, X, sc, q, h => by
    unfold ckS at h
    split at h
    · rw [Bool.and_eq_true] at h
      exact s_drop (okE e q.g q.hs h.1) (sw_none h.2)
    · cases h
  | .ret e, st, W, X, sc, q, h => by
    unfold ckS at h
    split at h
    · rename_i v p
      have own : ∀ i, e = .var i → bor se e = true → ckE se sc e v = true → PS X (.Return (some v) p) (TSr c W f (.ret e)) := fun i ei hb h => by
        subst ei
        have h1 : ckVar se sc i v = true := by rw [← ckE_var]; exact h
        unfold ckVar at h1
        split at h1
        · simp only [Bool.and_eq_true, decide_eq_true_eq] at h1
          exact s_retOwn (by rw [q.g.own]; exact hb) (pe_var (by rw [q.g.hN]; exact h1.1.1) (vis_of q.hs h1.1.2) (pl_of h1.2).1 (pl_of h1.2).2)
        · cases h1
      split at h
      · rename_i hfr
        rw [Bool.or_eq_true] at h
        rcases h with h | h
        · exact s_retO (hf.trans hfr) (okF e q.g q.hs h)
        · rw [Bool.and_eq_true] at h
          cases e with
          | var i => exact own i rfl h.2 h.1
          | lit d =>
            have hd : isBoxD d = false := by
              have := h.2
              unfold retB at this
              simpa using this
            exact s_retV (nb_of (okE (.lit d) q.g q.hs h.1) rfl) fun ρ m d' m' e => by
              rw [evE] at e
              cases e
              exact hd
          | _ => exact absurd h.2 (by simp [retB])
      · rename_i hfr
        have hfr' : f.fr = false := by rw [hf]; exact Bool.eq_false_iff.mpr hfr
        rw [Bool.or_eq_true] at h
        rcases h with h | h
        case inr => exact ok_row q hfr' h
        rw [Bool.and_eq_true] at h
        cases hb : bor se e with
        | false => exact s_ret hfr' (nb_of (okE e q.g q.hs h.1) hb)
        | true =>
          have h2 := h.2
          rw [hb] at h2
          cases e with
          | var i => exact own i rfl hb h.1
          | _ => cases h2
    · cases h
  | .retN, st, W, X, sc, q, h => by
    unfold ckS at h
    split at h
    · exact s_retN
    · cases h
  | .ifs e a b, st, W, X, sc, q, h => by
    unfold ckS at h
    split at h
    · simp only [Bool.and_eq_true] at h
      exact s_ifs (okT e q.g q.hs h.1.1) (okSs hf a q h.1.2) (okSs hf b q h.2)
    · cases h
  | .whl e b, st, W, X, sc, q, h => by
    unfold ckS at h
    split at h
    · simp only [Bool.and_eq_true] at h
      exact s_whl q.po (okT e q.g q.hs h.1) (okSs hf b q h.2)
    · cases h
  | .fors tg it b, st, W, X, sc, q, h => by
    unfold ckS at h
    split at h
    · simp only [Bool.and_eq_true, Bool.not_eq_true'] at h
      obtain ⟨⟨⟨⟨⟨h1, h2⟩, h2t⟩, h3⟩, h4⟩, h5⟩ := h
      obtain ⟨pg, ho⟩ := tg_of q.g q.hs (fnAll := true) (fun _ => q.fn) h1
      have hi := okI it (tg := _) (W := W) q.g q.hs h2 h2t
      simp only [h3] at hi
      exact s_fors q.g.hK ho q.po q.g.calm hi pg (okSs hf b q h5) (fold_of h4)
    · cases h
  | .rais k, st, W, X, sc, q, h => by
    unfold ckS at h
    split at h
    · simp only [Bool.and_eq_true, Bool.not_eq_true', decide_eq_true_eq, List.contains_iff_mem] at h
      obtain ⟨⟨⟨⟨h1, h2⟩, h3⟩, h4⟩, h5⟩ := h
      subst h1
      have hne : k ≠ 11 := by simpa using h5
      obtain ⟨C, B, nid, iid, bmB, e, FB, hq, hkp, hsb, hty⟩ := q.g.exf.rs k h4 hne
      have hm : X.mg (exName k) = some (.ref C) := by
        rcases q.g.exf.nm k h4 with ⟨_, hm⟩ | ⟨h11, _⟩
        · rw [← e]; exact hm
        · exact absurd h11 hne
      exact s_rais q.g.calm q.tk e (pmk_own FB hq hm hkp (raises_own hsb hty) (gl_of q.hs h2) (pl_of h3).1)
    · cases h
  | .tri b k sl s, st, W, X, sc, q, h => by
    unfold ckS at h
    split at h
    · rename_i i j i2 body x np n y py n2 pn2 ap hp' tp
      simp only [Bool.and_eq_true, Bool.not_eq_true', decide_eq_true_eq, List.contains_iff_mem, beq_iff_eq] at h
      obtain ⟨⟨⟨⟨⟨⟨⟨⟨⟨⟨⟨⟨⟨h1, h2⟩, h3⟩, h4⟩, h5⟩, h6⟩, h7⟩, h8⟩, h9⟩, h10⟩, h11⟩, h12⟩, h13⟩, h14⟩ := h
      subst h1 h4 h10
      have hln : X.env.scope.names.lookup n2 = some .local := lcl_of q.hs h3
      have nm : Names X (exName k) (c.cls k) := by
        refine ⟨gl_of q.hs h5, (pl_of h6).1, ?_⟩
        rcases q.g.exf.nm k h7 with ⟨_, hm⟩ | ⟨e1, e2, hm⟩
        · exact .inl hm
        · subst e1
          exact .inr ⟨hm, by rw [e2]; decide +kernel, by decide⟩
      exact s_tri_keep q.g.hK q.g.exf (by rw [q.g.own]; exact h12) (by rw [q.g.own]; exact h13) (ps_try_keep (tb := fun W' => TSsr c W' f b) q.st q.fr q.ex (nd_of q.g) (by rw [q.g.hN]; exact h2) hln nm q.tk
        (fun W' pn xe tk po => okSs hf b (q.tr tk po) h14)
        (fun a oe cls pn => pss_one (ps_imp (ps_set (X := X.suite a ((a, oe) :: pn)) (nd_of (X := X) q.g) (by show X.N[j]? = _; rw [q.g.hN]; exact h8) (loc_of (X := X) q.hs h9) (pe_var (X := X.suite a ((a, oe) :: pn)) (by show X.N[i2]? = _; rw [q.g.hN]; exact h2) (.inl hln) (pl_of h11).1 (pl_of h11).2) rfl (.inl (q.fn _))) fun Z σ H h => ⟨_, h.1, h.2⟩)))
    · rename_i body x np suite hp' tp
      simp only [Bool.and_eq_true, decide_eq_true_eq, List.contains_iff_mem] at h
      obtain ⟨⟨⟨⟨⟨h4, h5⟩, h6⟩, h7⟩, h8⟩, h14⟩ := h
      subst h4
      have nm : Names X (exName k) (c.cls k) := by
        refine ⟨gl_of q.hs h5, (pl_of h6).1, ?_⟩
        rcases q.g.exf.nm k h7 with ⟨_, hm⟩ | ⟨e1, e2, hm⟩
        · exact .inl hm
        · subst e1
          exact .inr ⟨hm, by rw [e2]; decide +kernel, by decide⟩
      obtain ⟨b0, suite, rfl⟩ : ∃ b0 r, suite = b0 :: r := by
        cases suite with
        | nil => unfold ckSu at h8; split at h8 <;> simp_all
        | cons b r => exact ⟨b, r, rfl⟩
      exact s_tri_only q.g.exf (ps_try_only (tb := fun W' => TSsr c W' f b) q.st q.fr nm q.tk
        (fun W' pn xe tk po => okSs hf b (q.tr tk po) h14)
        (fun a oe cls d pn _ _ => okSu hf q h8))
    · cases h
  | .fgt _, _, _, _, _, _, h => by simp [ckS] at h
  | .wall, st, W, X, sc, q, h => s_wall
  | .asgU l e, st, W, X, sc, q, h => by
    unfold ckS at h
    split at h
    · simp only [Bool.and_eq_true, Bool.not_eq_true'] at h
      have g := q.g
      obtain ⟨pg, ho⟩ := tg_of g q.hs (fnAll := true) (fun _ => q.fn) h.1.1
      exact s_asgU (fun i hi => ho i hi) (ps_asg (nb_of (okE e g q.hs h.1.2) h.2) pg (sws rfl) (sst_none rfl) rfl)
    · cases h
  | .asgX i tg it b, st, W, X, sc, q, h => by
    unfold ckS at h
    split at h
    · rename_i y py elt t iter a scope pos spos
      simp only [Bool.and_eq_true, Bool.not_eq_true', decide_eq_true_eq] at h
      obtain ⟨⟨⟨⟨⟨⟨⟨⟨⟨⟨⟨h0, hy⟩, hyl⟩, hyo⟩, hsw⟩, h1⟩, h2⟩, h2t⟩, h3⟩, h5⟩, h6⟩, h7⟩ := h
      subst h0
      refine s_asgX (bc := borI se it) q.g.hK (by rw [q.g.own]; exact hyo) (fun i hi => by rw [q.g.own]; exact tg_own h1 i hi) (ownOf_snd tg) q.g.calm q.tk q.st q.fr (nd_of q.g) (by rw [q.g.hN]; exact hy) (lcl_of q.hs hyl) (by rw [sw_eq q.hs q.kd, hsw]) (okI it q.g q.hs h2 h2t) (by rw [q.g.hN, q.hs]; exact blkOk_by h7)
        (fun s H C cl fp => ?_) (fun σ s H C cl fp hpa => ?_) (fold_of h3)
      · exact (tg_of (q.g.blkX (W' := fun _ _ _ _ => False) s H scope (compEnvC scope cl C X.env) fp fun σ' pins H s e s' I c => by
          obtain ⟨_, _, _, _, _, _, _, _, _, _, _, _, z⟩ := c
          exact z.elim) (by rw [← q.hs]; rfl) (fun q => by cases q) h1).1
      · exact nb_of (okE b (q.g.blkX s H scope (compEnvC scope cl C X.env) fp hpa) (by rw [← q.hs]; rfl) h5) h6
    · cases h
  | .pas, st, W, X, sc, q, h => by
    unfold ckS at h
    split at h
    · exact s_pas
    · cases h
theorem okSs {se : Se} {c : Cn} {n : Nat} {f : Fr} (hf : f.fr = se.fr) : ∀ (s : MP.Sts) {l : List Stmt} {W : WX} {X : Cx} {sc : Scope}, GS se c n W X sc → ckSs se sc s l = true → PSs X l (TSsr c W f s)
  | .nil, l, W, X, sc, q, h => by
    unfold ckSs at h
    split at h
    · exact s_snil
    · cases h
  | .cons s r, l, W, X, sc, q, h => by
    unfold ckSs at h
    split at h
    · rename_i hs
      cases s with
      | fgt v => exact s_fgt (okSs hf r q h)
      | _ => cases hs
    · split at h
      · rw [Bool.and_eq_true] at h
        exact s_scons (okS hf s q h.1) (okSs hf r q h.2)
      · cases h
end
end MP
set_option maxRecDepth 100000
set_option maxHeartbeats 8000000
set_option autoImplicit false
namespace MP
open PySem L2
structure Df where
  name : Str
  qual : Str
  st : Stmt
  N : List Str
  ps : List Str
  own : List Nat
  ir : Fn
  /-- is its gift new -/
  fr : Bool
  dv : List D
def fnB (FN : List (Nat × Str × Nat)) (GC : List (Str × D)) (EX FR : List Nat) (DV : List (Nat × List D)) (d : Df) : Bool :=
  (match (defScope d.st).kind with | .function => true | _ => false) && !(defScope d.st).isCoroutine && !(defScope d.st).isGenerator && decide d.N.Nodup && decide (d.N.take d.ps.length = d.ps)
  && (d.ps.all fun x => locB (defScope d.st) x) && ((defScope d.st).names.all fun y => match y.2 with | .free => false | _ => true)
  && (d.ir.par == d.ps.length) && (d.ir.slots == d.N.length) && (d.own.all fun i => decide (d.ps.length ≤ i))
  && ckSs ⟨d.N, d.own, FN, GC, EX, FR, DV, d.fr, decide (d.name = "leaf_of")⟩ (defScope d.st) d.ir.body (defBody d.st)
theorem fnB_scope {FN : List (Nat × Str × Nat)} {GC : List (Str × D)} {EX FR : List Nat} {DV : List (Nat × List D)} {d : Df} (h : fnB FN GC EX FR DV d = true) : FnScope d.N d.ps (defScope d.st) := by
  unfold fnB at h
  simp only [Bool.and_eq_true, Bool.not_eq_true', decide_eq_true_eq, List.all_eq_true] at h
  obtain ⟨⟨⟨⟨⟨⟨⟨⟨⟨⟨h1, h2⟩, h3⟩, h4⟩, h5⟩, h6⟩, h7⟩, _⟩, _⟩, _⟩, _⟩ := h
  refine ⟨?_, h2, h3, h4, h5, fun x hx => ?_, fun y hy q => ?_⟩
  · split at h1
    · assumption
    · cases h1
  · have := h6 x hx
    unfold locB at this
    split at this
    · exact .inl (by assumption)
    · exact .inr (by assumption)
    · cases this
  · have := h7 y hy
    rw [q] at this
    cases this
structure FunG (K : PySem.W.Frag) (x qual : Str) (st : Stmt) (f : Addr) (fd : FuncData) : Prop where
  ex : ∃ (oc : Value) (od : Option Addr) (dV kV doc pm : Value) (an : Option Addr) (cdv ct : Value) (osl : Array (Option Value)),
    fd = PySem.W.fnOf x qual (defArgs st) (defBody st) (defScope st) dV kV doc pm an cdv ct ∧ K.lookup f = some ⟨oc, od, .func fd, osl⟩ ∧ PySem.W.codeIn K cdv qual = true
  kp : PySem.W.keepIn K (.ref f) = true
theorem _root_.L2.Fun.g {K : PySem.W.Frag} {x qual : Str} {st : Stmt} {f : Addr} {fd : FuncData} (F : Fun K x qual st f fd) : FunG K x qual st f fd := by
  obtain ⟨oc, od, kV, doc, pm, an, cdv, ct, osl, h⟩ := F.ex
  exact ⟨⟨oc, od, .none, kV, doc, pm, an, cdv, ct, osl, h⟩, F.kp⟩
structure Hd (T : List (Nat × Df)) (GC : List (Str × D)) (EX : List Nat) (cls : Nat → Value) (sub : Nat → Nat → Option Bool) (FA : Nat → Addr) (FD : Nat → FuncData) (K : PySem.W.Frag) (mg : Str → Option Value) : Prop where
  fs : ∀ (k : Nat) (d : Df), (k, d) ∈ T → (k < 1000000 → mg d.name = some (.ref (FA k))) ∧ FunG K d.name d.qual d.st (FA k) (FD k) ∧ Binds K (FD k) d.ps [] ∧ ∃ dvs us, Binds K (FD k) d.ps us ∧ Dv K d.dv dvs us
  ms : ∀ (c nm : Nat) (d : Df), nm < 1000 → (mnum c nm, d) ∈ T → ∃ C, ClsA K c C ∧ mg (clName c) = some (.ref C) ∧ Cls K C ∧ Meth K C (mName nm) (FA (mnum c nm)) ∧ (nm = 0 → Mk K C (FA (mnum c nm)))
  obs : ObF K
  bi : ∀ b : BI, mg (biName b) = none
  ty : ∀ t : Ty, mg (tyName t) = none
  isi : mg "isinstance" = none
  rng : mg "range" = none
  zp : mg "zip" = none
  en : mg "enumerate" = none
  rv : mg "reversed" = none
  gc : ∀ (nm : Str) (d : D), (nm, d) ∈ GC → ∃ v u, mg nm = some u ∧ RelV v u ∧ ∀ (A : Nat → Option Addr) (H : Hp), Rep K A H v d
  exf : ExFacts EX K mg cls sub
  lam : ∀ (k : Nat) (d : Df), (k, d) ∈ T → d.name = "leaf_of" → d.qual = "leaf_of" ∧ ∃ cA P, PySem.W.tabIn K "leaf_of" = some (cA, P) ∧ (FD k).code = .ref cA
def fnsOf (T : List (Nat × Df)) : List (Nat × Str × Nat) := T.map fun p => (p.1, p.2.name, p.2.ps.length)
def frsOf (T : List (Nat × Df)) : List Nat := (T.filter fun p => p.2.fr).map (·.1)
def dvsOf (T : List (Nat × Df)) : List (Nat × List D) := T.map fun p => (p.1, p.2.dv)
theorem lookup_mem {α : Type} {j : Nat} {x : α} : ∀ l : List (Nat × α), l.lookup j = some x → (j, x) ∈ l
  | [], h => by cases h
  | (i, y) :: l, h => by
    rw [List.lookup] at h
    split at h
    · rename_i e
      cases h
      rw [eq_of_beq e]
      exact List.mem_cons_self
    · exact List.mem_cons_of_mem _ (lookup_mem l h)
theorem key_uniq {T : List (Nat × Df)} (h : (T.map (·.1)).Nodup) {k : Nat} {d d' : Df} (h1 : (k, d) ∈ T) (h2 : (k, d') ∈ T) : d = d' := by
  induction T with
  | nil => cases h1
  | cons p T ih =>
    rw [List.map_cons, List.nodup_cons] at h
    rcases List.mem_cons.mp h1 with e1 | e1
    · rcases List.mem_cons.mp h2 with e2 | e2
      · rw [← e1] at e2; cases e2; rfl
      · exact (h.1 (by rw [← e1]; exact List.mem_map.mpr ⟨_, e2, rfl⟩)).elim
    · rcases List.mem_cons.mp h2 with e2 | e2
      · exact (h.1 (by rw [← e2]; exact List.mem_map.mpr ⟨_, e1, rfl⟩)).elim
      · exact ih h.2 e1 e2
theorem frs_of {T : List (Nat × Df)} (h : (T.map (·.1)).Nodup) {k : Nat} {d : Df} (h1 : (k, d) ∈ T) : (frsOf T).contains k = d.fr := by
  cases hf : d.fr with
  | true =>
    rw [List.contains_iff_mem]
    exact List.mem_map.mpr ⟨(k, d), List.mem_filter.mpr ⟨h1, hf⟩, rfl⟩
  | false =>
    rw [Bool.eq_false_iff]
    intro q
    obtain ⟨⟨k', d'⟩, h2, h3⟩ := List.mem_map.mp (List.contains_iff_mem.mp q)
    obtain ⟨h4, h5⟩ := List.mem_filter.mp h2
    cases h3
    rw [key_uniq h h1 h4, h5] at hf
    cases hf
theorem sameDv_eq : ∀ {a b : List D}, sameDv a b = true → a = b
  | [], [], _ => rfl
  | [], _ :: _, h => by rw [sameDv] at h <;> first | (cases h; done) | simp
  | _ :: _, [], h => by rw [sameDv] at h <;> first | (cases h; done) | simp
  | d :: l, e :: r, h => by
    rw [sameDv, Bool.and_eq_true, Bool.or_eq_true, Bool.and_eq_true] at h
    have e1 : d = e := by
      rcases h.1 with ⟨h1, h2⟩ | h1
      · cases d <;> first | (cases h1; done) | (cases e <;> first | rfl | (cases h2; done))
      · exact same_of h1
    rw [e1, sameDv_eq h.2]
theorem start_get {ds : List D} {vs : List V} {n : Nat} {i : Nat} {d : D} (h : (ds.map some ++ List.replicate n none)[i]? = some (some d)) : ds[i]? = some d := by
  by_cases hi : i < ds.length
  · rw [List.getElem?_append_left (by rw [List.length_map]; exact hi), List.getElem?_map] at h
    cases q : ds[i]? with
    | none => rw [q] at h; cases h
    | some e => rw [q] at h; cases h; rfl
  · rw [List.getElem?_append_right (by rw [List.length_map]; omega)] at h
    have := List.mem_of_getElem? h
    rw [List.mem_replicate] at this
    cases this.2
section
variable {P : Program} {w : World} {K : PySem.W.Frag} {mg : Str → Option Value} {base : Heap} {T : List (Nat × Df)} {M : Nat → Option Fn} {GC : List (Str × D)} {EX : List Nat} {FA : Nat → Addr} {FD : Nat → FuncData} {cls : Nat → Value} {sub : Nat → Nat → Option Bool}
theorem sp_len {ps : List Str} {g : List D → Mu → Res D} {vs : List V} {H : Hp} {Q : VK} {E : XK} {fr : Bool} (h : spD K cls fr ps.length g vs H Q E) : vs.length = ps.length := by
  obtain ⟨G, L, m, ds, _, _, r, hl, _⟩ := h
  rw [r.length, hl]
theorem okXc {x qual : Str} {st : Stmt} {f : Addr} {fd : FuncData} {N ps : List Str} {k : Nat} {sp : Sp} (F : FunG K x qual st f fd) (S : FnScope N ps (defScope st)) (len : ∀ vs H Q E, sp vs H Q E → vs.length = ps.length)
    (B : ∀ cdv : Value, fd.code = cdv → ∀ (A : Around) (outer : List Env) (s : Shared) (H : Hp) (vs : List V) (Q : VK) (E : XK), Room k (A.deeper (PyProof.Rows.envOfC qual (defScope st) s.heap.objs.size f cdv)) → sp vs H Q E →
      ∃ t, PSs (cxOf (L2.CX P w) P w K mg base N qual (defScope st) f cdv A outer s H E) (defBody st) t ∧ t { nx := fun _ H' => Q .non H', rt := Q } (L2.start N vs) H) : FnOk P w K mg base (L2.CX P w) (k + 1) f fd ps sp := by
  rcases F.ex with ⟨_, _, _, _, _, _, _, cdv, _, _, rfl, lk, hcd⟩
  exact fn_of lk hcd S len (B cdv rfl)
theorem fn_ok (HD : Hd T GC EX cls sub FA FD K mg) (TB : ∀ cA Pt, PySem.W.tabIn K "leaf_of" = some (cA, Pt) → (∃ (j : Nat) (e : Df), (j, e) ∈ T ∧ e.name = "leaf_of") → LamX.TabB base mg cA Pt) (hM : ∀ (k : Nat) (d : Df), (k, d) ∈ T → M k = some d.ir) (hnd : (T.map (·.1)).Nodup) (hT : (T.all fun p => fnB (fnsOf T) GC EX (frsOf T) (dvsOf T) p.2) = true) : ∀ (n k : Nat) (d : Df), (k, d) ∈ T → FnOk P w K mg base (L2.CX P w) (2 * n) (FA k) (FD k) d.ps (spD K cls d.fr d.ps.length (callF M sub n k)) := by
  intro n
  induction n with
  | zero =>
    intro k d hk
    refine ⟨fun vs H Q E h => sp_len h, fun A outer s H args us vs Q E hr he hb hv h => ?_⟩
    obtain ⟨G, L, m, ds, _, _, _, _, h⟩ := h
    exact (show False from h).elim
  | succ n ih =>
    intro k d hk
    have hd : fnB (fnsOf T) GC EX (frsOf T) (dvsOf T) d = true := List.all_eq_true.mp hT (k, d) hk
    have S := fnB_scope hd
    obtain ⟨hm, F, hb, _⟩ := HD.fs k d hk
    have hd2 := hd
    unfold fnB at hd2
    simp only [Bool.and_eq_true, beq_iff_eq, List.all_eq_true, decide_eq_true_eq] at hd2
    obtain ⟨⟨⟨⟨_, hp⟩, hs⟩, ho⟩, hck⟩ := hd2
    show FnOk P w K mg base (L2.CX P w) (2 * n + 1 + 1) (FA k) (FD k) d.ps _
    refine okXc F S (fun vs H Q E h => sp_len h) fun cdv hcode A outer s H vs Q E hr h => ?_
    obtain ⟨G, L, m, ds, gok, sok, rr, hl, h⟩ := h
    have hfk : M k = some d.ir := hM k d hk
    have hcall : callF M sub (n + 1) k ds m = (evSs ⟨callF M sub n, sub⟩ d.ir.body (ds.map some ++ List.replicate (d.ir.slots - d.ir.par) none) m).res := by
      rw [callF, hfk]
      show (if ds.length = d.ir.par then _ else _) = _
      rw [if_pos (by rw [hl, hp])]
    rw [hcall] at h
    let se : Se := ⟨d.N, d.own, fnsOf T, GC, EX, frsOf T, dvsOf T, d.fr, decide (d.name = "leaf_of")⟩
    let c : Cn := ⟨K, ⟨callF M sub n, sub⟩, se.ow, cls⟩
    let f : Fr := ⟨G, L, H, d.fr⟩
    have dvq : ∀ (j : Nat) (e : Df), (j, e) ∈ T → ∀ dv, dvB se j dv = true → ∃ dvs us, Binds K (FD j) e.ps us ∧ Dv K dv dvs us := fun j e q dv hv => by
      obtain ⟨_, _, a3, a4⟩ := HD.fs j e q
      cases dv with
      | nil => exact ⟨[], [], a3, .nil⟩
      | cons x dv =>
        unfold dvB at hv
        dsimp only at hv
        split at hv
        · rename_i dv' hl
          obtain ⟨⟨j', e'⟩, he, he2⟩ := List.mem_map.mp (lookup_mem _ hl)
          cases he2
          have := key_uniq hnd he q
          subst this
          rw [sameDv_eq hv]
          exact a4
        · cases hv
    have good : GS se c (2 * n) (fun cls d _ H => E cls d H) (cxOf (L2.CX P w) P w K mg base d.N d.qual (defScope d.st) (FA k) cdv A outer s H E) (defScope d.st) := by
      refine ⟨⟨rfl, rfl, rfl, S.nd, fun _ => rfl, hr, HD.bi, HD.ty, HD.isi, HD.rng, HD.zp, HD.en, HD.rv, fun σ => passAt (takes_of rfl rfl rfl rfl) σ, fun j nm par hj hlk => ?_, fun j nm par hnm hpb => ?_, HD.obs, HD.gc, HD.exf⟩, rfl, fun _ => rfl, passes_of rfl, S.kind, rfl, rfl, rfl, takes_of rfl rfl rfl rfl, fun hl => ?_⟩
      · obtain ⟨⟨j', e⟩, he, he2⟩ := List.mem_map.mp (lookup_mem _ hlk)
        cases he2
        have q : (j', e) ∈ T := he
        obtain ⟨a1, a2, a3, a4⟩ := HD.fs j' e q
        refine ⟨FA j', FD j', e.ps, a1 hj, a2.kp, a3, ?_, dvq j' e q⟩
        show FnOk P w K mg base (L2.CX P w) (2 * n) (FA j') (FD j') e.ps (spD K cls ((frsOf T).contains j') e.ps.length (callF M sub n j'))
        rw [frs_of hnd q]
        exact ih j' e q
      · unfold parB at hpb
        split at hpb
        · rename_i x par' hlk
          obtain ⟨⟨j', e⟩, he, he2⟩ := List.mem_map.mp (lookup_mem _ hlk)
          cases he2
          have q : (mnum j nm, e) ∈ T := he
          obtain ⟨a1, a2, a3, a4⟩ := HD.fs _ e q
          obtain ⟨C, b1, b2, b3, b4, b5⟩ := HD.ms j nm e hnm q
          refine ⟨C, FA (mnum j nm), FD (mnum j nm), e.ps, b1, b2, b3, b4, b5, ?_, a3, dvq _ e q⟩
          rw [← eq_of_beq hpb]
          show FnOk P w K mg base (L2.CX P w) (2 * n) _ _ e.ps (spD K cls ((frsOf T).contains (mnum j nm)) e.ps.length (callF M sub n (mnum j nm)))
          rw [frs_of hnd q]
          exact ih _ e q
        · cases hpb
      · obtain ⟨q1, cA, Pt, q2, q3⟩ := HD.lam k d hk (of_decide_eq_true hl)
        refine ⟨cA, Pt, ⟨cA, q2⟩, hcode.symm.trans q3, TB cA Pt q2 ⟨k, d, hk, of_decide_eq_true hl⟩, ?_⟩
        show (d.qual ++ ".<locals>.") ++ "<lambda>" = lamQ
        rw [q1]
        rfl
    refine ⟨_, okSs (f := f) rfl d.ir.body good hck, ?_⟩
    have noown : ∀ (i : Nat) (e : D), c.own i = true → (ds.map some ++ List.replicate (d.ir.slots - d.ir.par) none)[i]? ≠ some (some e) := fun i e h1 h2 => by
      have h3 := start_get (vs := vs) h2
      have h4 : i < ds.length := (List.getElem?_eq_some_iff.mp h3).1
      have h5 : d.ps.length ≤ i := ho i (by have : d.own.contains i = true := h1; exact List.contains_iff_mem.mp this)
      omega
    have eG : OG G c.own (ds.map some ++ List.replicate (d.ir.slots - d.ir.par) none) (L2.start d.N vs) = G := by
      funext a
      apply propext
      refine ⟨fun q => ?_, .inl⟩
      rcases q with q | ⟨i, e, h1, h2, _⟩
      · exact q
      · exact (noown i e h1 h2).elim
    have O : FO c f L m (ds.map some ++ List.replicate (d.ir.slots - d.ir.par) none) (L2.start d.N vs) H := by
      refine ⟨?_, Stp.refl _ _, fun i e a h1 h2 _ => (noown i e h1 h2).elim, fun i j e _ a h1 _ h2 _ _ _ => (noown i e h1 h2).elim, fun a ha => (gok a ha).1⟩
      show ESt K c.own (OG G c.own _ _) L m _ _ H
      rw [eG]
      refine ⟨gok, sok, ?_, fun i e hi => ?_⟩
      · unfold L2.start
        rw [List.length_append, List.length_append, List.length_map, List.length_map, List.length_replicate, List.length_replicate, rr.length, hs, hp, hl]
      · have h3 := start_get (vs := vs) hi
        obtain ⟨v, hv, rv⟩ := rr.get h3
        refine ⟨v, ?_, fun _ => rv, fun q => (noown i e q hi).elim⟩
        unfold L2.start
        rw [List.getElem?_append_left (by rw [List.length_map]; exact (List.getElem?_eq_some_iff.mp hv).1), List.getElem?_map, hv]
        rfl
    refine ⟨L, m, _, O, ?_⟩
    revert h
    show (match (evSs c.cfg d.ir.body (ds.map some ++ List.replicate (d.ir.slots - d.ir.par) none) m).res with
      | .ok e m' => ∀ v H' L', Stp L L' H H' → OutQ K d.fr G H L' m' H' e v → Q v H'
      | .err k m' => ∀ H' L', Stp L L' H H' → SOk K G L' m' H' → E (cls k) none H'
      | .stuck => False) → _
    cases evSs c.cfg d.ir.body (ds.map some ++ List.replicate (d.ir.slots - d.ir.par) none) m with
    | nxt ρ' m' => exact fun h σ' H' L' O' _ => h .non H' L' O'.ent (.of (.inr rfl) O'.sok .non)
    | ret e m' => exact fun h v H' L' s1 _ o => h v H' L' s1 o
    | err j ρ' m' => exact fun h σ' H' L' O' _ => h H' L' O'.ent O'.sok
    | stuck => exact fun h => h
end
end MP
set_option maxRecDepth 100000
set_option maxHeartbeats 8000000
set_option autoImplicit false
namespace MP
open PySem L2
def spScr (K : PySem.W.Frag) : Sp := fun vs H Q _ => ∃ (a : Addr) (ns : List Int), vs = [.ref a] ∧ SqL K H a (ns.map V.int) ∧ ns.length ≤ 63 ∧ ∀ H', Q (.bl true) H'
theorem reps_ints {K : PySem.W.Frag} {A : Nat → Option Addr} {H : Hp} : ∀ ns : List Int, Reps K A H (ns.map V.int) (ns.map D.int)
  | [] => .nil
  | n :: r => .cons (.int n) (reps_ints r)
theorem sok_nil {K : PySem.W.Frag} {G : Addr → Prop} {H : Hp} : SOk K G [] [] H where
  len := rfl
  nd := .nil
  dis := fun a q => by cases q
  ok := fun j x i h => by simp at h
theorem scr_ok {P : Program} {w : World} {K : PySem.W.Frag} {mg : Str → Option Value} {base : Heap} {CX : CXT} {n : Nat} {f : Addr} {fd : FuncData} {ps : List Str} {cls : Nat → Value} {fr : Bool} {g : List D → Mu → Res D}
    (hp : ps.length = 1) (F : FnOk P w K mg base CX n f fd ps (spD K cls fr ps.length g)) (h : ∀ ns : List Int, ns.length ≤ 63 → ∃ m, g [.lst (ns.map D.int)] [] = .ok (.bl true) m) : FnOk P w K mg base CX n f fd ps (spScr K) := F.imp fun vs H Q E ⟨a, ns, e, hS, hl, q⟩ => by
  subst e
  obtain ⟨m, hm⟩ := h ns hl
  have nB : ∀ b, ¬ Bd (fun _ => False) [] b := fun b z => by
    rcases z with z | z
    · exact z
    · cases z
  have sm : Same H (hide (Bd (fun _ => False) []) H) := fun b o e => hide_of (nB b) e
  refine ⟨fun _ => False, [], [], [.lst (ns.map D.int)], fun a z => z.elim, sok_nil, .cons (.lst (Same.sqL sm hS) (reps_ints ns) (by rw [List.length_map]; exact Nat.le_trans hl (by decide))) .nil, by rw [hp]; rfl, ?_⟩
  rw [hm]
  intro v H' L' _ o
  have r := o.weak.2
  cases r
  exact q H'
theorem cx_none {P : Program} {w : World} {H : Hp} {s : Shared} {e : Value} {s' : Shared} (h : L2.CX P w [] H s (fun _ _ _ => False) e s') : False := by
  obtain ⟨_, _, _, _, _, _, _, _, _, _, _, _, z⟩ := h
  exact z
def bnames : List Str := ["len", "sum", "sorted", "min", "max", "all", "any", "list", "tuple", "str", "int", "dict", "bool", "isinstance", "range", "zip", "enumerate", "reversed", "divmod"]
theorem bi_of {mg : Str → Option Value} (h : ∀ x ∈ bnames, mg x = none) : (∀ b : BI, mg (biName b) = none) ∧ (∀ t : Ty, mg (tyName t) = none) ∧ mg "isinstance" = none ∧ mg "range" = none ∧ mg "zip" = none ∧ mg "enumerate" = none ∧ mg "reversed" = none := by
  refine ⟨fun b => h _ ?_, fun t => h _ ?_, h _ ?_, h _ ?_, h _ ?_, h _ ?_, h _ ?_⟩
  · cases b <;> decide +kernel
  · cases t <;> decide +kernel
  all_goals decide +kernel
end MP
set_option maxRecDepth 100000
set_option maxHeartbeats 8000000
set_option autoImplicit false
namespace MP
open PySem L2
theorem dr_i (m : Mu) (i : Int) : dr m (.int i) = .int i := rfl
theorem dr_s (m : Mu) (s : List Nat) : dr m (.str s) = .str s := rfl
theorem dr_l (m : Mu) (l : List D) : dr m (.lst l) = .lst l := rfl
theorem dr_t (m : Mu) (l : List D) : dr m (.tup l) = .tup l := rfl
theorem dr_b (m : Mu) (b : Bool) : dr m (.bl b) = .bl b := rfl
theorem dr_n (m : Mu) : dr m .non = .non := rfl
theorem dr_d (m : Mu) (l : List (D × D)) : dr m (.dic l) = .dic l := rfl
theorem dr_x (m : Mu) (c : Nat) : dr m (.exc c) = .exc c := rfl
theorem drs_n (m : Mu) : drs m [] = [] := rfl
theorem drs_c (m : Mu) (d : D) (l : List D) : drs m (d :: l) = dr m d :: drs m l := rfl
theorem wB_small {j : Int} (h : j.natAbs < 2 ^ 64) (i : Int) : mulOk i j = true := by
  unfold mulOk
  rw [decide_eq_true h, Bool.or_true, Bool.true_or]
theorem wB_small2 {i : Int} (h : i.natAbs < 2 ^ 64) (j : Int) : mulOk i j = true := by
  unfold mulOk
  rw [decide_eq_true h, Bool.true_or, Bool.true_or]
theorem log_small {n : Nat} (h : n < 2 ^ 200) : n.log2 < 9000 := by
  by_cases hz : n = 0
  · subst hz
    decide
  · have := (Nat.log2_lt hz).mpr h
    omega
theorem b_add (i j : Int) : binD .add (.int i) (.int j) = some (.int (i + j)) := rfl
theorem b_sub (i j : Int) : binD .sub (.int i) (.int j) = some (.int (i - j)) := rfl
theorem b_mul {i j : Int} (h : j.natAbs < 2 ^ 64) : binD .mul (.int i) (.int j) = some (.int (i * j)) := by
  show (if mulOk i j = true then _ else _) = _
  rw [if_pos (wB_small h i)]
theorem b_mul2 {i j : Int} (h : i.natAbs < 2 ^ 64) : binD .mul (.int i) (.int j) = some (.int (i * j)) := by
  show (if mulOk i j = true then _ else _) = _
  rw [if_pos (wB_small2 h j)]
theorem b_div {i j : Int} (h : 0 < j) (h2 : j.natAbs < 2 ^ 200) : binD .fdiv (.int i) (.int j) = some (.int (i / j)) := by
  show (if 0 < j ∧ j.natAbs.log2 < 9000 then _ else _) = _
  rw [if_pos ⟨h, log_small h2⟩]
theorem b_mod {i j : Int} (h : 0 < j) : binD .mod (.int i) (.int j) = some (.int (i % j)) := by
  show (if 0 < j then _ else _) = _
  rw [if_pos h]
theorem i_place {α : Type} {l : List α} {i : Int} (h : 0 ≤ i) (h2 : i.toNat < l.length) : placeD l.length i = some i.toNat := by
  unfold placeD
  rw [if_pos h, if_pos (by omega)]
theorem i_lst {l : List D} {i : Int} (h : 0 ≤ i) (h2 : i.toNat < l.length) : idxD (.lst l) (.int i) = some l[i.toNat] := by
  show (placeD l.length i).bind _ = _
  rw [i_place h h2]
  show l[i.toNat]? = _
  rw [List.getElem?_eq_getElem h2]
theorem i_tup {l : List D} {i : Int} (h : 0 ≤ i) (h2 : i.toNat < l.length) : idxD (.tup l) (.int i) = some l[i.toNat] := by
  show (placeD l.length i).bind _ = _
  rw [i_place h h2]
  show l[i.toNat]? = _
  rw [List.getElem?_eq_getElem h2]
theorem flats_ints : ∀ ns : List Int, D.flats (ns.map D.int) = true
  | [] => rfl
  | n :: r => by
    rw [List.map_cons, D.flats, flats_ints r]
    rfl
theorem ne_nil (l : List D) (h : D.flats l = true) : cmpD .ne (.lst l) (.lst []) = some (!l.isEmpty) := by
  show (eqD (.lst l) (.lst [])).map (!·) = _
  unfold eqD
  rw [if_pos ⟨by simpa [D.flat] using h, by simp [D.flat, D.flats], .inr (by simp [D.dep, D.deps])⟩]
  cases l <;> rfl
theorem c_lt (i j : Int) : cmpD .lt (.int i) (.int j) = some (decide (i < j)) := rfl
theorem c_le (i j : Int) : cmpD .le (.int i) (.int j) = some (decide (i ≤ j)) := rfl
theorem c_gt (i j : Int) : cmpD .gt (.int i) (.int j) = some (decide (j < i)) := rfl
theorem c_ge (i j : Int) : cmpD .ge (.int i) (.int j) = some (decide (j ≤ i)) := rfl
theorem c_ltS (i j : List Nat) : cmpD .lt (.str i) (.str j) = some (ltS i j) := rfl
theorem c_leS (i j : List Nat) : cmpD .le (.str i) (.str j) = some (!ltS j i) := rfl
theorem c_gtS (i j : List Nat) : cmpD .gt (.str i) (.str j) = some (ltS j i) := rfl
theorem c_geS (i j : List Nat) : cmpD .ge (.str i) (.str j) = some (!ltS i j) := rfl
theorem t_bl (b : Bool) : truth (.bl b) = some b := rfl
theorem len_l (l : List D) : biD .len [.lst l] = some (.int l.length) := rfl
theorem len_t (l : List D) : biD .len [.tup l] = some (.int l.length) := rfl
theorem len_s (l : List Nat) : biD .len [.str l] = some (.int l.length) := rfl
theorem c_eqS (a b : List Nat) : cmpD .eq (.str a) (.str b) = some (decide (a = b)) := by
  show eqD (.str a) (.str b) = _
  unfold eqD
  rw [if_pos ⟨rfl, rfl, .inl (by simp [D.dep])⟩]
  congr 1
  show PyData.eqv (.str (S a)) (.str (S b)) = _
  by_cases h : a = b
  · subst h
    simp [PyData.eqv]
  · have : S a ≠ S b := fun q => h (by rw [← tl_S a, ← tl_S b, q])
    simp [PyData.eqv, h, this]
theorem c_eqI (a b : Int) : cmpD .eq (.int a) (.int b) = some (decide (a = b)) := by
  show eqD (.int a) (.int b) = _
  unfold eqD
  rw [if_pos ⟨rfl, rfl, .inl (by simp [D.dep])⟩]
  congr 1
theorem mod_small {i j : Int} (h : 0 < j) (h2 : j < 2 ^ 60) : (i % j).natAbs < 2 ^ 64 := by
  have h1 := Int.emod_nonneg i (show j ≠ 0 by omega)
  have h3 := Int.emod_lt_of_pos i h
  omega
def cellF (h : Int) : Int := h % 2147483647 * (h % 2147483647) % 2147483629
def cellE (k h more : Int) : Int := (cellF h * cellF h + 69621 * cellF h + k + more) % 2147483587
theorem cellE_lo (k h more : Int) : 0 ≤ cellE k h more := Int.emod_nonneg _ (by decide)
theorem cellE_hi (k h more : Int) : cellE k h more < 2147483587 := Int.emod_lt_of_pos _ (by decide)
def cellV (ns : List Int) (k : Int) : Int := match ns with
  | [] => cellE k (7919 * k + 11) 0
  | n :: r =>
    let x := ((n :: r)[(k % ((n :: r).length : Int)).toNat]?).getD 0
    let t := k / ((n :: r).length : Int)
    cellE k (x * 48271 + 104729 * k + t * 7919) (if 10 ^ 18 ≤ x then x / 10 ^ 18 % (1 + (t + 1) * 4014476939333036189094441199026045136645885247730) else 0)
theorem cellV_lo (ns : List Int) (k : Int) : 0 ≤ cellV ns k := by
  unfold cellV
  split <;> exact cellE_lo _ _ _
theorem cellV_hi (ns : List Int) (k : Int) : cellV ns k < 2147483587 := by
  unfold cellV
  split <;> exact cellE_hi _ _ _
theorem b_pow (i : Int) (n : Nat) (h : n ≤ 1000) (h2 : i.natAbs < 2 ^ 64) : binD .pow (.int i) (.int n) = some (.int (i ^ n)) := by
  show (if 0 ≤ (n : Int) ∧ (n : Int) ≤ 1000 ∧ i.natAbs < 2 ^ 64 then some (D.int (i ^ ((n : Int)).toNat)) else none) = _
  rw [if_pos ⟨by omega, by omega, h2⟩]
  rfl
theorem b_addS {a b : List Nat} (h : a.length + b.length ≤ sizeD) : binD .add (.str a) (.str b) = some (.str (a ++ b)) := by
  show (if _ then _ else _) = _
  rw [if_pos h]
theorem b_addL {a b : List D} (h : a.length + b.length ≤ sizeD) : binD .add (.lst a) (.lst b) = some (.lst (a ++ b)) := by
  show (if _ then _ else _) = _
  rw [if_pos h]
theorem b_mulS {a : List Nat} {k : Int} (h : 0 ≤ k) (h2 : k < 2 ^ 62) (h3 : a.length * k.toNat ≤ 10000) : binD .mul (.str a) (.int k) = some (.str ((List.replicate k.toNat a).flatten)) := by
  show (if _ then _ else _) = _
  rw [if_pos ⟨h, h2, h3⟩]
theorem flats_strs : ∀ ns : List (List Nat), D.flats (ns.map D.str) = true
  | [] => rfl
  | n :: r => by
    rw [List.map_cons, D.flats, flats_strs r]
    rfl
theorem eqv_str (a b : List Nat) : PyData.eqv (D.str a).toPy (D.str b).toPy = decide (a = b) := by
  show PyData.eqv (.str (S a)) (.str (S b)) = _
  by_cases h : a = b
  · subst h
    simp [PyData.eqv]
  · have : S a ≠ S b := fun q => h (by rw [← tl_S a, ← tl_S b, q])
    simp [PyData.eqv, h, this]
theorem endD_nat (l d n : Nat) : endD l d (some (n : Int)) = min n l := by
  show (if (n : Int) < 0 then ((n : Int) + (l : Int)).toNat else min ((n : Int)).toNat l) = _
  rw [if_neg (by omega), Int.toNat_natCast]
theorem str_n {i : Int} (h : 0 ≤ i) (h2 : i < 10 ^ 100) : biD .str [.int i] = some (.str (numS i.toNat)) := by
  show (if _ then _ else _) = _
  rw [if_pos ⟨h, h2⟩]
theorem rng1_ok {n : Int} (h0 : 0 ≤ n) (h : n ≤ 100000) : rng1D (.int n) = some (rngL 0 n.toNat) := by
  show (if _ then _ else _) = _
  rw [if_pos]
  unfold rngOk
  simp only [Bool.and_eq_true, decide_eq_true_eq]
  have : sizeD = 16777216 := rfl
  omega
end MP
set_option maxRecDepth 100000
set_option maxHeartbeats 8000000
set_option autoImplicit false
namespace MP
open PySem L2
def bad (x : Nat) : Prop := (49 ≤ x ∧ x ≤ 54) ∨ x = 56 ∨ x = 57
def badB (x : Nat) : Bool := decide (49 ≤ x ∧ x ≤ 54) || decide (x = 56 ∨ x = 57)
def fin (s : List Nat) : List Nat := s.reverse.takeWhile badB
def bl : List Nat := [1, 2, 3, 4, 5, 6, 8, 9, 11, 12, 13, 14, 15, 16, 18, 19, 21, 22, 23, 24, 25, 26, 28, 29]
structure CT (T : Int → List Nat) : Prop where
  len : ∀ c : Int, 0 ≤ c → (T c).length ≤ 101
  no : ∀ c : Int, 0 ≤ c → ∀ x ∈ T c, ¬ bad x
end MP
set_option maxRecDepth 100000
set_option maxHeartbeats 8000000
set_option autoImplicit false
namespace MP
open PySem L2
def leaf : D → Bool
  | .int _ | .str _ | .bl _ | .non => true
  | _ => false
inductive Nice : Nat → D → Prop
  | leaf (n : Nat) {d : D} : leaf d = true → Nice n d
  | tup {n : Nat} {l : List D} : l.length ≤ 1000 → (∀ d ∈ l, Nice n d) → Nice (n + 1) (.tup l)
  | lst {n : Nat} {l : List D} : l.length ≤ 1000 → (∀ d ∈ l, Nice n d) → Nice (n + 1) (.lst l)
theorem c_eqB (a b : Bool) : cmpD .eq (.bl a) (.bl b) = some (decide (a = b)) := by
  show eqD (.bl a) (.bl b) = _
  unfold eqD
  rw [if_pos ⟨rfl, rfl, .inl (by simp [D.dep])⟩]
  cases a <;> cases b <;> rfl
theorem c_neB (a b : Bool) : cmpD .ne (.bl a) (.bl b) = some (!decide (a = b)) := by
  show (cmpD .eq (.bl a) (.bl b)).map (!·) = _
  rw [c_eqB]
  rfl
theorem bls_true : ∀ n : Nat, blsOf (List.replicate n (D.bl true)) = some (List.replicate n true)
  | 0 => rfl
  | n + 1 => by
    rw [List.replicate_succ, blsOf, bls_true n]
    rfl
theorem all_true (n : Nat) : biD .all [.lst (List.replicate n (D.bl true))] = some (.bl true) := by
  show (blsOf _).map _ = _
  rw [bls_true]
  show some (D.bl ((List.replicate n true).all id)) = _
  rw [List.all_replicate]
  simp
end MP
set_option maxRecDepth 100000
set_option maxHeartbeats 8000000
set_option autoImplicit false
namespace MP
open PySem L2
theorem cut_nat {α : Type} (l : List α) (a b : Nat) : cutL l (min a l.length) (min b l.length) = (l.drop a).take (b - a) := by
  unfold cutL
  by_cases h : a ≤ l.length
  · rw [Nat.min_eq_left h]
    by_cases h2 : b ≤ l.length
    · rw [Nat.min_eq_left h2]
    · rw [Nat.min_eq_right (by omega), List.take_of_length_le (by rw [List.length_drop]; exact Nat.le_refl _), List.take_of_length_le (by rw [List.length_drop]; omega)]
  · have e : min a l.length = l.length := by omega
    rw [e, List.drop_of_length_le (Nat.le_refl l.length), List.drop_of_length_le (show l.length ≤ a by omega), List.take_nil, List.take_nil]
theorem cut_to {α : Type} (l : List α) (b : Nat) : cutL l 0 (min b l.length) = l.take b := by
  have := cut_nat l 0 b
  rw [Nat.zero_min, List.drop_zero, Nat.sub_zero] at this
  exact this
theorem cut_from {α : Type} (l : List α) (a : Nat) : cutL l (min a l.length) l.length = l.drop a := by
  have := cut_nat l a l.length
  rw [Nat.min_self] at this
  rw [this, List.take_of_length_le (by rw [List.length_drop]; exact Nat.le_refl _)]
theorem slTt (l : List D) (b : Nat) : slD (.tup l) none (some (b : Int)) = some (.tup (l.take b)) := by
  show some (D.tup (cutL l 0 (endD l.length l.length (some (b : Int))))) = _
  rw [endD_nat, cut_to]
theorem slTf (l : List D) (a : Nat) : slD (.tup l) (some (a : Int)) none = some (.tup (l.drop a)) := by
  show some (D.tup (cutL l (endD l.length 0 (some (a : Int))) l.length)) = _
  rw [endD_nat, cut_from]
theorem b_addT {a b : List D} (h : a.length + b.length ≤ sizeD) : binD .add (.tup a) (.tup b) = some (.tup (a ++ b)) := by
  show (if _ then _ else _) = _
  rw [if_pos h]
mutual
theorem eqv_me : ∀ d : D, d.flat = true → PyData.eqv d.toPy d.toPy = true
  | .non, _ => rfl
  | .bl b, _ => by cases b <;> rfl
  | .int i, _ => by show (i == i) = true; exact beq_self_eq_true i
  | .str s, _ => by rw [eqv_str, decide_eq_true rfl]
  | .tup l, h => eqv_mes l (by simpa [D.flat] using h)
  | .lst l, h => eqv_mes l (by simpa [D.flat] using h)
  | .dic _, h => by simp [D.flat] at h
  | .obj _, h => by simp [D.flat] at h
  | .exc _, h => by simp [D.flat] at h
theorem eqv_mes : ∀ l : List D, D.flats l = true → PyData.eqvAll (D.toPys l) (D.toPys l) = true
  | [], _ => rfl
  | d :: r, h => by
    simp only [D.flats, Bool.and_eq_true] at h
    show (PyData.eqv d.toPy d.toPy && PyData.eqvAll (D.toPys r) (D.toPys r)) = true
    rw [eqv_me d h.1, eqv_mes r h.2]
    rfl
end
theorem eq_me {d : D} (h : d.flat = true) (h2 : d.dep ≤ 64) : cmpD .eq d d = some true := by
  show eqD d d = _
  unfold eqD
  rw [if_pos ⟨h, h, .inl h2⟩, eqv_me d h]
end MP
set_option maxRecDepth 100000
set_option maxHeartbeats 8000000
set_option autoImplicit false
namespace MP
open PySem L2
inductive Lz {α : Type} (a : α) : Type where | mk
def bC {α : Type} (s : α) (o : Option Bool) (t e : α) (_ : Lz t) (_ : Lz e) : α := match o with
  | some true => t
  | some false => e
  | none => s
theorem bC_t {α : Type} {s t e : α} {z : Lz t} {y : Lz e} : bC s (some true) t e z y = t := rfl
theorem bC_f {α : Type} {s t e : α} {z : Lz t} {y : Lz e} : bC s (some false) t e z y = e := rfl
def bnd {α β : Type} (r : Res α) (f : α → Mu → Res β) (_ : Lz f) : Res β := r.bind f
theorem bnd_o {α β : Type} {a : α} {m : Mu} {f : α → Mu → Res β} {z : Lz f} : bnd (.ok a m) f z = f a m := rfl
theorem bnd_e {α β : Type} {c : Nat} {m : Mu} {f : α → Mu → Res β} {z : Lz f} : bnd (.err c m) f z = .err c m := rfl
def bfl {α : Type} (r : Res α) (ρ : Env') (f : α → Mu → Fl) (_ : Lz f) (_ : Lz ρ) : Fl := r.fl ρ f
theorem bfl_o {α : Type} {a : α} {m : Mu} {ρ : Env'} {f : α → Mu → Fl} {z : Lz f} {y : Lz ρ} : bfl (.ok a m) ρ f z y = f a m := rfl
theorem bfl_e {α : Type} {c : Nat} {m : Mu} {ρ : Env'} {f : α → Mu → Fl} {z : Lz f} {y : Lz ρ} : bfl (.err c m) ρ f z y = .err c ρ m := rfl
def sq (r : Fl) (f : Env' → Mu → Fl) (_ : Lz f) : Fl := match r with
  | .nxt ρ m => f ρ m
  | r => r
theorem sq_n {ρ : Env'} {m : Mu} {f : Env' → Mu → Fl} {z : Lz f} : sq (.nxt ρ m) f z = f ρ m := rfl
theorem sq_r {d : D} {m : Mu} {f : Env' → Mu → Fl} {z : Lz f} : sq (.ret d m) f z = .ret d m := rfl
theorem sq_e {c : Nat} {ρ : Env'} {m : Mu} {f : Env' → Mu → Fl} {z : Lz f} : sq (.err c ρ m) f z = .err c ρ m := rfl
theorem res_r {d : D} {m : Mu} : (Fl.ret d m).res = .ok d m := rfl
theorem res_n {ρ : Env'} {m : Mu} : (Fl.nxt ρ m).res = .ok .non m := rfl
theorem res_e {c : Nat} {ρ : Env'} {m : Mu} : (Fl.err c ρ m).res = .err c m := rfl
def forL (tg : Tgt) (b : Env' → Mu → Fl) (xs : List D) (ρ : Env') (m : Mu) (_ : Lz b) : Fl := forGo tg b xs ρ m
def whlL (c : Env' → Mu → Res Bool) (b : Env' → Mu → Fl) (n : Nat) (ρ : Env') (m : Mu) (_ : Lz b) (_ : Lz c) : Fl := whileGo c b n ρ m
def trnL (f : D → Mu → Res (Option D)) (xs : List D) (m : Mu) (_ : Lz f) : Res (List D) := turns f xs m
def getS (o : Option (Option D)) (m : Mu) : Res D := match o with
  | some (some d) => .ok d m
  | _ => .stuck
theorem getS_s {d : D} {m : Mu} : getS (some (some d)) m = .ok d m := rfl
section
variable {C : Cfg} {ρ : Env'} {m : Mu}
theorem v_var {i : Nat} : evE C (.var i) ρ m = getS ρ[i]? m := by rw [evE]; rfl
theorem v_lit {d : D} : evE C (.lit d) ρ m = .ok d m := by rw [evE]
theorem v_glob {x : Str} {d : D} : evE C (.glob x d) ρ m = .ok d m := by rw [evE]
theorem v_bin {o : BOp} {a b : E} : evE C (.bin o a b) ρ m = bnd (evE C a ρ m) (fun x m1 => bnd (evE C b ρ m1) (fun y m2 => .opt (binD o x y) m2) .mk) .mk := by rw [evE]; rfl
theorem v_cmp {o : COp} {a b : E} : evE C (.cmp o a b) ρ m = bnd (evE C a ρ m) (fun x m1 => bnd (evE C b ρ m1) (fun y m2 => .opt ((cmpD o (dr m2 x) (dr m2 y)).map D.bl) m2) .mk) .mk := by rw [evE]; rfl
def isNon : D → Bool
  | .non => true
  | _ => false
theorem v_isN {n : Bool} {a : E} : evE C (.isN n a) ρ m = bnd (evE C a ρ m) (fun x m1 => .ok (.bl (isNon x != n)) m1) .mk := by
  rw [evE]
  show Res.bind _ _ = Res.bind _ _
  refine congrArg _ (funext fun x => funext fun m1 => ?_)
  cases x <;> cases n <;> rfl
theorem bc_of {α : Type} {o : Option Bool} {s t e : α} : bC s o t e .mk .mk = (match o with | some true => t | some false => e | none => s) := rfl
theorem v_chain {o1 o2 : COp} {a b c : E} : evE C (.chain o1 o2 a b c) ρ m = bnd (evE C a ρ m) (fun x m1 => bnd (evE C b ρ m1) (fun y m2 => bC .stuck (cmpD o1 (dr m2 x) (dr m2 y)) (bnd (evE C c ρ m2) (fun z m3 => .opt ((cmpD o2 (dr m3 y) (dr m3 z)).map D.bl) m3) .mk) (.ok (.bl false) m2) .mk .mk) .mk) .mk := by
  rw [evE]
  show Res.bind _ _ = Res.bind _ _
  refine congrArg _ (funext fun x => funext fun m1 => ?_)
  show Res.bind _ _ = Res.bind _ _
  refine congrArg _ (funext fun y => funext fun m2 => ?_)
  cases cmpD o1 (dr m2 x) (dr m2 y) with
  | none => rfl
  | some b => cases b <;> rfl
theorem v_and {a b : E} : evE C (.and2 a b) ρ m = bnd (evE C a ρ m) (fun x m1 => bC .stuck (truth x) (evE C b ρ m1) (.ok x m1) .mk .mk) .mk := by
  rw [evE]
  show Res.bind _ _ = Res.bind _ _
  refine congrArg _ (funext fun x => funext fun m1 => ?_)
  cases truth x with
  | none => rfl
  | some b => cases b <;> rfl
theorem v_or {a b : E} : evE C (.or2 a b) ρ m = bnd (evE C a ρ m) (fun x m1 => bC .stuck (truth x) (.ok x m1) (evE C b ρ m1) .mk .mk) .mk := by
  rw [evE]
  show Res.bind _ _ = Res.bind _ _
  refine congrArg _ (funext fun x => funext fun m1 => ?_)
  cases truth x with
  | none => rfl
  | some b => cases b <;> rfl
theorem v_not {a : E} : evE C (.not1 a) ρ m = bnd (evE C a ρ m) (fun x m1 => .opt ((truth x).map fun b => .bl (!b)) m1) .mk := by rw [evE]; rfl
theorem v_ifx {c a b : E} : evE C (.ifx c a b) ρ m = bnd (evE C c ρ m) (fun x m1 => bC .stuck (truth x) (evE C a ρ m1) (evE C b ρ m1) .mk .mk) .mk := by
  rw [evE]
  show Res.bind _ _ = Res.bind _ _
  refine congrArg _ (funext fun x => funext fun m1 => ?_)
  cases truth x with
  | none => rfl
  | some b => cases b <;> rfl
theorem v_idx {a b : E} : evE C (.idx a b) ρ m = bnd (evE C a ρ m) (fun x m1 => bnd (evE C b ρ m1) (fun y m2 => .opt (idxD (dr m2 x) y) m2) .mk) .mk := by rw [evE]; rfl
theorem v_sl {a : E} {lo hi : OE} : evE C (.sl a lo hi) ρ m = bnd (evE C a ρ m) (fun x m1 => bnd (evP C lo ρ m1) (fun y m2 => bnd (evP C hi ρ m2) (fun z m3 => .opt (slD (dr m3 x) y z) m3) .mk) .mk) .mk := by rw [evE]; rfl
theorem v_slS {a : E} {lo : OE} {st : Int} : evE C (.slS a lo st) ρ m = bnd (evE C a ρ m) (fun x m1 => bnd (evP C lo ρ m1) (fun y m2 => .opt (slSD x y st) m2) .mk) .mk := by rw [evE]; rfl
theorem v_tup {l : Es} : evE C (.tup l) ρ m = bnd (evEs C l ρ m) (fun ds m1 => .ok (.tup ds) m1) .mk := by rw [evE]; rfl
theorem v_lst {l : Es} : evE C (.lst l) ρ m = bnd (evEs C l ρ m) (fun ds m1 => .ok (.lst ds) m1) .mk := by rw [evE]; rfl
theorem v_dic0 : evE C .dic0 ρ m = .ok (.dic []) m := by rw [evE]
def cT (C : Cfg) (tg : Tgt) (c : OE) (e : E) (ρ : Env') (x : D) (m2 : Mu) : Res (Option D) := match bindT tg x (wipeE ρ tg.slots) with
    | some ρ' => (evK C c ρ' m2).bind fun t m3 => if t = true then (evE C e ρ' m3).bind fun y m4 => .ok (some y) m4 else .ok none m3
    | none => .stuck
def cV (C : Cfg) (c : OE) (e : E) (o : Option Env') (m2 : Mu) : Res (Option D) := match o with
    | some ρ' => (evK C c ρ' m2).bind fun t m3 => if t = true then (evE C e ρ' m3).bind fun y m4 => .ok (some y) m4 else .ok none m3
    | none => .stuck
theorem v_comp {tg : Tgt} {it : I} {c : OE} {e : E} : evE C (.comp tg it c e) ρ m = bnd (evI C it ρ m) (fun xs m1 => bnd (trnL (cT C tg c e ρ) xs m1 .mk).calm (fun ys m5 => .ok (.lst ys) m5) .mk) .mk := by rw [evE]; rfl
theorem v_cT {tg : Tgt} {c : OE} {e : E} {x : D} {m2 : Mu} : cT C tg c e ρ x m2 = cV C c e (bindT tg x (wipeE ρ tg.slots)) m2 := rfl
theorem v_call {k : Nat} {l : Es} : evE C (.call k l) ρ m = bnd (evEs C l ρ m) (fun ds m1 => C.call k ds m1) .mk := by rw [evE]; rfl
theorem v_bi {b : BI} {l : Es} : evE C (.bi b l) ρ m = bnd (evEs C l ρ m) (fun ds m1 => .opt (biD b (drs m1 ds)) m1) .mk := by rw [evE]; rfl
theorem v_mth {o : MT} {r : E} {l : Es} : evE C (.mth o r l) ρ m = bnd (evE C r ρ m) (fun x m1 => bC .stuck (some (mtOn o x)) (bnd (evEs C l ρ m1) (fun ds m2 => .opt (mtD o x ds) m2) .mk) .stuck .mk .mk) .mk := by
  rw [evE]
  show Res.bind _ _ = Res.bind _ _
  refine congrArg _ (funext fun x => funext fun m1 => ?_)
  cases mtOn o x <;> rfl
theorem v_isxT {ks : List Nat} {e : E} : evE C (.isxT ks e) ρ m = bnd (evE C e ρ m) (fun x m1 => .opt (isxTD C.sub ks x) m1) .mk := by rw [evE]; rfl
theorem isxT_n {f : Nat → Nat → Option Bool} {ks : List Nat} : isxTD f ks .non = some (.bl false) := rfl
theorem isxT_x {f : Nat → Nat → Option Bool} {ks : List Nat} {c : Nat} : isxTD f ks (.exc c) = (anySub f c ks).map D.bl := rfl
theorem v_isi {ts : List Ty} {e : E} : evE C (.isi ts e) ρ m = bnd (evE C e ρ m) (fun x m1 => .opt ((clsD (dr m1 x)).map fun _ => .bl (ts.any fun t => tyD t (dr m1 x))) m1) .mk := by rw [evE]; rfl
theorem v_nil : evEs C .nil ρ m = .ok [] m := by rw [evEs]
theorem v_cons {a : E} {l : Es} : evEs C (.cons a l) ρ m = bnd (evE C a ρ m) (fun x m1 => bnd (evEs C l ρ m1) (fun xs m2 => .ok (x :: xs) m2) .mk) .mk := by rw [evEs]; rfl
theorem v_kno : evK C .no ρ m = .ok true m := by rw [evK]
theorem v_kyes {a : E} : evK C (.yes a) ρ m = bnd (evE C a ρ m) (fun x m1 => .opt (truth x) m1) .mk := by rw [evK]; rfl
def intP (x : D) (m : Mu) : Res (Option Int) := match x with
  | .int i => .ok (some i) m
  | _ => .stuck
theorem intP_i {i : Int} {m : Mu} : intP (.int i) m = .ok (some i) m := rfl
theorem v_pno : evP C .no ρ m = .ok none m := by rw [evP]
theorem v_pyes {a : E} : evP C (.yes a) ρ m = bnd (evE C a ρ m) (fun x m1 => intP x m1) .mk := by
  rw [evP]
  show Res.bind _ _ = Res.bind _ _
  refine congrArg _ (funext fun x => funext fun m1 => ?_); cases x <;> rfl
theorem v_ie {a : E} : evI C (.e a) ρ m = bnd (evE C a ρ m) (fun x m1 => .opt (iterD x) m1) .mk := by rw [evI]; rfl
theorem v_r1 {a : E} : evI C (.rng1 a) ρ m = bnd (evE C a ρ m) (fun x m1 => .opt (rng1D x) m1) .mk := by rw [evI]; rfl
theorem v_r2 {a b : E} : evI C (.rng2 a b) ρ m = bnd (evE C a ρ m) (fun x m1 => bnd (evE C b ρ m1) (fun y m2 => .opt (rng2D x y) m2) .mk) .mk := by rw [evI]; rfl
theorem v_r3 {a b c : E} : evI C (.rng3 a b c) ρ m = bnd (evE C a ρ m) (fun x m1 => bnd (evE C b ρ m1) (fun y m2 => bnd (evE C c ρ m2) (fun z m3 => .opt (rng3D x y z) m3) .mk) .mk) .mk := by rw [evI]; rfl
theorem v_rev {a : E} : evI C (.rev a) ρ m = bnd (evE C a ρ m) (fun x m1 => .opt (revD x) m1) .mk := by rw [evI]; rfl
theorem v_zip {a b : E} : evI C (.zip a b) ρ m = bnd (evE C a ρ m) (fun x m1 => bnd (evE C b ρ m1) (fun y m2 => .opt (zipD x y) m2) .mk) .mk := by rw [evI]; rfl
theorem v_enum {a : E} : evI C (.enum a) ρ m = bnd (evE C a ρ m) (fun x m1 => .opt (enumD x) m1) .mk := by rw [evI]; rfl
theorem v_T {e : E} : evT C e ρ m = bnd (evE C e ρ m) (fun x m1 => .opt (truth x) m1) .mk := rfl
def stO (o : Option Env') (m : Mu) : Fl := match o with
  | some ρ => .nxt ρ m
  | none => .stuck
theorem stO_s {ρ : Env'} {m : Mu} : stO (some ρ) m = .nxt ρ m := rfl
theorem w_asg {tg : Tgt} {e : E} : evS C (.asg tg e) ρ m = bfl (evE C e ρ m) ρ (fun x m1 => stO (bindT tg x ρ) m1) .mk .mk := by
  rw [evS]
  show Res.fl _ _ _ = Res.fl _ _ _
  refine congrArg _ (funext fun x => funext fun m1 => ?_)
  cases bindT tg x ρ <;> rfl
theorem w_asgU {l : List Nat} {e : E} : evS C (.asgU l e) ρ m = bfl (evE C e ρ m) ρ (fun x m1 => stO (bindT (.many l) (dr m1 x) ρ) m1) .mk .mk := by
  rw [evS]
  show Res.fl _ _ _ = Res.fl _ _ _
  refine congrArg _ (funext fun x => funext fun m1 => ?_)
  cases bindT (.many l) (dr m1 x) ρ <;> rfl
theorem w_own {i : Nat} {e : E} : evS C (.own i e) ρ m = bfl (evE C e ρ m) ρ (fun x m1 => bC .stuck (some (decide (i < ρ.length))) (.nxt (ρ.set i (some x)) m1) .stuck .mk .mk) .mk .mk := by
  rw [evS]
  show Res.fl _ _ _ = Res.fl _ _ _
  refine congrArg _ (funext fun x => funext fun m1 => ?_)
  by_cases h : i < ρ.length
  · rw [if_pos h, decide_eq_true h]; rfl
  · rw [if_neg h, decide_eq_false h]; rfl
def augS (C : Cfg) (i : Nat) (o : BOp) (e : E) (ρ : Env') (m : Mu) (x : D) : Fl := (evE C e ρ m).fl ρ fun y m1 => stO ((augD o x y).map fun z => ρ.set i (some z)) m1
theorem w_aug {i : Nat} {o : BOp} {e : E} : evS C (.aug i o e) ρ m = bfl (getS ρ[i]? m) ρ (fun x m1 => augS C i o e ρ m1 x) .mk .mk := by
  rw [evS]
  unfold getS
  cases h : ρ[i]? with
  | none => rfl
  | some d =>
    cases d with
    | none => rfl
    | some d =>
      show (evE C e ρ m).fl ρ _ = (evE C e ρ m).fl ρ fun y m1 => stO ((augD o d y).map fun z => ρ.set i (some z)) m1
      refine congrArg _ (funext fun y => funext fun m1 => ?_)
      cases augD o d y <;> rfl
theorem w_augS {i : Nat} {o : BOp} {e : E} {x : D} : augS C i o e ρ m x = bfl (evE C e ρ m) ρ (fun y m1 => stO ((augD o x y).map fun z => ρ.set i (some z)) m1) .mk .mk := rfl
def appS (C : Cfg) (i : Nat) (e : E) (ρ : Env') (m : Mu) (x : D) : Fl := match x with
  | .lst l => (evE C e ρ m).fl ρ fun x m1 => if l.length < sizeD then .nxt (ρ.set i (some (.lst (l ++ [x])))) m1 else .stuck
  | _ => .stuck
theorem w_app {i : Nat} {e : E} : evS C (.app i e) ρ m = bfl (getS ρ[i]? m) ρ (fun x m1 => appS C i e ρ m1 x) .mk .mk := by
  rw [evS]
  unfold getS
  cases h : ρ[i]? with
  | none => rfl
  | some d =>
    cases d with
    | none => rfl
    | some d => cases d <;> rfl
theorem w_appS {i : Nat} {e : E} {l : List D} : appS C i e ρ m (.lst l) = bfl (evE C e ρ m) ρ (fun x m1 => bC .stuck (some (decide (l.length < sizeD))) (.nxt (ρ.set i (some (.lst (l ++ [x])))) m1) .stuck .mk .mk) .mk .mk := by
  show Res.fl _ _ _ = Res.fl _ _ _
  refine congrArg _ (funext fun x => funext fun m1 => ?_)
  by_cases h : l.length < sizeD
  · rw [if_pos h, decide_eq_true h]; rfl
  · rw [if_neg h, decide_eq_false h]; rfl
theorem w_drop {e : E} : evS C (.drop e) ρ m = bfl (evE C e ρ m) ρ (fun _ m1 => .nxt ρ m1) .mk .mk := by rw [evS]; rfl
theorem w_ret {e : E} : evS C (.ret e) ρ m = bfl (evE C e ρ m) ρ (fun x m1 => .ret x m1) .mk .mk := by rw [evS]; rfl
theorem w_retN : evS C .retN ρ m = .ret .non m := by rw [evS]
theorem w_ifs {c : E} {a b : Sts} : evS C (.ifs c a b) ρ m = bfl (evT C c ρ m) ρ (fun t m1 => bC .stuck (some t) (evSs C a ρ m1) (evSs C b ρ m1) .mk .mk) .mk .mk := by
  rw [evS]
  show Res.fl _ _ _ = Res.fl _ _ _
  refine congrArg _ (funext fun t => funext fun m1 => ?_)
  cases t <;> rfl
theorem w_whl {c : E} {b : Sts} : evS C (.whl c b) ρ m = whlL (fun ρ m => evT C c ρ m) (fun ρ m => evSs C b ρ m) 100000 ρ m .mk .mk := by rw [evS]; rfl
theorem w_for {tg : Tgt} {it : I} {b : Sts} : evS C (.fors tg it b) ρ m = bfl (evI C it ρ m) ρ (fun xs m1 => forL tg (fun ρ m => evSs C b ρ m) xs ρ m1 .mk) .mk .mk := by rw [evS]; rfl
theorem w_rais {c : Nat} : evS C (.rais c) ρ m = .err c ρ m := by rw [evS]
theorem w_pas : evS C .pas ρ m = .nxt ρ m := by rw [evS]
theorem w_fgt {l : List Nat} : evS C (.fgt l) ρ m = .nxt (wipeE ρ l) m := by rw [evS]
theorem w_nil : evSs C .nil ρ m = .nxt ρ m := by rw [evSs]
theorem w_cons {a : St} {l : Sts} : evSs C (.cons a l) ρ m = sq (evS C a ρ m) (fun ρ1 m1 => evSs C l ρ1 m1) .mk := by
  rw [evSs]
  cases evS C a ρ m <;> rfl
end
theorem b_one {i : Nat} {d : D} {ρ : Env'} : bindT (.one i) d ρ = some (ρ.set i (some d)) := rfl
theorem b_two {i j : Nat} {a b : D} {ρ : Env'} : bindT (.many [i, j]) (.tup [a, b]) ρ = some ((ρ.set i (some a)).set j (some b)) := rfl
theorem b_twoL {i j : Nat} {a b : D} {ρ : Env'} : bindT (.many [i, j]) (.lst [a, b]) ρ = some ((ρ.set i (some a)).set j (some b)) := rfl
theorem b_threeL {i j k : Nat} {a b c : D} {ρ : Env'} : bindT (.many [i, j, k]) (.lst [a, b, c]) ρ = some (((ρ.set i (some a)).set j (some b)).set k (some c)) := rfl
theorem b_three {i j k : Nat} {a b c : D} {ρ : Env'} : bindT (.many [i, j, k]) (.tup [a, b, c]) ρ = some (((ρ.set i (some a)).set j (some b)).set k (some c)) := rfl
theorem wp_one {i : Nat} {ρ : Env'} : wipeE ρ (Tgt.one i).slots = ρ.set i none := rfl
theorem wp_two {i j : Nat} {ρ : Env'} : wipeE ρ (Tgt.many [i, j]).slots = (ρ.set j none).set i none := rfl
theorem wp_three {i j k : Nat} {ρ : Env'} : wipeE ρ (Tgt.many [i, j, k]).slots = ((ρ.set k none).set j none).set i none := rfl
theorem mtOn_s {o : MT} {a : List Nat} : mtOn o (.str a) = mtTxt o := rfl
theorem wipe_n {ρ : Env'} : wipeE ρ [] = ρ := rfl
theorem wipe_c {ρ : Env'} {v : Nat} {vs : List Nat} : wipeE ρ (v :: vs) = (wipeE ρ vs).set v none := rfl
theorem isNon_i {i : Int} : isNon (.int i) = false := rfl
theorem isNon_n : isNon .non = true := rfl
theorem isNon_t {l : List D} : isNon (.tup l) = false := rfl
theorem isNon_s {l : List Nat} : isNon (.str l) = false := rfl
theorem isNon_x {c : Nat} : isNon (.exc c) = false := rfl
theorem v_isx {C : Cfg} {ρ : Env'} {m : Mu} {k : Nat} {e : E} : evE C (.isx k e) ρ m = bnd (evE C e ρ m) (fun x m1 => .opt (isxD C.sub k x) m1) .mk := by rw [evE]; rfl
theorem isx_n {f : Nat → Nat → Option Bool} {k : Nat} : isxD f k .non = some (.bl false) := rfl
theorem isx_x {f : Nat → Nat → Option Bool} {k c : Nat} : isxD f k (.exc c) = (f c k).map D.bl := rfl
def triE (i : Nat) (r : Fl) : Fl := match r with
  | .nxt ρ2 m2 => .nxt (ρ2.set i none) m2
  | r => r
theorem triE_n {i : Nat} {ρ : Env'} {m : Mu} : triE i (.nxt ρ m) = .nxt (ρ.set i none) m := rfl
def triF (C : Cfg) (k i : Nat) (s : Sts) (r : Fl) : Fl := match r with
  | .err c ρ1 m1 => bC .stuck (C.sub c k) (triE i (evSs C s (ρ1.set i (some (.exc c))) m1)) (.err c ρ1 m1) .mk .mk
  | r => r
theorem triF_n {C : Cfg} {k i : Nat} {s : Sts} {ρ : Env'} {m : Mu} : triF C k i s (.nxt ρ m) = .nxt ρ m := rfl
theorem triF_r {C : Cfg} {k i : Nat} {s : Sts} {d : D} {m : Mu} : triF C k i s (.ret d m) = .ret d m := rfl
theorem triF_e {C : Cfg} {k i : Nat} {s : Sts} {c : Nat} {ρ1 : Env'} {m1 : Mu} : triF C k i s (.err c ρ1 m1) = bC .stuck (C.sub c k) (triE i (evSs C s (ρ1.set i (some (.exc c))) m1)) (.err c ρ1 m1) .mk .mk := rfl
theorem w_tri {C : Cfg} {ρ : Env'} {m : Mu} {b s : Sts} {k i : Nat} : evS C (.tri b k (some i) s) ρ m = triF C k i s (evSs C b ρ m) := by
  rw [evS]
  cases evSs C b ρ m with
  | err c ρ1 m1 =>
    rw [triF_e, bc_of]
    dsimp only
    cases C.sub c k with
    | none => rfl
    | some b =>
      cases b with
      | true =>
        dsimp only
        cases evSs C s (ρ1.set i (some (.exc c))) m1 <;> rfl
      | false => rfl
  | _ => rfl
def trX (C : Cfg) (tg : Tgt) (e : E) (ρ : Env') (xs : List D) (m : Mu) : Res (List D) := turnsX (stepX C tg e ρ) xs m
theorem w_asgX {C : Cfg} {ρ : Env'} {m : Mu} {i : Nat} {tg : Tgt} {it : I} {e : E} : evS C (.asgX i tg it e) ρ m = bfl (evI C it ρ m) ρ (fun xs m1 => bfl (trX C tg e ρ xs m1) ρ (fun ys m2 => bC .stuck (some (decide (i < ρ.length))) (.nxt (ρ.set i (some (.lst ys))) m2) .stuck .mk .mk) .mk .mk) .mk .mk := by
  rw [evS]
  show Res.fl _ _ _ = Res.fl _ _ _
  refine congrArg _ (funext fun xs => funext fun m1 => ?_)
  show Res.fl _ _ _ = Res.fl _ _ _
  refine congrArg _ (funext fun ys => funext fun m2 => ?_)
  by_cases h : i < ρ.length
  · rw [if_pos h, decide_eq_true h]; rfl
  · rw [if_neg h, decide_eq_false h]; rfl
theorem v_tzip {C : Cfg} {ρ : Env'} {m : Mu} {a b : E} : evE C (.tzip a b) ρ m = bnd (evE C a ρ m) (fun x m1 => bnd (evE C b ρ m1) (fun y m2 => .opt (tzD x y) m2) .mk) .mk := by rw [evE]; rfl
theorem tz_ll {a b : List D} : tzD (.lst a) (.lst b) = some (.tup (List.zipWith (fun x y => .tup [x, y]) a b)) := rfl
theorem v_rep {C : Cfg} {ρ : Env'} {m : Mu} {y z : List Nat} {e : E} : evE C (.rep y z e) ρ m = bnd (evE C e ρ m) (fun x m1 => .opt (repD y z x) m1) .mk := by rw [evE]; rfl
section
variable {C : Cfg} {ρ : Env'} {m : Mu}
theorem v_mop {o : OpN} {r : E} {l : Es} : evE C (.mop o r l) ρ m = bnd (evE C r ρ m) (fun x m1 => bC .stuck (some (okR o x m1)) (bnd (evEs C l ρ m1) (fun ds m2 => opD o x ds m2) .mk) .stuck .mk .mk) .mk := by
  rw [evE]
  show Res.bind _ _ = Res.bind _ _
  refine congrArg _ (funext fun x => funext fun m1 => ?_)
  cases okR o x m1 <;> rfl
theorem v_ext {r a : E} : evE C (.ext r a) ρ m = bnd (evE C r ρ m) (fun x m1 => bC .stuck (some (okR .ext x m1)) (bnd (evE C a ρ m1) (fun y m2 => opD .ext x [y] m2) .mk) .stuck .mk .mk) .mk := by
  rw [evE]
  show Res.bind _ _ = Res.bind _ _
  refine congrArg _ (funext fun x => funext fun m1 => ?_)
  cases okR .ext x m1 <;> rfl
theorem v_new {o : NwN} {l : Es} : evE C (.new o l) ρ m = bnd (evEs C l ρ m) (fun ds m1 => nwD o ds m1) .mk := by rw [evE]; rfl
def mthL (C : Cfg) (c nm : Nat) (l : Es) (dv : List D) (ρ : Env') (x : D) (m1 : Mu) : Res D := match x with
  | .obj n => (match m1[n]? with
    | some (.ins k _) => if k = c then (evEs C l ρ m1).bind fun ds m2 => C.call (mnum c nm) (.obj n :: (ds ++ dv)) m2 else .stuck
    | _ => .stuck)
  | _ => .stuck
theorem v_meth {c nm : Nat} {r : E} {l : Es} {dv : List D} : evE C (.meth c nm r l dv) ρ m = bnd (evE C r ρ m) (fun x m1 => mthL C c nm l dv ρ x m1) .mk := by rw [evE]; rfl
theorem v_make {c : Nat} {l : Es} {dv : List D} : evE C (.make c l dv) ρ m = bnd (evEs C l ρ m) (fun ds m1 => bnd (C.call (mnum c 0) (.obj m1.length :: (ds ++ dv)) (m1 ++ [.ins c []])) (fun x m2 => madeD m1.length x m2) .mk) .mk := by rw [evE]; rfl
theorem v_callD {k : Nat} {l : Es} {dv : List D} : evE C (.callD k l dv) ρ m = bnd (evEs C l ρ m) (fun ds m1 => C.call k (ds ++ dv) m1) .mk := by rw [evE]; rfl
theorem v_lrep {l : Es} {e : E} : evE C (.lrep l e) ρ m = bnd (evEs C l ρ m) (fun ds m1 => bnd (evE C e ρ m1) (fun y m2 => .opt (lrepD ds y) m2) .mk) .mk := by rw [evE]; rfl
theorem v_sortK {a : E} : evE C (.sortK a) ρ m = bnd (evE C a ρ m) (fun x m1 => bC .stuck (some (tabAt m1)) (.opt (sortKD (dr m1 x)) m1) .stuck .mk .mk) .mk := by
  rw [evE]
  show Res.bind _ _ = Res.bind _ _
  refine congrArg _ (funext fun x => funext fun m1 => ?_)
  cases tabAt m1 <;> rfl
theorem v_sortI {a : E} : evE C (.sortI a) ρ m = bnd (evE C a ρ m) (fun x m1 => srtIL x m1) .mk := by
  rw [evE]
  rfl
theorem v_cat {a b : E} : evE C (.cat a b) ρ m = bnd (evE C a ρ m) (fun x m1 => bnd (evE C b ρ m1) (fun y m2 => .opt (catD x y) m2) .mk) .mk := by rw [evE]; rfl
def cmpL (C : Cfg) (kd : Kd) (tg : Tgt) (c : OE) (e : E) (ρ : Env') (x : D) (m1 : Mu) : Res D := match lkD x m1 with
  | some (n, d) => (match walkD kd d with
    | some xs => (trnL (cT C tg c e ρ) xs (m1.set n (.box true d)) .mk).calm.bind fun ys m5 => .ok (.lst ys) (m5.set n (.box false d))
    | none => .stuck)
  | none => .stuck
theorem v_compL {kd : Kd} {a e : E} {tg : Tgt} {c : OE} : evE C (.compL kd a tg c e) ρ m = bnd (evE C a ρ m) (fun x m1 => cmpL C kd tg c e ρ x m1) .mk := by rw [evE]; rfl
theorem w_ownB {i : Nat} {e : E} : evS C (.ownB i e) ρ m = bfl (evE C e ρ m) ρ (fun x m1 => bC .stuck (some (decide (i < ρ.length ∧ isBoxD x = true))) (.nxt (ρ.set i (some x)) m1) .stuck .mk .mk) .mk .mk := by
  rw [evS]
  show Res.fl _ _ _ = Res.fl _ _ _
  refine congrArg _ (funext fun x => funext fun m1 => ?_)
  by_cases h : i < ρ.length ∧ isBoxD x = true
  · rw [if_pos h, decide_eq_true h]; rfl
  · rw [if_neg h, decide_eq_false h]; rfl
theorem w_sfld {f : Nat} {r e : E} : evS C (.sfld f r e) ρ m = bfl (evE C e ρ m) ρ (fun y m1 => bfl (evE C r ρ m1) ρ (fun x m2 => bfl (fldD f x y m2) ρ (fun _ m3 => .nxt ρ m3) .mk .mk) .mk .mk) .mk .mk := by rw [evS]; rfl
theorem w_faug {f : Nat} {o : BOp} {r : E} {d : D} : evS C (.faug f o r d) ρ m = bfl (evE C r ρ m) ρ (fun x m1 => bfl (faugD f o x d m1) ρ (fun _ m2 => .nxt ρ m2) .mk .mk) .mk .mk := by rw [evS]; rfl
theorem w_ssub {r k e : E} : evS C (.ssub r k e) ρ m = bfl (evE C e ρ m) ρ (fun v m1 => bfl (evE C r ρ m1) ρ (fun x m2 => bfl (evE C k ρ m2) ρ (fun y m3 => bfl (subD x y v m3) ρ (fun _ m4 => .nxt ρ m4) .mk .mk) .mk .mk) .mk .mk) .mk .mk := by rw [evS]; rfl
def forB (C : Cfg) (kd : Kd) (tg : Tgt) (b : Sts) (ρ : Env') (x : D) (m1 : Mu) : Fl := match lkD x m1 with
  | some (n, d) => (match walkD kd d with
    | some xs => unlk n (forL tg (fun ρ m => evSs C b ρ m) xs ρ (m1.set n (.box true d)) .mk)
    | none => .stuck)
  | none => .stuck
theorem w_forsL {kd : Kd} {a : E} {tg : Tgt} {b : Sts} : evS C (.forsL kd a tg b) ρ m = bfl (evE C a ρ m) ρ (fun x m1 => forB C kd tg b ρ x m1) .mk .mk := by rw [evS]; rfl
def setXS (C : Cfg) (i : Nat) (k e : E) (ρ : Env') (m : Mu) (x : D) : Fl := match x with
  | .lst l => (evE C e ρ m).fl ρ fun x m1 => (evE C k ρ m1).fl ρ fun y m2 => match y with
      | .int j => if 0 ≤ j ∧ j < l.length then .nxt (ρ.set i (some (.lst (l.set j.toNat x)))) m2 else .stuck
      | _ => .stuck
  | _ => .stuck
theorem w_setx {i : Nat} {k e : E} : evS C (.setx i k e) ρ m = bfl (getS ρ[i]? m) ρ (fun x m1 => setXS C i k e ρ m1 x) .mk .mk := by
  rw [evS]
  unfold getS
  cases h : ρ[i]? with
  | none => rfl
  | some d =>
    cases d with
    | none => rfl
    | some d => cases d <;> rfl
def setI (i : Nat) (l : List D) (x : D) (ρ : Env') (y : D) (m : Mu) : Fl := match y with
  | .int j => if 0 ≤ j ∧ j < l.length then .nxt (ρ.set i (some (.lst (l.set j.toNat x)))) m else .stuck
  | _ => .stuck
theorem w_setS {i : Nat} {k e : E} {l : List D} : setXS C i k e ρ m (.lst l) = bfl (evE C e ρ m) ρ (fun x m1 => bfl (evE C k ρ m1) ρ (fun y m2 => setI i l x ρ y m2) .mk .mk) .mk .mk := by
  show Res.fl _ _ _ = Res.fl _ _ _
  refine congrArg _ (funext fun x => funext fun m1 => ?_)
  show Res.fl _ _ _ = Res.fl _ _ _
  refine congrArg _ (funext fun y => funext fun m2 => ?_)
  cases y <;> rfl
end
end MP
set_option maxRecDepth 100000
set_option maxHeartbeats 8000000
set_option autoImplicit false
namespace MP
open PySem L2
def Ob1 (K : PySem.W.Frag) (nm : Str) (fs : List Nat) : Prop := ∀ C : Addr, PySem.W.nsIn K mainGlobals nm = some (some (.ref C)) → Cls K C ∧ ∀ f, fs.contains f = true → NoAttr K C (fName f)
theorem ob1_no {K : PySem.W.Frag} {nm : Str} {fs : List Nat} (h : PySem.W.nsIn K mainGlobals nm = some none) : Ob1 K nm fs := fun C e => by
  rw [h] at e
  cases e
theorem obf_of {K : PySem.W.Frag} (h0 : Ob1 K "Pages" [0, 1]) (h1 : Ob1 K "House" [2, 3, 4, 5, 6]) (h2 : Ob1 K "Cursor" [7, 8]) (h3 : Ob1 K "Disk" [9]) (h4 : Ob1 K "Keeper" [10, 11, 12]) (h5 : Ob1 K "Look" [13, 2, 14, 15]) (h6 : Ob1 K "Desk" [16, 17, 18, 19]) : ObF K := by
  intro k C h
  unfold ClsA clName at h
  have e : ∃ i, k - 20 = i := ⟨_, rfl⟩
  obtain ⟨i, hi⟩ := e
  have ec : clsF k = [[0, 1], [2, 3, 4, 5, 6], [7, 8], [9], [10, 11, 12], [13, 2, 14, 15], [16, 17, 18, 19]].getD i [0, 1] := by
    unfold clsF
    rw [hi]
  rw [ec]
  rw [hi] at h
  match i with
  | 0 => exact h0 C h
  | 1 => exact h1 C h
  | 2 => exact h2 C h
  | 3 => exact h3 C h
  | 4 => exact h4 C h
  | 5 => exact h5 C h
  | 6 => exact h6 C h
  | (n + 7) => exact h0 C h
theorem no_mth {T : List (Nat × Df)} (h : (T.all fun p => decide (p.1 < 1000000)) = true) {c nm : Nat} {d : Df} (hm : (mnum c nm, d) ∈ T) : False := by
  have := of_decide_eq_true (List.all_eq_true.mp h _ hm)
  unfold mnum at this
  dsimp only at this
  omega
end MP
set_option maxRecDepth 100000
set_option maxHeartbeats 8000000
set_option autoImplicit false
namespace MP
open PySem L2
def B_0 : Sts := (.cons (.ret (.and2 (.isi [.int] (.var 0)) (.and2 (.not1 (.isi [.bool] (.var 0))) (.chain .le .le (.var 1) (.var 0) (.var 2))))) .nil)
def F_0 : Fn := ⟨3, 3, B_0⟩
def B_1 : Sts := (.cons (.ifs (.or2 (.not1 (.isi [.str] (.var 0))) (.cmp .gt (.bi .len (.cons (.var 0) .nil)) (.glob "MOST_LETTERS" (.int 8)))) (.cons (.ret (.lit (.bl false))) .nil) .nil) (.cons (.ret (.bi .all (.cons (.comp (.one 1) (.e (.var 0)) .no (.cmp .isin (.var 1) (.glob "LETTERS" (.str [97, 98, 99, 100, 101, 102, 103, 104, 105, 106, 107, 108, 109, 110, 111, 112, 113, 114, 115, 116, 117, 118, 119, 120, 121, 122])))) .nil))) .nil))
def F_1 : Fn := ⟨1, 2, B_1⟩
def B_2 : Sts := (.cons (.ret (.or2 (.call 0 (.cons (.var 0) (.cons (.lit (.int 0)) (.cons (.glob "MOST_NUMBER" (.int 999999999999)) .nil)))) (.call 1 (.cons (.var 0) .nil)))) .nil)
def F_2 : Fn := ⟨1, 1, B_2⟩
def B_3 : Sts := (.cons (.ifs (.or2 (.not1 (.isi [.tuple] (.var 0))) (.not1 (.chain .le .le (.lit (.int 1)) (.bi .len (.cons (.var 0) .nil)) (.glob "MOST_PARTS" (.int 4))))) (.cons (.ret (.lit (.bl false))) .nil) .nil) (.cons (.ret (.bi .all (.cons (.comp (.one 1) (.e (.var 0)) .no (.call 2 (.cons (.var 1) .nil))) .nil))) .nil))
def F_3 : Fn := ⟨1, 2, B_3⟩
def B_4 : Sts := (.cons (.ret (.call 0 (.cons (.var 0) (.cons (.lit (.int 0)) (.cons (.glob "MOST_VALUE" (.int 999999999999999999999999999999999999999999999999999999999999)) .nil))))) .nil)
def F_4 : Fn := ⟨1, 1, B_4⟩
def B_5 : Sts := (.cons (.ifs (.isi [.str] (.var 0)) (.cons (.ret (.bin .add (.bin .add (.lit (.str [116])) (.var 0)) (.lit (.str [46])))) .nil) .nil) (.cons (.asg (.one 1) (.bi .str (.cons (.var 0) .nil))) (.cons (.ret (.bin .add (.idx (.glob "GREAT" (.str [65, 66, 67, 68, 69, 70, 71, 72, 73, 74, 75, 76])) (.bin .sub (.bi .len (.cons (.var 1) .nil)) (.lit (.int 1)))) (.var 1))) .nil)))
def F_5 : Fn := ⟨1, 2, B_5⟩
def B_6 : Sts := (.cons (.ifs (.not1 (.call 3 (.cons (.var 0) .nil))) (.cons (.rais 1) .nil) .nil) (.cons (.ret (.mth .sjoin (.lit (.str [])) (.cons (.comp (.one 1) (.e (.var 0)) .no (.call 5 (.cons (.var 1) .nil))) .nil))) .nil))
def F_6 : Fn := ⟨1, 2, B_6⟩
def B_7 : Sts := (.cons (.asg (.one 2) (.bin .add (.bin .mul (.lit (.int 7919)) (.var 1)) (.lit (.int 11)))) (.cons (.asg (.one 3) (.lit (.int 0))) (.cons (.ifs (.cmp .ne (.var 0) (.lst .nil)) (.cons (.asg (.one 5) (.bin .fdiv (.var 1) (.bi .len (.cons (.var 0) .nil)))) (.cons (.asg (.one 2) (.bin .add (.bin .add (.bin .mul (.idx (.var 0) (.bin .mod (.var 1) (.bi .len (.cons (.var 0) .nil)))) (.lit (.int 48271))) (.bin .mul (.lit (.int 104729)) (.var 1))) (.bin .mul (.var 5) (.lit (.int 7919))))) (.cons (.ifs (.cmp .ge (.idx (.var 0) (.bin .mod (.var 1) (.bi .len (.cons (.var 0) .nil)))) (.bin .pow (.lit (.int 10)) (.lit (.int 18)))) (.cons (.asg (.one 6) (.bin .add (.lit (.int 1)) (.bin .mul (.bin .add (.var 5) (.lit (.int 1))) (.lit (.int 4014476939333036189094441199026045136645885247730))))) (.cons (.asg (.one 3) (.bin .mod (.bin .fdiv (.idx (.var 0) (.bin .mod (.var 1) (.bi .len (.cons (.var 0) .nil)))) (.bin .pow (.lit (.int 10)) (.lit (.int 18)))) (.var 6))) .nil)) .nil) (.cons (.fgt [6]) .nil)))) .nil) (.cons (.fgt [5, 6]) (.cons (.asg (.one 4) (.bin .mod (.var 2) (.lit (.int 2147483647)))) (.cons (.asg (.one 4) (.bin .mod (.bin .mul (.var 4) (.var 4)) (.lit (.int 2147483629)))) (.cons (.ret (.bin .mod (.bin .add (.bin .add (.bin .add (.bin .mul (.var 4) (.var 4)) (.bin .mul (.lit (.int 69621)) (.var 4))) (.var 1)) (.var 3)) (.lit (.int 2147483587)))) .nil)))))))
def F_7 : Fn := ⟨2, 7, B_7⟩
def B_8 : Sts := (.cons (.ret (.and2 (.isi [.int] (.var 0)) (.not1 (.isi [.bool] (.var 0))))) .nil)
def F_8 : Fn := ⟨1, 1, B_8⟩
def B_9_b0 : Sts := (.cons (.asg (.one 1) (.bin .add (.var 1) (.idx (.var 2) (.bin .mod (.var 3) (.bi .len (.cons (.var 2) .nil)))))) (.cons (.asg (.one 3) (.bin .add (.bin .fdiv (.var 3) (.bi .len (.cons (.var 2) .nil))) (.bin .mul (.lit (.int 7919)) (.var 4)))) (.cons (.fgt [4]) .nil)))
def B_9 : Sts := (.cons (.asg (.one 1) (.lit (.str []))) (.cons (.asg (.one 2) (.idx (.lst (.cons (.lit (.str [97, 98, 122])) (.cons (.lit (.str [97, 98, 99, 100, 101, 102, 103, 104, 105, 106, 107, 108, 109, 110, 111, 112, 113, 114, 115, 116, 117, 118, 119, 120, 121, 122])) .nil))) (.bin .mod (.bin .fdiv (.var 0) (.lit (.int 9))) (.lit (.int 2))))) (.cons (.asg (.one 3) (.bin .fdiv (.var 0) (.lit (.int 18)))) (.cons (.fors (.one 4) (.rng1 (.bin .mod (.var 0) (.lit (.int 9)))) B_9_b0) (.cons (.ret (.var 1)) .nil)))))
def F_9 : Fn := ⟨1, 5, B_9⟩
def B_10 : Sts := (.cons (.asg (.one 1) (.bin .fdiv (.var 0) (.lit (.int 8)))) (.cons (.ifs (.cmp .eq (.bin .mod (.var 0) (.lit (.int 8))) (.lit (.int 0))) (.cons (.ret (.bin .mod (.var 1) (.lit (.int 12)))) .nil) .nil) (.cons (.ifs (.cmp .eq (.bin .mod (.var 0) (.lit (.int 8))) (.lit (.int 1))) (.cons (.ret (.bin .add (.lit (.int 95)) (.bin .mod (.var 1) (.lit (.int 12))))) .nil) .nil) (.cons (.ifs (.cmp .eq (.bin .mod (.var 0) (.lit (.int 8))) (.lit (.int 2))) (.cons (.ret (.bin .sub (.bi .int (.cons (.bin .add (.lit (.str [49])) (.bin .mul (.lit (.str [48])) (.bin .mod (.var 1) (.lit (.int 12))))) .nil)) (.bin .mod (.bin .fdiv (.var 1) (.lit (.int 12))) (.lit (.int 2))))) .nil) .nil) (.cons (.ifs (.cmp .eq (.bin .mod (.var 0) (.lit (.int 8))) (.lit (.int 3))) (.cons (.ret (.bin .mod (.bin .mul (.bin .mul (.var 1) (.var 1)) (.lit (.int 7))) (.bin .pow (.lit (.int 10)) (.lit (.int 12))))) .nil) .nil) (.cons (.ret (.call 9 (.cons (.var 1) .nil))) .nil))))))
def F_10 : Fn := ⟨1, 2, B_10⟩
def B_11_b0 : Sts := (.cons (.app 2 (.call 10 (.cons (.bin .add (.bin .mul (.var 1) (.bin .add (.var 3) (.lit (.int 1)))) (.bin .mul (.bin .mul (.lit (.int 104729)) (.var 3)) (.var 3))) .nil))) (.cons (.fgt [3]) .nil))
def B_11 : Sts := (.cons (.asg (.one 1) (.bin .mod (.bin .fdiv (.var 0) (.lit (.int 6))) (.idx (.lst (.cons (.lit (.int 7)) (.cons (.lit (.int 60)) (.cons (.bin .pow (.lit (.int 10)) (.lit (.int 9))) .nil)))) (.bin .mod (.bin .fdiv (.var 0) (.lit (.int 11))) (.lit (.int 3)))))) (.cons (.own 2 (.lst .nil)) (.cons (.fors (.one 3) (.rng1 (.idx (.lst (.cons (.lit (.int 1)) (.cons (.lit (.int 1)) (.cons (.lit (.int 2)) (.cons (.lit (.int 2)) (.cons (.lit (.int 3)) (.cons (.lit (.int 4)) .nil))))))) (.bin .mod (.var 0) (.lit (.int 6))))) B_11_b0) (.cons (.ret (.bi .tuple (.cons (.var 2) .nil))) .nil))))
def F_11 : Fn := ⟨1, 4, B_11⟩
def B_12 : Sts := (.cons (.ifs (.isi [.str] (.var 0)) (.cons (.ret (.and2 (.cmp .lt (.bi .len (.cons (.var 0) .nil)) (.lit (.int 9))) (.cmp .eq (.comp (.one 1) (.e (.var 0)) (.yes (.cmp .notin (.var 1) (.lit (.str [97, 98, 99, 100, 101, 102, 103, 104, 105, 106, 107, 108, 109, 110, 111, 112, 113, 114, 115, 116, 117, 118, 119, 120, 121, 122])))) (.var 1)) (.lst .nil)))) .nil) .nil) (.cons (.ret (.and2 (.call 8 (.cons (.var 0) .nil)) (.chain .le .lt (.lit (.int 0)) (.var 0) (.bin .pow (.lit (.int 10)) (.lit (.int 12)))))) .nil))
def F_12 : Fn := ⟨1, 2, B_12⟩
def B_13 : Sts := (.cons (.ifs (.or2 (.not1 (.isi [.tuple] (.var 0))) (.or2 (.cmp .lt (.bi .len (.cons (.var 0) .nil)) (.lit (.int 1))) (.cmp .gt (.bi .len (.cons (.var 0) .nil)) (.lit (.int 4))))) (.cons (.ret (.lit (.bl false))) .nil) .nil) (.cons (.ret (.cmp .eq (.comp (.one 1) (.e (.var 0)) (.yes (.not1 (.call 12 (.cons (.var 1) .nil)))) (.var 1)) (.lst .nil))) .nil))
def F_13 : Fn := ⟨1, 2, B_13⟩
def B_14 : Sts := (.cons (.own 1 (.lst .nil)) (.cons (.ifs (.isN false (.var 0)) (.cons (.ret (.lit (.str []))) .nil) .nil) (.cons (.ifs (.isx 1 (.var 0)) (.cons (.app 1 (.lit (.str [78, 111, 75, 101, 121]))) .nil) .nil) (.cons (.ifs (.isx 2 (.var 0)) (.cons (.app 1 (.lit (.str [78, 111, 86, 97, 108, 117, 101]))) .nil) .nil) (.cons (.ifs (.isx 3 (.var 0)) (.cons (.app 1 (.lit (.str [78, 111, 67, 111, 100, 101]))) .nil) .nil) (.cons (.ifs (.isx 4 (.var 0)) (.cons (.app 1 (.lit (.str [78, 111, 82, 111, 111, 109]))) .nil) .nil) (.cons (.ifs (.isx 5 (.var 0)) (.cons (.app 1 (.lit (.str [78, 111, 80, 97, 103, 101]))) .nil) .nil) (.cons (.ifs (.isx 6 (.var 0)) (.cons (.app 1 (.lit (.str [78, 111, 80, 108, 97, 99, 101]))) .nil) .nil) (.cons (.ifs (.isx 7 (.var 0)) (.cons (.app 1 (.lit (.str [78, 111, 86, 101, 114, 115, 105, 111, 110]))) .nil) .nil) (.cons (.ifs (.isx 8 (.var 0)) (.cons (.app 1 (.lit (.str [78, 111, 77, 97, 114, 107]))) .nil) .nil) (.cons (.ifs (.isx 9 (.var 0)) (.cons (.app 1 (.lit (.str [78, 111, 78, 111, 100, 101]))) .nil) .nil) (.cons (.ifs (.isx 10 (.var 0)) (.cons (.app 1 (.lit (.str [78, 111, 82, 111, 119]))) .nil) .nil) (.cons (.ifs (.and2 (.cmp .eq (.bi .len (.cons (.var 1) .nil)) (.lit (.int 1))) (.isx 11 (.var 0))) (.cons (.ret (.idx (.var 1) (.lit (.int 0)))) .nil) .nil) (.cons (.ret (.lit (.str [111, 116, 104, 101, 114]))) .nil))))))))))))))
def F_14 : Fn := ⟨1, 2, B_14⟩
def B_15 : Sts := (.cons (.asg (.one 1) (.lst (.cons (.lit .non) (.cons (.lit (.bl true)) (.cons (.lit (.bl false)) (.cons (.lit (.int (-1))) (.cons (.bin .pow (.lit (.int 10)) (.lit (.int 12))) (.cons (.lit (.str [65])) (.cons (.lit (.str [97, 32, 98])) (.cons (.lit (.str [97, 98, 99, 100, 101, 102, 103, 104, 105])) (.cons (.lst (.cons (.lit (.str [97])) .nil)) (.cons (.tup (.cons (.lit (.int 1)) .nil)) (.cons .dic0 (.cons (.lit (.str [97, 49])) .nil)))))))))))))) (.cons (.ret (.idx (.var 1) (.bin .mod (.var 0) (.lit (.int 12))))) .nil))
def F_15 : Fn := ⟨1, 2, B_15⟩
def B_16 : Sts := (.cons (.asg (.one 1) (.bin .fdiv (.var 0) (.lit (.int 16)))) (.cons (.asg (.one 2) (.call 11 (.cons (.var 1) .nil))) (.cons (.ifs (.cmp .lt (.bin .mod (.var 0) (.lit (.int 16))) (.lit (.int 6))) (.cons (.ret (.var 2)) .nil) .nil) (.cons (.ifs (.cmp .eq (.bin .mod (.var 0) (.lit (.int 16))) (.lit (.int 6))) (.cons (.ret (.bi .list (.cons (.var 2) .nil))) .nil) .nil) (.cons (.ifs (.cmp .eq (.bin .mod (.var 0) (.lit (.int 16))) (.lit (.int 7))) (.cons (.ret (.idx (.lst (.cons (.tup .nil) (.cons (.bin .mul (.var 2) (.lit (.int 5))) (.cons (.bin .add (.var 2) (.bin .mul (.sl (.var 2) .no (.yes (.lit (.int 1)))) (.bin .sub (.lit (.int 4)) (.bi .len (.cons (.var 2) .nil))))) (.cons (.bin .add (.var 2) (.bin .mul (.tup (.cons (.lit (.int 0)) .nil)) (.bin .sub (.lit (.int 5)) (.bi .len (.cons (.var 2) .nil))))) .nil))))) (.bin .mod (.var 1) (.lit (.int 4))))) .nil) .nil) (.cons (.ifs (.cmp .lt (.bin .mod (.var 0) (.lit (.int 16))) (.lit (.int 13))) (.cons (.asg (.one 3) (.bin .mod (.bin .fdiv (.var 1) (.lit (.int 7))) (.bi .len (.cons (.var 2) .nil)))) (.cons (.ret (.bin .add (.bin .add (.sl (.var 2) .no (.yes (.var 3))) (.tup (.cons (.call 15 (.cons (.bin .fdiv (.var 1) (.lit (.int 5))) .nil)) .nil))) (.sl (.var 2) (.yes (.bin .add (.var 3) (.lit (.int 1)))) .no))) .nil)) .nil) (.cons (.fgt [3]) (.cons (.ret (.call 15 (.cons (.var 1) .nil))) .nil))))))))
def F_16 : Fn := ⟨1, 4, B_16⟩
def B_17 : Sts := (.cons (.asg (.one 1) (.bin .mul (.bin .mul (.var 0) (.var 0)) (.var 0))) (.cons (.asg (.one 2) (.lst (.cons (.lit (.int 0)) (.cons (.lit (.int 1)) (.cons (.bin .sub (.bin .pow (.lit (.int 10)) (.lit (.int 60))) (.lit (.int 1))) (.cons (.bin .pow (.lit (.int 10)) (.lit (.int 60))) (.cons (.lit (.int (-1))) (.cons (.bin .mod (.bin .mul (.bin .mul (.var 1) (.var 1)) (.var 1)) (.bin .pow (.lit (.int 10)) (.lit (.int 60)))) .nil)))))))) (.cons (.asg (.one 2) (.bin .add (.var 2) (.lst (.cons (.bin .add (.bin .pow (.lit (.int 10)) (.lit (.int 60))) (.bin .mod (.var 0) (.bin .pow (.lit (.int 10)) (.lit (.int 9))))) (.cons (.bin .sub (.lit (.int (-2))) (.bin .mod (.var 0) (.bin .pow (.lit (.int 10)) (.lit (.int 9))))) (.cons (.lit (.bl true)) (.cons (.lit (.bl false)) (.cons (.lit (.str [53])) (.cons (.lit .non) (.cons (.tup (.cons (.lit (.int 5)) .nil)) (.cons (.lst (.cons (.lit (.int 5)) .nil)) (.cons (.lit (.str [])) (.cons .dic0 .nil))))))))))))) (.cons (.ret (.idx (.var 2) (.bin .mod (.var 0) (.lit (.int 16))))) .nil))))
def F_17 : Fn := ⟨1, 3, B_17⟩
def B_18_b0 : Sts := (.cons (.ifs (.not1 (.isi [.str] (.call 6 (.cons (.var 0) .nil)))) (.cons (.asg (.one 1) (.lit (.str [110, 111, 32, 116, 101, 120, 116]))) .nil) .nil) .nil)
def B_18 : Sts := (.cons (.asg (.one 1) (.lit (.str []))) (.cons (.asg (.one 2) (.lit .non)) (.cons (.tri B_18_b0 0 (some 3) (.cons (.asg (.one 2) (.var 3)) .nil)) (.cons (.ret (.or2 (.var 1) (.call 14 (.cons (.var 2) .nil)))) .nil))))
def F_18 : Fn := ⟨1, 4, B_18⟩
def B_19 : Sts := (.cons (.asg (.one 2) (.call 13 (.cons (.var 0) .nil))) (.cons (.asg (.one 3) (.call 3 (.cons (.var 0) .nil))) (.cons (.ifs (.or2 (.not1 (.isi [.bool] (.var 3))) (.cmp .ne (.var 3) (.var 2))) (.cons (.ret (.lit (.bl false))) .nil) .nil) (.cons (.ifs (.cmp .ne (.call 18 (.cons (.var 0) .nil)) (.idx (.lst (.cons (.lit (.str [78, 111, 75, 101, 121])) (.cons (.lit (.str [])) .nil))) (.bi .int (.cons (.var 2) .nil)))) (.cons (.ret (.lit (.bl false))) .nil) .nil) (.cons (.asg (.one 2) (.and2 (.call 8 (.cons (.var 1) .nil)) (.chain .le .lt (.lit (.int 0)) (.var 1) (.bin .pow (.lit (.int 10)) (.lit (.int 60)))))) (.cons (.asg (.one 3) (.call 4 (.cons (.var 1) .nil))) (.cons (.ret (.and2 (.isi [.bool] (.var 3)) (.and2 (.cmp .eq (.var 3) (.var 2)) (.cmp .eq (.call 3 (.cons (.var 1) .nil)) (.call 13 (.cons (.var 1) .nil)))))) .nil)))))))
def F_19 : Fn := ⟨2, 4, B_19⟩
def B_20_b0 : Sts := (.cons (.asg (.one 2) (.call 16 (.cons (.call 7 (.cons (.var 0) (.cons (.var 1) .nil))) .nil))) (.cons (.own 3 (.lst (.cons (.var 2) (.cons (.var 2) .nil)))) (.cons (.ifs (.isi [.list] (.var 2)) (.cons (.setx 3 (.lit (.int 1)) (.bi .list (.cons (.var 2) .nil))) .nil) .nil) (.cons (.ifs (.or2 (.not1 (.call 19 (.cons (.var 2) (.cons (.call 17 (.cons (.call 7 (.cons (.var 0) (.cons (.bin .add (.lit (.int 200)) (.var 1)) .nil))) .nil)) .nil)))) (.cmp .ne (.idx (.var 3) (.lit (.int 0))) (.idx (.var 3) (.lit (.int 1))))) (.cons (.ret (.lit (.bl false))) .nil) .nil) (.cons (.fgt [1, 2, 3]) .nil)))))
def B_20 : Sts := (.cons (.fors (.one 1) (.rng1 (.bin .add (.bi .min (.cons (.lit (.int 60)) (.cons (.bi .len (.cons (.var 0) .nil)) .nil))) (.lit (.int 2)))) B_20_b0) (.cons (.ret (.lit (.bl true))) .nil))
def F_20 : Fn := ⟨1, 4, B_20⟩
def B_21_b0 : Sts := (.cons (.ifs (.cmp .ne (.isi [.str] (.var 2)) (.isi [.str] (.var 3))) (.cons (.ret (.isi [.str] (.var 3))) .nil) .nil) (.cons (.ifs (.cmp .ne (.var 2) (.var 3)) (.cons (.ret (.cmp .lt (.var 2) (.var 3))) .nil) .nil) (.cons (.fgt [2, 3]) .nil)))
def B_21 : Sts := (.cons (.fors (.many [2, 3]) (.zip (.var 0) (.var 1)) B_21_b0) (.cons (.ret (.cmp .lt (.bi .len (.cons (.var 0) .nil)) (.bi .len (.cons (.var 1) .nil)))) .nil))
def F_21 : Fn := ⟨2, 4, B_21⟩
def B_22 : Sts := (.cons (.asg (.one 2) (.bin .add (.bin .add (.var 1) (.lit (.int 2))) (.mth .sindex (.glob "GREAT" (.str [65, 66, 67, 68, 69, 70, 71, 72, 73, 74, 75, 76])) (.cons (.idx (.var 0) (.var 1)) .nil)))) (.cons (.asg (.one 3) (.sl (.var 0) (.yes (.bin .add (.var 1) (.lit (.int 1)))) (.yes (.var 2)))) (.cons (.ifs (.or2 (.cmp .ne (.bi .len (.cons (.var 3) .nil)) (.bin .sub (.bin .sub (.var 2) (.var 1)) (.lit (.int 1)))) (.not1 (.bi .all (.cons (.comp (.one 4) (.e (.var 3)) .no (.cmp .isin (.var 4) (.glob "FIGURES" (.str [48, 49, 50, 51, 52, 53, 54, 55, 56, 57])))) .nil)))) (.cons (.rais 3) .nil) .nil) (.cons (.ifs (.and2 (.cmp .gt (.bi .len (.cons (.var 3) .nil)) (.lit (.int 1))) (.cmp .eq (.idx (.var 3) (.lit (.int 0))) (.lit (.str [48])))) (.cons (.rais 3) .nil) .nil) (.cons (.ret (.tup (.cons (.bi .int (.cons (.var 3) .nil)) (.cons (.var 2) .nil)))) .nil)))))
def F_22 : Fn := ⟨2, 5, B_22⟩
def B_23 : Sts := (.cons (.asg (.one 2) (.mth .sfind (.var 0) (.cons (.lit (.str [46])) (.cons (.var 1) .nil)))) (.cons (.ifs (.or2 (.cmp .lt (.var 2) (.lit (.int 0))) (.not1 (.call 1 (.cons (.sl (.var 0) (.yes (.bin .add (.var 1) (.lit (.int 1)))) (.yes (.var 2))) .nil)))) (.cons (.rais 3) .nil) .nil) (.cons (.ret (.tup (.cons (.sl (.var 0) (.yes (.bin .add (.var 1) (.lit (.int 1)))) (.yes (.var 2))) (.cons (.bin .add (.var 2) (.lit (.int 1))) .nil)))) .nil)))
def F_23 : Fn := ⟨2, 3, B_23⟩
def B_24_c0 : E := (.cmp .lt (.var 2) (.bi .len (.cons (.var 0) .nil)))
def B_24_b1 : Sts := (.cons (.ifs (.cmp .isin (.idx (.var 0) (.var 2)) (.glob "GREAT" (.str [65, 66, 67, 68, 69, 70, 71, 72, 73, 74, 75, 76]))) (.cons (.asg (.many [3, 2]) (.call 22 (.cons (.var 0) (.cons (.var 2) .nil)))) .nil) (.cons (.ifs (.cmp .eq (.idx (.var 0) (.var 2)) (.lit (.str [116]))) (.cons (.asg (.many [3, 2]) (.call 23 (.cons (.var 0) (.cons (.var 2) .nil)))) .nil) (.cons (.rais 3) .nil)) .nil)) (.cons (.app 1 (.var 3)) (.cons (.fgt [3]) .nil)))
def B_24 : Sts := (.cons (.ifs (.not1 (.isi [.str] (.var 0))) (.cons (.rais 3) .nil) .nil) (.cons (.own 1 (.lst .nil)) (.cons (.asg (.one 2) (.lit (.int 0))) (.cons (.whl B_24_c0 B_24_b1) (.cons (.ifs (.not1 (.call 3 (.cons (.bi .tuple (.cons (.var 1) .nil)) .nil))) (.cons (.rais 3) .nil) .nil) (.cons (.ret (.bi .tuple (.cons (.var 1) .nil))) .nil))))))
def F_24 : Fn := ⟨1, 4, B_24⟩
def B_25_b0 : Sts := (.cons (.asg (.one 3) (.idx (.var 0) (.var 2))) (.cons (.asg (.one 4) (.idx (.var 1) (.var 2))) (.cons (.ifs (.cmp .ne (.isi [.str] (.var 3)) (.isi [.str] (.var 4))) (.cons (.ret (.isi [.str] (.var 4))) .nil) .nil) (.cons (.ifs (.cmp .ne (.var 3) (.var 4)) (.cons (.ret (.cmp .lt (.var 3) (.var 4))) .nil) .nil) (.cons (.fgt [2, 3, 4]) .nil)))))
def B_25 : Sts := (.cons (.fors (.one 2) (.rng1 (.bi .min (.cons (.bi .len (.cons (.var 0) .nil)) (.cons (.bi .len (.cons (.var 1) .nil)) .nil)))) B_25_b0) (.cons (.ret (.cmp .lt (.bi .len (.cons (.var 0) .nil)) (.bi .len (.cons (.var 1) .nil)))) .nil))
def F_25 : Fn := ⟨2, 5, B_25⟩
def B_26 : Sts := (.cons (.asg (.one 2) (.call 21 (.cons (.var 0) (.cons (.var 1) .nil)))) (.cons (.ifs (.or2 (.not1 (.isi [.bool] (.var 2))) (.cmp .ne (.var 2) (.call 25 (.cons (.var 0) (.cons (.var 1) .nil))))) (.cons (.ret (.lit (.bl false))) .nil) .nil) (.cons (.ifs (.cmp .ne (.var 2) (.cmp .lt (.call 6 (.cons (.var 0) .nil)) (.call 6 (.cons (.var 1) .nil)))) (.cons (.ret (.lit (.bl false))) .nil) .nil) (.cons (.ret (.cmp .eq (.cmp .eq (.var 0) (.var 1)) (.cmp .eq (.call 6 (.cons (.var 0) .nil)) (.call 6 (.cons (.var 1) .nil))))) .nil))))
def F_26 : Fn := ⟨2, 3, B_26⟩
def B_27_b0 : Sts := (.cons (.ifs (.or2 (.not1 (.call 26 (.cons (.idx (.var 1) (.var 2)) (.cons (.var 5) .nil)))) (.not1 (.call 26 (.cons (.var 5) (.cons (.idx (.var 1) (.var 2)) .nil))))) (.cons (.ret (.lit (.bl false))) .nil) .nil) (.cons (.fgt [5]) .nil))
def B_27_b1 : Sts := (.cons (.fors (.one 5) (.e (.lst (.cons (.idx (.var 1) (.bin .sub (.var 2) (.lit (.int 1)))) (.cons (.idx (.var 1) (.lit (.int 0))) .nil)))) B_27_b0) (.cons (.fgt [2, 5]) .nil))
def B_27_b2 : Sts := (.cons (.ifs (.or2 (.call 25 (.cons (.idx (.var 4) (.var 2)) (.cons (.idx (.var 4) (.bin .sub (.var 2) (.lit (.int 1)))) .nil))) (.call 21 (.cons (.idx (.var 4) (.var 2)) (.cons (.idx (.var 4) (.bin .sub (.var 2) (.lit (.int 1)))) .nil)))) (.cons (.ret (.lit (.bl false))) .nil) .nil) (.cons (.fgt [2]) .nil))
def B_27 : Sts := (.cons (.asg (.one 1) (.comp (.one 2) (.rng1 (.bin .add (.bi .min (.cons (.lit (.int 60)) (.cons (.bi .len (.cons (.var 0) .nil)) .nil))) (.lit (.int 2)))) .no (.call 11 (.cons (.call 7 (.cons (.var 0) (.cons (.var 2) .nil))) .nil)))) (.cons (.fgt [0]) (.cons (.fors (.one 2) (.rng2 (.lit (.int 1)) (.bi .len (.cons (.var 1) .nil))) B_27_b1) (.cons (.asg (.one 3) (.bi .sorted (.cons (.comp (.one 7) (.e (.var 1)) .no (.call 6 (.cons (.var 7) .nil))) .nil))) (.cons (.asg (.one 4) (.comp (.one 6) (.e (.var 3)) .no (.call 24 (.cons (.var 6) .nil)))) (.cons (.fors (.one 2) (.rng2 (.lit (.int 1)) (.bi .len (.cons (.var 4) .nil))) B_27_b2) (.cons (.ret (.and2 (.cmp .eq (.bi .sorted (.cons (.comp (.one 7) (.e (.var 4)) .no (.call 6 (.cons (.var 7) .nil))) .nil)) (.var 3)) (.not1 (.call 21 (.cons (.idx (.var 1) (.lit (.int 0))) (.cons (.idx (.var 1) (.lit (.int 0))) .nil)))))) .nil)))))))
def F_27 : Fn := ⟨1, 8, B_27⟩
def B_28_b0 : Sts := (.cons (.ifs (.isi [.str] (.var 2)) (.cons (.asg (.one 1) (.bin .add (.bin .add (.bin .add (.var 1) (.lit (.str [116]))) (.var 2)) (.lit (.str [46])))) .nil) (.cons (.asg (.one 1) (.bin .add (.bin .add (.var 1) (.idx (.lit (.str [65, 66, 67, 68, 69, 70, 71, 72, 73, 74, 75, 76])) (.bin .sub (.bi .len (.cons (.bi .str (.cons (.var 2) .nil)) .nil)) (.lit (.int 1))))) (.bi .str (.cons (.var 2) .nil)))) .nil)) (.cons (.fgt [2]) .nil))
def B_28 : Sts := (.cons (.asg (.one 1) (.lit (.str []))) (.cons (.fors (.one 2) (.e (.var 0)) B_28_b0) (.cons (.ret (.var 1)) .nil)))
def F_28 : Fn := ⟨1, 3, B_28⟩
def B_29 : Sts := (.cons (.ifs (.isi [.list, .tuple] (.var 1)) (.cons (.ifs (.or2 (.cmp .ne (.isi [.list] (.var 0)) (.isi [.list] (.var 1))) (.not1 (.isi [.list, .tuple] (.var 0)))) (.cons (.ret (.lit (.bl false))) .nil) .nil) (.cons (.ifs (.cmp .ne (.bi .len (.cons (.var 0) .nil)) (.bi .len (.cons (.var 1) .nil))) (.cons (.ret (.lit (.bl false))) .nil) .nil) (.cons (.ret (.cmp .eq (.comp (.one 2) (.rng1 (.bi .len (.cons (.var 1) .nil))) (.yes (.not1 (.call 29 (.cons (.idx (.var 0) (.var 2)) (.cons (.idx (.var 1) (.var 2)) .nil))))) (.var 2)) (.lst .nil))) .nil))) .nil) (.cons (.ifs (.or2 (.isN false (.var 0)) (.isN false (.var 1))) (.cons (.ret (.and2 (.isN false (.var 0)) (.isN false (.var 1)))) .nil) .nil) (.cons (.ifs (.or2 (.cmp .ne (.isi [.bool] (.var 0)) (.isi [.bool] (.var 1))) (.cmp .ne (.isi [.str] (.var 0)) (.isi [.str] (.var 1)))) (.cons (.ret (.lit (.bl false))) .nil) .nil) (.cons (.ret (.cmp .eq (.var 0) (.var 1))) .nil))))
def F_29 : Fn := ⟨2, 3, B_29⟩
def B_30_b0 : Sts := (.cons (.asg (.one 6) (.call 6 (.cons (.var 3) .nil))) (.cons (.ifs (.or2 (.not1 (.isi [.str] (.var 6))) (.or2 (.cmp .ne (.var 6) (.call 28 (.cons (.var 3) .nil))) (.not1 (.call 29 (.cons (.call 24 (.cons (.var 6) .nil)) (.cons (.var 3) .nil)))))) (.cons (.ret (.lit (.bl false))) .nil) .nil) (.cons (.app 2 (.var 6)) (.cons (.fgt [3, 6]) .nil))))
def B_30_b1 : Sts := (.cons (.ifs (.cmp .ne (.cmp .eq (.idx (.var 2) (.var 4)) (.idx (.var 2) (.var 7))) (.cmp .eq (.idx (.var 1) (.var 4)) (.idx (.var 1) (.var 7)))) (.cons (.ret (.lit (.bl false))) .nil) .nil) (.cons (.ifs (.and2 (.cmp .eq (.bi .len (.cons (.idx (.var 1) (.var 4)) .nil)) (.bi .len (.cons (.idx (.var 1) (.var 7)) .nil))) (.cmp .ne (.idx (.var 1) (.var 4)) (.idx (.var 1) (.var 7)))) (.cons (.ifs (.or2 (.mth .sstarts (.idx (.var 2) (.var 4)) (.cons (.idx (.var 2) (.var 7)) .nil)) (.mth .sstarts (.idx (.var 2) (.var 7)) (.cons (.idx (.var 2) (.var 4)) .nil))) (.cons (.ret (.lit (.bl false))) .nil) .nil) .nil) .nil) (.cons (.fgt [7]) .nil)))
def B_30_b2 : Sts := (.cons (.fors (.one 7) (.rng1 (.var 4)) B_30_b1) (.cons (.fgt [4, 7]) .nil))
def B_30 : Sts := (.cons (.asg (.one 1) (.comp (.one 4) (.rng1 (.bin .add (.bi .min (.cons (.lit (.int 60)) (.cons (.bi .len (.cons (.var 0) .nil)) .nil))) (.lit (.int 2)))) .no (.call 11 (.cons (.call 7 (.cons (.var 0) (.cons (.var 4) .nil))) .nil)))) (.cons (.own 2 (.lst .nil)) (.cons (.fgt [0]) (.cons (.fors (.one 3) (.e (.var 1)) B_30_b0) (.cons (.fors (.one 4) (.rng1 (.bi .len (.cons (.var 1) .nil))) B_30_b2) (.cons (.asg (.one 5) (.comp (.one 6) (.e (.var 2)) .no (.call 24 (.cons (.var 6) .nil)))) (.cons (.ret (.and2 (.cmp .eq (.var 5) (.var 1)) (.cmp .eq (.comp (.one 3) (.e (.var 5)) .no (.call 6 (.cons (.var 3) .nil))) (.var 2)))) .nil)))))))
def F_30 : Fn := ⟨1, 8, B_30⟩
def B_32_c0 : E := (.cmp .lt (.var 2) (.bi .len (.cons (.var 0) .nil)))
def B_32_b1 : Sts := (.cons (.asg (.one 3) (.bin .add (.mth .sfind (.lit (.str [65, 66, 67, 68, 69, 70, 71, 72, 73, 74, 75, 76])) (.cons (.idx (.var 0) (.var 2)) .nil)) (.lit (.int 1)))) (.cons (.asg (.one 4) (.bin .add (.bin .add (.var 2) (.lit (.int 1))) (.var 3))) (.cons (.ifs (.cmp .eq (.var 3) (.lit (.int 0))) (.cons (.ifs (.or2 (.cmp .ne (.idx (.var 0) (.var 2)) (.lit (.str [116]))) (.cmp .notin (.lit (.str [46])) (.sl (.var 0) (.yes (.var 2)) .no))) (.cons (.ret (.lit .non)) .nil) .nil) (.cons (.asg (.one 4) (.bin .add (.mth .sindex (.var 0) (.cons (.lit (.str [46])) (.cons (.var 2) .nil))) (.lit (.int 1)))) (.cons (.asg (.one 5) (.sl (.var 0) (.yes (.bin .add (.var 2) (.lit (.int 1)))) (.yes (.bin .sub (.var 4) (.lit (.int 1)))))) (.cons (.asg (.one 6) (.comp (.one 7) (.e (.var 5)) (.yes (.cmp .notin (.var 7) (.lit (.str [97, 98, 99, 100, 101, 102, 103, 104, 105, 106, 107, 108, 109, 110, 111, 112, 113, 114, 115, 116, 117, 118, 119, 120, 121, 122])))) (.var 7))) (.cons (.ifs (.or2 (.cmp .gt (.bi .len (.cons (.var 5) .nil)) (.lit (.int 8))) (.cmp .ne (.var 6) (.lst .nil))) (.cons (.ret (.lit .non)) .nil) .nil) .nil))))) (.cons (.asg (.one 5) (.sl (.var 0) (.yes (.bin .add (.var 2) (.lit (.int 1)))) (.yes (.var 4)))) (.cons (.asg (.one 6) (.comp (.one 7) (.e (.var 5)) (.yes (.cmp .notin (.var 7) (.lit (.str [48, 49, 50, 51, 52, 53, 54, 55, 56, 57])))) (.var 7))) (.cons (.ifs (.or2 (.cmp .lt (.bi .len (.cons (.var 5) .nil)) (.var 3)) (.cmp .ne (.var 6) (.lst .nil))) (.cons (.ret (.lit .non)) .nil) .nil) (.cons (.ifs (.and2 (.cmp .gt (.var 3) (.lit (.int 1))) (.cmp .eq (.idx (.var 5) (.lit (.int 0))) (.lit (.str [48])))) (.cons (.ret (.lit .non)) .nil) .nil) (.cons (.asg (.one 5) (.bi .int (.cons (.var 5) .nil))) .nil)))))) (.cons (.fgt [6]) (.cons (.app 1 (.var 5)) (.cons (.asg (.one 2) (.var 4)) (.cons (.fgt [3, 4, 5, 6]) .nil)))))))
def B_32 : Sts := (.cons (.own 1 (.lst .nil)) (.cons (.asg (.one 2) (.lit (.int 0))) (.cons (.whl B_32_c0 B_32_b1) (.cons (.ifs (.or2 (.cmp .lt (.bi .len (.cons (.var 1) .nil)) (.lit (.int 1))) (.cmp .gt (.bi .len (.cons (.var 1) .nil)) (.lit (.int 4)))) (.cons (.ret (.lit .non)) .nil) .nil) (.cons (.ret (.bi .tuple (.cons (.var 1) .nil))) .nil)))))
def F_32 : Fn := ⟨1, 8, B_32⟩
def B_33_b0 : Sts := (.cons (.asg (.one 1) (.call 24 (.cons (.var 0) .nil))) .nil)
def B_33 : Sts := (.cons (.asg (.one 1) (.lit .non)) (.cons (.asg (.one 2) (.lit .non)) (.cons (.tri B_33_b0 0 (some 3) (.cons (.asg (.one 2) (.var 3)) .nil)) (.cons (.ret (.tup (.cons (.call 14 (.cons (.var 2) .nil)) (.cons (.var 1) .nil)))) .nil))))
def F_33 : Fn := ⟨1, 4, B_33⟩
def B_48_b0 : Sts := (.cons (.asg (.one 1) (.call 6 (.cons (.var 0) .nil))) .nil)
def B_48 : Sts := (.cons (.asg (.one 1) (.lit .non)) (.cons (.asg (.one 2) (.lit .non)) (.cons (.tri B_48_b0 0 (some 3) (.cons (.asg (.one 2) (.var 3)) .nil)) (.cons (.ret (.tup (.cons (.call 14 (.cons (.var 2) .nil)) (.cons (.var 1) .nil)))) .nil))))
def F_48 : Fn := ⟨1, 4, B_48⟩
def B_49_b0 : Sts := (.cons (.asg (.many [3, 4]) (.call 33 (.cons (.var 0) .nil))) (.cons (.ifs (.and2 (.isN false (.var 1)) (.cmp .ne (.var 3) (.lit (.str [78, 111, 67, 111, 100, 101])))) (.cons (.ret (.lit (.bl false))) .nil) .nil) (.cons (.ifs (.and2 (.isN true (.var 1)) (.or2 (.cmp .ne (.var 3) (.lit (.str []))) (.or2 (.not1 (.call 29 (.cons (.var 4) (.cons (.var 1) .nil)))) (.cmp .ne (.call 6 (.cons (.var 4) .nil)) (.var 0))))) (.cons (.ret (.lit (.bl false))) .nil) .nil) (.cons (.fgt [2, 3, 4]) .nil))))
def B_49 : Sts := (.cons (.asg (.one 1) (.call 32 (.cons (.var 0) .nil))) (.cons (.fors (.one 2) (.rng1 (.lit (.int 2))) B_49_b0) (.cons (.ret (.lit (.bl true))) .nil)))
def F_49 : Fn := ⟨1, 5, B_49⟩
def B_53_b0 : Sts := (.cons (.asg (.one 2) (.bin .add (.var 2) (.idx (.var 1) (.bin .mod (.bin .fdiv (.var 3) (.var 5)) (.var 4))))) (.cons (.asg (.one 5) (.bin .mul (.var 5) (.lit (.int 8)))) (.cons (.fgt [6]) .nil)))
def B_53 : Sts := (.cons (.asg (.one 1) (.lit (.str [97, 98, 65, 46, 48, 126, 32, 55]))) (.cons (.asg (.one 2) (.idx (.lst (.cons (.lit (.str [])) (.cons (.lit (.str [97])) (.cons (.lit (.str [97, 98])) (.cons (.lit (.str [65, 55, 116])) (.cons (.bin .mul (.lit (.str [97])) (.bin .mod (.bin .fdiv (.var 0) (.lit (.int 7))) (.lit (.int 40)))) (.cons (.bin .mul (.lit (.str [107])) (.bin .mod (.bin .fdiv (.var 0) (.lit (.int 7))) (.lit (.int 93)))) .nil))))))) (.bin .mod (.bin .mod (.var 0) (.lit (.int 7))) (.lit (.int 6))))) (.cons (.asg (.one 3) (.bin .fdiv (.var 0) (.lit (.int 300)))) (.cons (.asg (.one 4) (.idx (.lst (.cons (.lit (.int 2)) (.cons (.lit (.int 8)) .nil))) (.bin .mod (.bin .fdiv (.var 3) (.lit (.int 11))) (.lit (.int 2))))) (.cons (.asg (.one 5) (.lit (.int 16))) (.cons (.fgt [0]) (.cons (.fors (.one 6) (.rng1 (.bin .mod (.var 3) (.idx (.lst (.cons (.lit (.int 3)) (.cons (.lit (.int 8)) .nil))) (.bin .mod (.bin .fdiv (.var 3) (.lit (.int 8))) (.lit (.int 2)))))) B_53_b0) (.cons (.ret (.var 2)) .nil))))))))
def F_53 : Fn := ⟨1, 7, B_53⟩
def ML : List (Nat × Fn) := [(0, F_0), (1, F_1), (2, F_2), (3, F_3), (4, F_4), (5, F_5), (6, F_6), (7, F_7), (8, F_8), (9, F_9), (10, F_10), (11, F_11), (12, F_12), (13, F_13), (14, F_14), (15, F_15), (16, F_16), (17, F_17), (18, F_18), (19, F_19), (20, F_20), (21, F_21), (22, F_22), (23, F_23), (24, F_24), (25, F_25), (26, F_26), (27, F_27), (28, F_28), (29, F_29), (30, F_30), (32, F_32), (33, F_33), (48, F_48), (49, F_49), (53, F_53)]
def M (k : Nat) : Option Fn := ML.lookup k
def EXr : List Nat := [1]
def EXs : List Nat := [0, 1, 2, 3, 4, 5, 6, 7, 8, 9, 10, 11]
def sb : Nat → Nat → Option Bool := sbOf EXr EXs
theorem u_0 (n : Nat) (d0 d1 d2 : D) (m : Mu) : callF M sb (n + 1) 0 [d0, d1, d2] m = (evSs ⟨callF M sb n, sb⟩ B_0 [some d0, some d1, some d2] m).res := rfl
theorem u_1 (n : Nat) (d0 : D) (m : Mu) : callF M sb (n + 1) 1 [d0] m = (evSs ⟨callF M sb n, sb⟩ B_1 [some d0, none] m).res := rfl
theorem u_2 (n : Nat) (d0 : D) (m : Mu) : callF M sb (n + 1) 2 [d0] m = (evSs ⟨callF M sb n, sb⟩ B_2 [some d0] m).res := rfl
theorem u_3 (n : Nat) (d0 : D) (m : Mu) : callF M sb (n + 1) 3 [d0] m = (evSs ⟨callF M sb n, sb⟩ B_3 [some d0, none] m).res := rfl
theorem u_4 (n : Nat) (d0 : D) (m : Mu) : callF M sb (n + 1) 4 [d0] m = (evSs ⟨callF M sb n, sb⟩ B_4 [some d0] m).res := rfl
theorem u_5 (n : Nat) (d0 : D) (m : Mu) : callF M sb (n + 1) 5 [d0] m = (evSs ⟨callF M sb n, sb⟩ B_5 [some d0, none] m).res := rfl
theorem u_6 (n : Nat) (d0 : D) (m : Mu) : callF M sb (n + 1) 6 [d0] m = (evSs ⟨callF M sb n, sb⟩ B_6 [some d0, none] m).res := rfl
theorem u_7 (n : Nat) (d0 d1 : D) (m : Mu) : callF M sb (n + 1) 7 [d0, d1] m = (evSs ⟨callF M sb n, sb⟩ B_7 [some d0, some d1, none, none, none, none, none] m).res := rfl
theorem u_8 (n : Nat) (d0 : D) (m : Mu) : callF M sb (n + 1) 8 [d0] m = (evSs ⟨callF M sb n, sb⟩ B_8 [some d0] m).res := rfl
theorem u_9 (n : Nat) (d0 : D) (m : Mu) : callF M sb (n + 1) 9 [d0] m = (evSs ⟨callF M sb n, sb⟩ B_9 [some d0, none, none, none, none] m).res := rfl
theorem u_10 (n : Nat) (d0 : D) (m : Mu) : callF M sb (n + 1) 10 [d0] m = (evSs ⟨callF M sb n, sb⟩ B_10 [some d0, none] m).res := rfl
theorem u_11 (n : Nat) (d0 : D) (m : Mu) : callF M sb (n + 1) 11 [d0] m = (evSs ⟨callF M sb n, sb⟩ B_11 [some d0, none, none, none] m).res := rfl
theorem u_12 (n : Nat) (d0 : D) (m : Mu) : callF M sb (n + 1) 12 [d0] m = (evSs ⟨callF M sb n, sb⟩ B_12 [some d0, none] m).res := rfl
theorem u_13 (n : Nat) (d0 : D) (m : Mu) : callF M sb (n + 1) 13 [d0] m = (evSs ⟨callF M sb n, sb⟩ B_13 [some d0, none] m).res := rfl
theorem u_14 (n : Nat) (d0 : D) (m : Mu) : callF M sb (n + 1) 14 [d0] m = (evSs ⟨callF M sb n, sb⟩ B_14 [some d0, none] m).res := rfl
theorem u_15 (n : Nat) (d0 : D) (m : Mu) : callF M sb (n + 1) 15 [d0] m = (evSs ⟨callF M sb n, sb⟩ B_15 [some d0, none] m).res := rfl
theorem u_16 (n : Nat) (d0 : D) (m : Mu) : callF M sb (n + 1) 16 [d0] m = (evSs ⟨callF M sb n, sb⟩ B_16 [some d0, none, none, none] m).res := rfl
theorem u_17 (n : Nat) (d0 : D) (m : Mu) : callF M sb (n + 1) 17 [d0] m = (evSs ⟨callF M sb n, sb⟩ B_17 [some d0, none, none] m).res := rfl
theorem u_18 (n : Nat) (d0 : D) (m : Mu) : callF M sb (n + 1) 18 [d0] m = (evSs ⟨callF M sb n, sb⟩ B_18 [some d0, none, none, none] m).res := rfl
theorem u_19 (n : Nat) (d0 d1 : D) (m : Mu) : callF M sb (n + 1) 19 [d0, d1] m = (evSs ⟨callF M sb n, sb⟩ B_19 [some d0, some d1, none, none] m).res := rfl
theorem u_20 (n : Nat) (d0 : D) (m : Mu) : callF M sb (n + 1) 20 [d0] m = (evSs ⟨callF M sb n, sb⟩ B_20 [some d0, none, none, none] m).res := rfl
end MP
set_option maxRecDepth 100000
set_option maxHeartbeats 8000000
set_option autoImplicit false
namespace MP
open PySem L2
def trnG {α : Type} (f : α → Mu → Res (Option D)) : List α → Mu → Res (List D)
  | [], m => .ok [] m
  | x :: xs, m => (f x m).bind fun o m1 => (trnG f xs m1).bind fun r m2 => .ok (match o with | some y => y :: r | none => r) m2
theorem trn_map {α : Type} {f : D → Mu → Res (Option D)} {g : α → D} {z : Lz f} : ∀ {l : List α} {m : Mu}, trnL f (List.map g l) m z = trnG (fun x m' => f (g x) m') l m
  | [], m => rfl
  | x :: l, m => by
    show (f (g x) m).bind _ = (f (g x) m).bind _
    refine congrArg _ (funext fun o => funext fun m1 => ?_)
    show Res.bind (trnL f (List.map g l) m1 z) _ = Res.bind (trnG _ l m1) _
    rw [trn_map]
    try rfl
theorem trn_nil {f : D → Mu → Res (Option D)} {m : Mu} {z : Lz f} : trnL f [] m z = .ok [] m := rfl
def consO (o : Option D) (r : List D) : List D := match o with
  | some y => y :: r
  | none => r
theorem consO_s {y : D} {r : List D} : consO (some y) r = y :: r := rfl
theorem consO_n {r : List D} : consO none r = r := rfl
theorem trn_cons {f : D → Mu → Res (Option D)} {x : D} {xs : List D} {m : Mu} {z : Lz f} : trnL f (x :: xs) m z = bnd (f x m) (fun o m1 => bnd (trnL f xs m1 .mk) (fun r m2 => .ok (consO o r) m2) .mk) .mk := by
  show (f x m).bind _ = (f x m).bind _
  refine congrArg _ (funext fun o => funext fun m1 => ?_)
  show Res.bind (turns f xs m1) _ = Res.bind (turns f xs m1) _
  refine congrArg _ (funext fun r => funext fun m2 => ?_)
  cases o <;> rfl
theorem trnG_all {α : Type} {f : α → Mu → Res (Option D)} (g : α → D) {m : Mu} : ∀ {l : List α}, (∀ x ∈ l, f x m = .ok (some (g x)) m) → trnG f l m = .ok (l.map g) m
  | [], _ => rfl
  | x :: l, h => by
    rw [trnG, h x List.mem_cons_self, Res.bind_ok, trnG_all g fun y hy => h y (List.mem_cons_of_mem _ hy), Res.bind_ok]
    rfl
theorem trnG_fil {α : Type} {f : α → Mu → Res (Option D)} (p : α → Bool) (g : α → D) {m : Mu} : ∀ {l : List α}, (∀ x ∈ l, f x m = .ok (if p x = true then some (g x) else none) m) → trnG f l m = .ok ((l.filter p).map g) m
  | [], _ => rfl
  | x :: l, h => by
    rw [trnG, h x List.mem_cons_self, Res.bind_ok, trnG_fil p g fun y hy => h y (List.mem_cons_of_mem _ hy), Res.bind_ok]
    cases hp : p x with
    | true => rw [List.filter_cons_of_pos (by rw [hp])]; rfl
    | false => rw [List.filter_cons_of_neg (by rw [hp]; exact Bool.false_ne_true)]; rfl
theorem trnG_map {α : Type} {g : α → D} {l : List α} {m : Mu} : trnG (fun x m' => .ok (some (g x)) m') l m = .ok (l.map g) m := trnG_all g fun _ _ => rfl
def bK (t : Bool) (r : Res (Option D)) (m : Mu) : Res (Option D) := if t = true then r else .ok none m
theorem bK_t {r : Res (Option D)} {m : Mu} : bK true r m = r := rfl
theorem bK_f {r : Res (Option D)} {m : Mu} : bK false r m = .ok none m := rfl
theorem v_cK {C : Cfg} {c : OE} {e : E} {ρ : Env'} {m2 : Mu} : cV C c e (some ρ) m2 = bnd (evK C c ρ m2) (fun t m3 => bK t (bnd (evE C e ρ m3) (fun y m4 => .ok (some y) m4) .mk) m3) .mk := by
  show Res.bind _ _ = Res.bind _ _
  refine congrArg _ (funext fun t => funext fun m3 => ?_)
  cases t <;> rfl
theorem trnG_fmap {α : Type} {p : α → Bool} {g : α → D} {l : List α} {m : Mu} : trnG (fun x m' => bK (p x) (.ok (some (g x)) m') m') l m = .ok ((l.filter p).map g) m := trnG_fil p g fun x _ => by
  cases h : p x with
  | true => rw [bK_t]; rfl
  | false => rw [bK_f]; rfl
def runB (o : Option Env') (b : Env' → Mu → Fl) (m : Mu) (_ : Lz b) : Fl := match o with
  | some ρ => b ρ m
  | none => .stuck
theorem runB_s {ρ : Env'} {b : Env' → Mu → Fl} {m : Mu} {z : Lz b} : runB (some ρ) b m z = b ρ m := rfl
theorem for_list {α : Type} {tg : Tgt} {b : Env' → Mu → Fl} {z : Lz b} {enc : α → D} (env : List α → Env') (mu : List α → Mu) : ∀ (l pre : List α), (∀ p x q, l = p ++ x :: q → runB (bindT tg (enc x) (env (pre ++ p))) b (mu (pre ++ p)) .mk = .nxt (env (pre ++ p ++ [x])) (mu (pre ++ p ++ [x]))) →
    forL tg b (l.map enc) (env pre) (mu pre) z = .nxt (env (pre ++ l)) (mu (pre ++ l))
  | [], pre, _ => by rw [List.append_nil]; rfl
  | x :: l, pre, h => by
    have h0 := h [] x l rfl
    rw [List.append_nil] at h0
    show forGo tg b (enc x :: l.map enc) (env pre) (mu pre) = _
    rw [forGo]
    unfold runB at h0
    cases hb : bindT tg (enc x) (env pre) with
    | none => rw [hb] at h0; cases h0
    | some ρ1 =>
      rw [hb] at h0
      show (match b ρ1 (mu pre) with | .nxt ρ2 m2 => forGo tg b (l.map enc) ρ2 m2 | r => r) = _
      rw [show b ρ1 (mu pre) = _ from h0]
      have : forGo tg b (l.map enc) (env (pre ++ [x])) (mu (pre ++ [x])) = .nxt (env (pre ++ [x] ++ l)) (mu (pre ++ [x] ++ l)) := for_list (z := z) env mu l (pre ++ [x]) fun p y q e => by
        have := h (x :: p) y q (by rw [e]; rfl)
        simpa [List.append_assoc] using this
      simpa [List.append_assoc] using this
theorem for_pre {α : Type} {tg : Tgt} {b : Env' → Mu → Fl} {z : Lz b} {enc : α → D} {l : List α} (env : List α → Env') (mu : List α → Mu) (h : ∀ p x q, l = p ++ x :: q → runB (bindT tg (enc x) (env p)) b (mu p) .mk = .nxt (env (p ++ [x])) (mu (p ++ [x]))) :
    forL tg b (l.map enc) (env []) (mu []) z = .nxt (env l) (mu l) := for_list env mu l [] fun p x q e => h p x q e
theorem for_rng {tg : Tgt} {b : Env' → Mu → Fl} {z : Lz b} {enc : Nat → D} {n : Nat} (env : Nat → Env') (mu : Nat → Mu) (h : ∀ j, j < n → runB (bindT tg (enc j) (env j)) b (mu j) .mk = .nxt (env (j + 1)) (mu (j + 1))) :
    forL tg b ((List.range n).map enc) (env 0) (mu 0) z = .nxt (env n) (mu n) := by
  have := for_pre (z := z) (enc := enc) (l := List.range n) (fun p => env p.length) (fun p => mu p.length) fun p x q e => by
    have hx : x = p.length := by
      have h1 : (List.range n)[p.length]? = some x := by rw [e]; simp
      rw [List.getElem?_range] at h1
      · exact (Option.some.inj h1).symm
      · have : (List.range n).length = (p ++ x :: q).length := by rw [e]
        rw [List.length_range, List.length_append, List.length_cons] at this
        omega
    have hn : p.length < n := by
      have : (List.range n).length = (p ++ x :: q).length := by rw [e]
      rw [List.length_range, List.length_append, List.length_cons] at this
      omega
    subst hx
    have := h p.length hn
    simpa using this
  simpa using this
theorem rng1_n {n : Nat} (h : n ≤ 100000) : rng1D (.int (n : Int)) = some ((List.range n).map fun k => D.int (k : Nat)) := by
  rw [rng1_ok (by omega) (by omega), Int.toNat_natCast]
  unfold rngL
  refine congrArg some (List.map_congr_left fun k _ => ?_)
  rw [Int.zero_add]
theorem rng1_i {i : Int} (h0 : 0 ≤ i) (h : i ≤ 100000) : rng1D (.int i) = some ((List.range i.toNat).map fun k => D.int (k : Nat)) := by
  obtain ⟨n, rfl⟩ := Int.eq_ofNat_of_zero_le h0
  rw [rng1_n (by omega), Int.toNat_natCast]
theorem sizeD_n : sizeD = 16777216 := rfl
theorem nc0 : ((0 : Nat) : Int) = 0 := rfl
theorem nc1 : ((1 : Nat) : Int) = 1 := rfl
theorem nc2 : ((2 : Nat) : Int) = 2 := rfl
theorem nc3 : ((3 : Nat) : Int) = 3 := rfl
theorem nc4 : ((4 : Nat) : Int) = 4 := rfl
theorem nc5 : ((5 : Nat) : Int) = 5 := rfl
theorem nc6 : ((6 : Nat) : Int) = 6 := rfl
theorem nc7 : ((7 : Nat) : Int) = 7 := rfl
theorem nc8 : ((8 : Nat) : Int) = 8 := rfl
theorem nc9 : ((9 : Nat) : Int) = 9 := rfl
theorem it_l {l : List D} : iterD (.lst l) = some l := rfl
theorem it_t {l : List D} : iterD (.tup l) = some l := rfl
theorem it_s {s : List Nat} : iterD (.str s) = some (s.map fun c => .str [c]) := rfl
theorem rv_l {l : List D} : revD (.lst l) = some l.reverse := rfl
theorem rv_t {l : List D} : revD (.tup l) = some l.reverse := rfl
theorem ix_t0 {a : D} {l : List D} : idxD (.tup (a :: l)) (.int 0) = some a := by rw [i_tup (by omega) (by simp)]; rfl
theorem ix_t1 {a b : D} {l : List D} : idxD (.tup (a :: b :: l)) (.int 1) = some b := by rw [i_tup (by omega) (by simp)]; rfl
theorem ix_t2 {a b c : D} {l : List D} : idxD (.tup (a :: b :: c :: l)) (.int 2) = some c := by rw [i_tup (by omega) (by simp)]; rfl
theorem ix_l0 {a : D} {l : List D} : idxD (.lst (a :: l)) (.int 0) = some a := by rw [i_lst (by omega) (by simp)]; rfl
theorem ix_l1 {a b : D} {l : List D} : idxD (.lst (a :: b :: l)) (.int 1) = some b := by rw [i_lst (by omega) (by simp)]; rfl
theorem ix_l2 {a b c : D} {l : List D} : idxD (.lst (a :: b :: c :: l)) (.int 2) = some c := by rw [i_lst (by omega) (by simp)]; rfl
theorem ix_sn {s : List Nat} {i : Nat} {c : Nat} (h : s[i]? = some c) : idxD (.str s) (.int (i : Int)) = some (.str [c]) := by
  have hi := (List.getElem?_eq_some_iff.mp h).1
  show ((placeD s.length (i : Int)).bind (s[·]?)).map _ = _
  rw [i_place (by omega) (by omega), Int.toNat_natCast, Option.bind_some, h]
  rfl
theorem bi_lt {l : List D} : biD .list [.tup l] = some (.lst l) := rfl
theorem bi_ll {l : List D} : biD .list [.lst l] = some (.lst l) := rfl
theorem bi_ls {s : List Nat} : biD .list [.str s] = some (.lst (s.map fun c => .str [c])) := rfl
theorem bi_tl {l : List D} : biD .tuple [.lst l] = some (.tup l) := rfl
theorem bi_tt {l : List D} : biD .tuple [.tup l] = some (.tup l) := rfl
theorem bi_ib {b : Bool} : biD .int [.bl b] = some (.int (if b then 1 else 0)) := rfl
theorem bi_ii {i : Int} : biD .int [.int i] = some (.int i) := rfl
theorem bi_min {i j : Int} : biD .min [.int i, .int j] = some (.int (if j < i then j else i)) := rfl
theorem bi_max {i j : Int} : biD .max [.int i, .int j] = some (.int (if j > i then j else i)) := rfl
theorem bls_map {α : Type} (p : α → Bool) : ∀ l : List α, blsOf (l.map fun x => D.bl (p x)) = some (l.map p)
  | [] => rfl
  | x :: l => by rw [List.map_cons, blsOf, bls_map p l]; rfl
theorem bi_all {α : Type} {p : α → Bool} {l : List α} : biD .all [.lst (l.map fun x => D.bl (p x))] = some (.bl (l.all p)) := by
  show (blsOf _).map _ = _
  rw [bls_map]
  show some (D.bl ((l.map p).all id)) = _
  rw [List.all_map]
  rfl
theorem bi_any {α : Type} {p : α → Bool} {l : List α} : biD .any [.lst (l.map fun x => D.bl (p x))] = some (.bl (l.any p)) := by
  show (blsOf _).map _ = _
  rw [bls_map]
  show some (D.bl ((l.map p).any id)) = _
  rw [List.any_map]
  rfl
theorem ints_map {α : Type} (f : α → Int) : ∀ l : List α, intsOf (l.map fun x => D.int (f x)) = some (l.map f)
  | [] => rfl
  | x :: l => by rw [List.map_cons, intsOf, ints_map f l]; rfl
theorem bi_sum {α : Type} {f : α → Int} {l : List α} : biD .sum [.lst (l.map fun x => D.int (f x))] = some (.int (l.map f).sum) := by
  show (intsOf _).map _ = _
  rw [ints_map]
  rfl
theorem a_add {x y : Int} : augD .add (.int x) (.int y) = some (.int (x + y)) := rfl
theorem a_sub {x y : Int} : augD .sub (.int x) (.int y) = some (.int (x - y)) := rfl
theorem c_neI {a b : Int} : cmpD .ne (.int a) (.int b) = some (!decide (a = b)) := by
  show (cmpD .eq (.int a) (.int b)).map (!·) = _
  rw [c_eqI]; rfl
theorem c_neS {a b : List Nat} : cmpD .ne (.str a) (.str b) = some (!decide (a = b)) := by
  show (cmpD .eq (.str a) (.str b)).map (!·) = _
  rw [c_eqS]; rfl
theorem t_int {i : Int} : truth (.int i) = some (i != 0) := rfl
theorem t_str {s : List Nat} : truth (.str s) = some (!s.isEmpty) := rfl
theorem t_lst {s : List D} : truth (.lst s) = some (!s.isEmpty) := rfl
theorem t_tup {s : List D} : truth (.tup s) = some (!s.isEmpty) := rfl
theorem t_non : truth .non = some false := rfl
theorem cl_i {i : Int} : clsD (.int i) = some "int" := rfl
theorem cl_s {s : List Nat} : clsD (.str s) = some "str" := rfl
theorem cl_b {b : Bool} : clsD (.bl b) = some "bool" := rfl
theorem cl_t {l : List D} : clsD (.tup l) = some "tuple" := rfl
theorem cl_l {l : List D} : clsD (.lst l) = some "list" := rfl
theorem cl_n : clsD .non = some "NoneType" := rfl
theorem cl_d {l : List (D × D)} : clsD (.dic l) = some "dict" := rfl
theorem isNon_l {l : List D} : isNon (.lst l) = false := rfl
theorem isNon_b {b : Bool} : isNon (.bl b) = false := rfl
theorem isNon_d {l : List (D × D)} : isNon (.dic l) = false := rfl
theorem b_four {i j k l : Nat} {a b c d : D} {ρ : Env'} : bindT (.many [i, j, k, l]) (.tup [a, b, c, d]) ρ = some ((((ρ.set i (some a)).set j (some b)).set k (some c)).set l (some d)) := rfl
theorem forL_cons {tg : Tgt} {b : Env' → Mu → Fl} {x : D} {xs : List D} {ρ : Env'} {m : Mu} {z : Lz b} : forL tg b (x :: xs) ρ m z = sq (runB (bindT tg x ρ) b m .mk) (fun ρ1 m1 => forL tg b xs ρ1 m1 z) .mk := by
  show forGo tg b (x :: xs) ρ m = _
  rw [forGo]
  unfold runB
  cases bindT tg x ρ with
  | none => rfl
  | some ρ1 =>
    show (match b ρ1 m with | .nxt ρ2 m2 => forGo tg b xs ρ2 m2 | r => r) = sq (b ρ1 m) _ _
    cases b ρ1 m <;> rfl
theorem for_const {α : Type} {tg : Tgt} {b : Env' → Mu → Fl} {z : Lz b} {enc : α → D} {ρ : Env'} {m : Mu} : ∀ {l : List α}, (∀ x ∈ l, runB (bindT tg (enc x) ρ) b m .mk = .nxt ρ m) → forL tg b (l.map enc) ρ m z = .nxt ρ m
  | [], _ => rfl
  | x :: l, h => by
    rw [List.map_cons, forL_cons, h x List.mem_cons_self, sq_n]
    exact for_const fun y hy => h y (List.mem_cons_of_mem _ hy)
theorem eqv_strs : ∀ k l : List (List Nat), PyData.eqvAll (D.toPys (k.map D.str)) (D.toPys (l.map D.str)) = decide (k = l)
  | [], [] => rfl
  | [], _ :: _ => rfl
  | _ :: _, [] => rfl
  | p :: k, q :: l => by
    show (PyData.eqv (.str (S p)) (.str (S q)) && PyData.eqvAll (D.toPys (k.map D.str)) (D.toPys (l.map D.str))) = _
    rw [eqv_strs k l]
    by_cases h : p = q
    · subst h
      by_cases h2 : k = l <;> simp [PyData.eqv, h2]
    · have : S p ≠ S q := fun q' => h (S_inj q')
      simp [PyData.eqv, h, this]
theorem deps_strs : ∀ l : List (List Nat), D.deps (l.map D.str) = 0
  | [] => rfl
  | a :: l => by rw [List.map_cons, D.deps, deps_strs l]; rfl
theorem c_eqSs {k l : List (List Nat)} : cmpD .eq (.lst (k.map D.str)) (.lst (l.map D.str)) = some (decide (k = l)) := by
  show eqD _ _ = _
  unfold eqD
  rw [if_pos ⟨by rw [D.flat]; exact flats_strs k, by rw [D.flat]; exact flats_strs l, .inl (by rw [D.dep, deps_strs]; decide)⟩]
  congr 1
  show PyData.eqv (.list (D.toPys (k.map D.str))) (.list (D.toPys (l.map D.str))) = _
  rw [PyData.eqv]
  exact eqv_strs k l
theorem c_eqS0 {k : List (List Nat)} : cmpD .eq (.lst (k.map D.str)) (.lst []) = some k.isEmpty := by
  have := c_eqSs (k := k) (l := [])
  rw [List.map_nil] at this
  rw [this]
  cases k <;> rfl
theorem c_eq1 {l : List Nat} : cmpD .eq (.lst (l.map fun c => D.str [c])) (.lst []) = some l.isEmpty := by
  have := c_eqS0 (k := l.map fun c => [c])
  rw [List.map_map] at this
  rw [show (l.map fun c => D.str [c]) = l.map (D.str ∘ fun c => [c]) from rfl, this]
  cases l <;> rfl
theorem other_all {f L : List Nat} : (f.filter fun c => !decide (c ∈ L)).isEmpty = f.all fun c => decide (c ∈ L) := by
  induction f with
  | nil => rfl
  | cons x f ih =>
    by_cases h : x ∈ L
    · rw [List.filter_cons_of_neg (by simp [h]), ih, List.all_cons, decide_eq_true h, Bool.true_and]
    · rw [List.filter_cons_of_pos (by simp [h]), List.all_cons, decide_eq_false h, Bool.false_and]
      rfl
end MP
namespace MP
open PySem L2
local macro_rules
  | `(tactic| push_cast [$xs,*]) => `(tactic| simp (config := {dsimp := false, implicitDefEqProofs := false}) (disch := first | assumption | omega | (rw [sizeD_n]; omega) | decide) only [↓v_var, ↓v_lit, ↓v_glob, ↓v_bin, ↓v_cmp, ↓v_isN, ↓v_chain, ↓v_and, ↓v_or, ↓v_not, ↓v_ifx, ↓v_idx, ↓v_sl, ↓v_slS, ↓v_tup, ↓v_lst, ↓v_dic0, ↓v_comp, ↓v_cT, ↓v_cK, ↓v_call, ↓v_bi, ↓v_mth, ↓v_isi, ↓v_nil, ↓v_cons, ↓v_kno, ↓v_kyes, ↓v_pno, ↓v_pyes, ↓v_ie, ↓v_r1, ↓v_r2, ↓v_r3, ↓v_rev, ↓v_zip, ↓v_enum, ↓v_T, ↓w_asg, ↓w_own, ↓w_aug, ↓w_augS, ↓w_app, ↓w_appS, ↓w_drop, ↓w_ret, ↓w_retN, ↓w_ifs, ↓w_whl, ↓w_for, ↓w_rais, ↓w_tri, ↓v_isx, ↓v_isxT, ↓w_asgX, ↓w_asgU, ↓v_tzip, ↓v_rep, tz_ll, triF_n, triF_r, triF_e, triE_n, isx_n, isx_x, isxT_n, isxT_x, isNon_x, ↓w_pas, ↓w_fgt, ↓w_nil, ↓w_cons, ↓v_mop, ↓v_ext, ↓v_new, ↓v_meth, ↓v_make, ↓v_callD, ↓v_lrep, ↓v_cat, ↓v_sortK, ↓v_sortI, ↓v_compL, ↓w_ownB, ↓w_sfld, ↓w_faug, ↓w_ssub, ↓w_forsL, ↓w_setx, ↓w_setS, setI, dr_i, dr_s, dr_l, dr_t, dr_b, dr_n, dr_d, dr_x, drs_n, drs_c,
      bC_t, bC_f, bK_t, bK_f, bnd_o, bnd_e, bfl_o, bfl_e, sq_n, sq_r, sq_e, res_r, res_n, res_e, getS_s, intP_i, stO_s, runB_s, b_one, b_two, b_twoL, b_three, b_threeL, b_four, wp_one, wp_two, wp_three, mtOn_s, mtTxt, wipe_n, wipe_c, isNon_i, isNon_n, isNon_t, isNon_s, isNon_l, isNon_b, isNon_d, Res.opt_some, Res.calm_ok, Option.map_some, trn_map, trn_nil, trn_cons, consO_s, consO_n, trnG_map, trnG_fmap,
      List.set_cons_zero, List.set_cons_succ, List.getElem?_cons_zero, List.getElem?_cons_succ, List.length_cons, List.length_nil, List.length_map, List.length_range, List.map_map, Function.comp_def, b_add, b_sub, b_mul, b_mul2, b_div, b_mod, b_addS, b_addL, b_addT, a_add, a_sub, t_bl, t_int, t_str, t_lst, t_tup, t_non, len_l, len_t, len_s, it_l, it_t, it_s, rv_l, rv_t, ix_t0, ix_t1, ix_t2, ix_l0, ix_l1, ix_l2, bi_lt, bi_ll, bi_ls, bi_tl, bi_tt, bi_ib, bi_ii, bi_min, bi_max, bi_all, bi_any, bi_sum, c_lt, c_le, c_gt, c_ge, c_ltS, c_leS, c_gtS, c_geS, c_eqI, c_eqS, c_neI, c_neS, cl_i, cl_s, cl_b, cl_t, cl_l, cl_n, cl_d, tyD, List.any_cons, List.any_nil, Bool.not_true, Bool.not_false, Bool.or_false, Bool.or_true, Bool.false_or, Bool.true_or, bne_self_eq_false, bne_iff_ne, Bool.bne_true, Bool.bne_false, decide_true, decide_false, nc0, nc1, nc2, nc3, nc4, nc5, nc6, nc7, nc8, nc9, Nat.reduceAdd, Nat.reduceSub, Nat.reduceMul, Nat.reduceLT, Nat.reduceLeDiff, Int.reduceAdd, Int.reduceSub, Int.reduceMul, Int.reduceLT, Int.reduceLE, $xs,*])
set_option maxRecDepth 100000
set_option maxHeartbeats 8000000
set_option autoImplicit false
section
open PySem L2
abbrev SC (ns : List Int) : D := .lst (ns.map D.int)
theorem nat200 (n : Nat) (h : n < 1000000) : ((n : Int)).natAbs < 2 ^ 200 := by
  rw [Int.natAbs_natCast]
  exact Nat.lt_trans h (by decide)
theorem p18 : binD .pow (.int 10) (.int 18) = some (.int (10 ^ 18)) := b_pow 10 18 (by decide) (by decide)
theorem p9 : binD .pow (.int 10) (.int 9) = some (.int (10 ^ 9)) := b_pow 10 9 (by decide) (by decide)
theorem cell_ok2 (n : Nat) {ns : List Int} (hl : ns.length ≤ 63) {k : Int} (h0 : 0 ≤ k) (h1 : k ≤ 10 ^ 9) (m : Mu) : callF M sb (n + 1) 7 [SC ns, .int k] m = .ok (.int (cellV ns k)) m := by
  have e1 : ∀ (i : Int), (i % 2147483647).natAbs < 2 ^ 64 := fun i => mod_small (by decide) (by decide)
  have e2 : ∀ (i : Int), (i % 2147483629).natAbs < 2 ^ 64 := fun i => mod_small (by decide) (by decide)
  have a1 : (7919 : Int).natAbs < 2 ^ 64 := by decide
  have a2 : (48271 : Int).natAbs < 2 ^ 64 := by decide
  have a3 : (104729 : Int).natAbs < 2 ^ 64 := by decide
  have a4 : (69621 : Int).natAbs < 2 ^ 64 := by decide
  rw [u_7]
  cases ns with
  | nil =>
    have hn := ne_nil [] rfl
    push_cast [B_7, SC, List.map_nil, hn, List.isEmpty_nil, e1, e2, a1, a2, a3, a4]
    rfl
  | cons x r =>
    have hL : ((x :: r).map D.int).length = (x :: r).length := List.length_map ..
    have hL0 : (0 : Int) < ((x :: r).length : Int) := by simp only [List.length_cons]; omega
    have hne : (((x :: r).map D.int).isEmpty) = false := rfl
    generalize hN : (x :: r) = ns at hl hL hL0 hne ⊢
    have m1 := Int.emod_nonneg k (show (ns.length : Int) ≠ 0 by omega)
    have m2 := Int.emod_lt_of_pos k hL0
    have hi : (k % (ns.length : Int)).toNat < (ns.map D.int).length := by rw [hL]; omega
    have hi' : (k % (ns.length : Int)).toNat < ns.length := by omega
    have hix : idxD (.lst (ns.map D.int)) (.int (k % (ns.length : Int))) = some (.int (ns[(k % (ns.length : Int)).toNat]?.getD 0)) := by
      rw [i_lst m1 hi, List.getElem_map, List.getElem?_eq_getElem hi']
      rfl
    have hd : k / (ns.length : Int) ≤ 10 ^ 9 := Int.le_trans (Int.ediv_le_self _ h0) h1
    have hd0 : 0 ≤ k / (ns.length : Int) := Int.ediv_nonneg h0 (by omega)
    have e4 : (k / (ns.length : Int) + 1).natAbs < 2 ^ 64 := by omega
    have e5 : ((ns.length : Int)).natAbs < 2 ^ 200 := nat200 _ (by omega)
    have e6 : ((10 : Int) ^ 18).natAbs < 2 ^ 200 := by decide
    have e7 : (0 : Int) < 1 + (k / (ns.length : Int) + 1) * 4014476939333036189094441199026045136645885247730 := by omega
    have e8 : (0 : Int) < 10 ^ 18 := by decide
    have hv : cellV ns k = cellE k (ns[(k % (ns.length : Int)).toNat]?.getD 0 * 48271 + 104729 * k + k / (ns.length : Int) * 7919) (if 10 ^ 18 ≤ ns[(k % (ns.length : Int)).toNat]?.getD 0 then ns[(k % (ns.length : Int)).toNat]?.getD 0 / 10 ^ 18 % (1 + (k / (ns.length : Int) + 1) * 4014476939333036189094441199026045136645885247730) else 0) := by
      rw [← hN]
      rfl
    have hnn := ne_nil _ (flats_ints ns)
    rw [hv]
    by_cases hx : 10 ^ 18 ≤ ns[(k % (ns.length : Int)).toNat]?.getD 0
    · push_cast [B_7, SC, hnn, hne, hL0, e5, hix, p18, hx, e4, e6, e7, e8, e1, e2, a1, a2, a3, a4, cellE, cellF, if_true]
    · push_cast [B_7, SC, hnn, hne, hL0, e5, hix, p18, hx, e4, e6, e7, e8, e1, e2, a1, a2, a3, a4, cellE, cellF, if_false]
end
set_option maxRecDepth 100000
set_option maxHeartbeats 8000000
set_option autoImplicit false
section
open PySem L2
theorem rep_flat1 (n x : Nat) : (List.replicate n [x]).flatten = List.replicate n x := by
  induction n with
  | zero => rfl
  | succ n ih => rw [List.replicate_succ, List.flatten_cons, ih]; rfl
end
set_option maxRecDepth 100000
set_option maxHeartbeats 8000000
set_option autoImplicit false
section
open PySem L2
theorem subS_one (c : Nat) (b : List Nat) : subS [c] b = decide (c ∈ b) := by
  have := PySem.StrLaws.found_one (S b) c
  unfold subS
  rw [S_len] at this
  exact this
theorem c_in1 {c : Nat} {b : List Nat} : cmpD .isin (.str [c]) (.str b) = some (decide (c ∈ b)) := by
  show some (subS [c] b) = _
  rw [subS_one]
theorem c_notin1 {c : Nat} {b : List Nat} : cmpD .notin (.str [c]) (.str b) = some (!decide (c ∈ b)) := by
  show (some (subS [c] b)).map (!·) = _
  rw [subS_one]; rfl
def Cl (d : D) : Prop := ∃ s, clsD d = some s
def numB (a b : Int) : D → Bool
  | .int i => decide (a ≤ i) && decide (i ≤ b)
  | _ => false
def lowL : List Nat := [97, 98, 99, 100, 101, 102, 103, 104, 105, 106, 107, 108, 109, 110, 111, 112, 113, 114, 115, 116, 117, 118, 119, 120, 121, 122]
def grtL : List Nat := [65, 66, 67, 68, 69, 70, 71, 72, 73, 74, 75, 76]
def lowB (x : Nat) : Bool := decide (x ∈ lowL)
def wordB : D → Bool
  | .str s => decide (s.length ≤ 8) && s.all lowB
  | _ => false
def partB (d : D) : Bool := numB 0 999999999999 d || wordB d
def keyB : D → Bool
  | .tup l => decide (1 ≤ l.length) && decide (l.length ≤ 4) && l.all partB
  | _ => false
section
variable (n : Nat) (m : Mu)
theorem isnum_ok {d : D} (a b : Int) (h : Cl d) : callF M sb (n + 1) 0 [d, .int a, .int b] m = .ok (.bl (numB a b d)) m := by
  obtain ⟨s, hs⟩ := h
  rw [u_0]
  cases d with
  | int i =>
    by_cases q : a ≤ i
    · push_cast [B_0, numB, q, Bool.true_and]
    · push_cast [B_0, numB, q, Bool.false_and]
  | obj i => cases hs
  | exc i => cases hs
  | _ => push_cast [B_0, numB]
theorem isword_ok {d : D} (h : Cl d) : callF M sb (n + 1) 1 [d] m = .ok (.bl (wordB d)) m := by
  obtain ⟨s, hs⟩ := h
  rw [u_1]
  cases d with
  | str s =>
    by_cases q : s.length ≤ 8
    · have q1 : ¬ (8 : Int) < (s.length : Int) := by omega
      push_cast [B_1, wordB, q, q1, c_in1, Bool.true_and]
      rfl
    · have q1 : (8 : Int) < (s.length : Int) := by omega
      push_cast [B_1, wordB, q, q1, Bool.false_and]
  | obj i => cases hs
  | exc i => cases hs
  | _ => push_cast [B_1, wordB]
theorem ispart_ok {d : D} (h : Cl d) : callF M sb (n + 2) 2 [d] m = .ok (.bl (partB d)) m := by
  rw [u_2]
  have h1 := isnum_ok n m 0 999999999999 h
  have h2 := isword_ok n m h
  unfold partB
  cases hb : numB 0 999999999999 d with
  | true =>
    rw [hb] at h1
    push_cast [B_2, h1, h2]
  | false =>
    rw [hb] at h1
    push_cast [B_2, h1, h2]
theorem iskey_ok {d : D} (h : Cl d) (hl : ∀ l, d = .tup l → ∀ x ∈ l, Cl x) : callF M sb (n + 3) 3 [d] m = .ok (.bl (keyB d)) m := by
  obtain ⟨s, hs⟩ := h
  rw [u_3]
  cases d with
  | tup l =>
    by_cases q : 1 ≤ l.length
    · have q0 : (1 : Int) ≤ (l.length : Int) := by omega
      by_cases q4 : l.length ≤ 4
      · have q1 : (l.length : Int) ≤ 4 := by omega
        have hm : trnL (cT ⟨callF M sb (n + 2), sb⟩ (.one 1) .no (.call 2 (.cons (.var 1) .nil)) [some (.tup l), none]) l m .mk = .ok (l.map fun x => D.bl (partB x)) m := by
          have := trn_map (f := cT ⟨callF M sb (n + 2), sb⟩ (.one 1) .no (.call 2 (.cons (.var 1) .nil)) [some (.tup l), none]) (g := id) (z := .mk) (l := l) (m := m)
          rw [List.map_id] at this
          rw [this]
          refine trnG_all _ fun x hx => ?_
          have := ispart_ok n m (hl l rfl x hx)
          push_cast [id, this]
        push_cast [B_3, keyB, q, q0, q4, q1, hm, Bool.true_and]
      · have q1 : ¬ (l.length : Int) ≤ 4 := by omega
        push_cast [B_3, keyB, q, q0, q4, q1, Bool.false_and, Bool.true_and]
    · have q0 : ¬ (1 : Int) ≤ (l.length : Int) := by omega
      push_cast [B_3, keyB, q, q0, Bool.false_and]
  | obj i => cases hs
  | exc i => cases hs
  | _ => push_cast [B_3, keyB]
end
end
set_option maxRecDepth 100000
set_option maxHeartbeats 8000000
set_option autoImplicit false
section
open PySem L2
theorem strs_of_map {α : Type} (f : α → List Nat) : ∀ l : List α, strsOf (l.map fun x => D.str (f x)) = some (l.map f)
  | [] => rfl
  | x :: l => by rw [List.map_cons, strsOf, strs_of_map f l]; rfl
theorem joinL_nil : ∀ l : List (List Nat), TL.joinL [] l = l.flatten
  | [] => rfl
  | [p] => by simp [TL.joinL]
  | p :: q :: r => by
    rw [TL.joinL, joinL_nil (q :: r)]
    simp
theorem mt_joinD {α : Type} {f : α → List Nat} {l : List α} {a : List Nat} (h : ((l.map f).map List.length).sum + l.length * a.length ≤ 16777216) (h2 : (TL.joinL a (l.map f)).length ≤ 16777216) : mtD .sjoin (.str a) [.lst (l.map fun x => D.str (f x))] = some (.str (TL.joinL a (l.map f))) := by
  show (strsOf _).bind _ = _
  rw [strs_of_map]
  have e : tl (Txt.join (S a) ((l.map f).map S)) = TL.joinL a (l.map f) := by
    rw [TL.join_eq]
    have := TL.tl_join (S a) ((l.map f).map S)
    have e2 : ((l.map f).map S).map TL.tl = l.map f := by
      rw [List.map_map, show (TL.tl ∘ S) = id from funext fun x => tl_S x, List.map_id]
    rw [e2, show TL.tl (S a) = a from tl_S a] at this
    exact this
  show (if _ then strD (Txt.join (S a) ((l.map f).map S)) else none) = _
  rw [if_pos (by rw [List.length_map]; exact h)]
  unfold strD
  have e3 : (Txt.join (S a) ((l.map f).map S)).length = (TL.joinL a (l.map f)).length := by
    rw [← e]; simp [tl, Str.length]
  rw [if_pos (by rw [e3]; exact h2), e]
end
set_option maxRecDepth 100000
set_option maxHeartbeats 8000000
set_option autoImplicit false
section
open PySem L2
inductive KP where | n (i : Nat) | t (s : List Nat)
deriving DecidableEq
def KP.d : KP → D
  | .n i => .int (i : Int)
  | .t s => .str s
def KP.ok : KP → Prop
  | .n i => i < 10 ^ 12
  | .t s => s.length ≤ 8 ∧ ∀ x ∈ s, x ∈ lowL
def pcode : KP → List Nat
  | .n i => (64 + (numS i).length) :: numS i
  | .t s => 116 :: (s ++ [46])
def kcode (k : List KP) : List Nat := (k.map pcode).flatten
def kd (k : List KP) : List D := k.map KP.d
structure KOk (k : List KP) : Prop where
  lo : 1 ≤ k.length
  hi : k.length ≤ 4
  ok : ∀ p ∈ k, p.ok
theorem numS_pos (i : Nat) : 1 ≤ (numS i).length := List.length_pos_iff.mpr (TL.numL_ne i)
theorem numS_len {i : Nat} (h : i < 10 ^ 12) : (numS i).length ≤ 12 := TL.numL_len (by decide) h
theorem numS_int (i : Nat) (h : (numS i).length ≤ 600) : biD .int [.str (numS i)] = some (.int (i : Int)) := by
  show (if (numS i).length ≤ 640 then (PySem.intText? (S (numS i))).map D.int else none) = _
  rw [if_pos (by omega)]
  have e : S (numS i) = Str.ofString (toString ((i : Nat) : Int)) := by
    rw [← S_tl (Str.ofString (toString ((i : Nat) : Int)))]
    exact congrArg S (TL.tl_num i).symm
  rw [e, TL.int_num (n := i) (by show (numS i).length ≤ 4300; omega)]
  rfl
theorem str_num {i : Nat} (h : i < 10 ^ 60) : biD .str [.int (i : Int)] = some (.str (numS i)) := by
  have h2 : (i : Int) < 10 ^ 100 := by
    have : (10 : Int) ^ 60 ≤ 10 ^ 100 := by decide
    have : ((10 ^ 60 : Nat) : Int) = (10 : Int) ^ 60 := by decide
    omega
  rw [str_n (by omega) h2, Int.toNat_natCast]
theorem grt_ix {k : Nat} (h1 : 1 ≤ k) (h2 : k ≤ 12) : idxD (.str grtL) (.int ((k : Int) - 1)) = some (.str [64 + k]) := by
  rw [show (k : Int) - 1 = ((k - 1 : Nat) : Int) by omega]
  refine ix_sn ?_
  unfold grtL
  match k, h1, h2 with
  | 1, _, _ | 2, _, _ | 3, _, _ | 4, _, _ | 5, _, _ | 6, _, _ | 7, _, _ | 8, _, _ | 9, _, _ | 10, _, _ | 11, _, _ | 12, _, _ => rfl
  | k + 13, _, h => omega
section
variable (n : Nat) (m : Mu)
theorem pcode_ok {p : KP} (h : p.ok) : callF M sb (n + 1) 5 [p.d] m = .ok (.str (pcode p)) m := by
  rw [u_5]
  cases p with
  | n i =>
    have hi : i < 10 ^ 12 := h
    have h1 := str_num (i := i) (by omega)
    have h2 := grt_ix (numS_pos i) (numS_len hi)
    have h3 : [64 + (numS i).length].length + (numS i).length ≤ sizeD := by
      have := numS_len hi
      rw [sizeD_n]; simp only [List.length_singleton]; omega
    unfold grtL at h2
    push_cast [B_5, KP.d, h1, h2, b_addS h3, pcode, List.singleton_append]
  | t s =>
    have hs : s.length ≤ 8 := h.1
    have h3 : [116].length + s.length ≤ sizeD := by rw [sizeD_n]; simp only [List.length_singleton]; omega
    have h4 : ([116] ++ s).length + [46].length ≤ sizeD := by rw [sizeD_n, List.length_append]; simp only [List.length_singleton]; omega
    have e3 : binD .add (.str [116]) (.str s) = some (.str (116 :: s)) := b_addS h3
    have e4 : binD .add (.str (116 :: s)) (.str [46]) = some (.str (116 :: (s ++ [46]))) := b_addS (a := 116 :: s) (by rw [sizeD_n, List.length_cons]; simp only [List.length_singleton]; omega)
    push_cast [B_5, KP.d, e3, e4, pcode]
theorem cl_KP (p : KP) : Cl p.d := by cases p <;> exact ⟨_, rfl⟩
theorem partB_ok {p : KP} (h : p.ok) : partB p.d = true := by
  cases p with
  | n i =>
    have hi : i < 10 ^ 12 := h
    unfold partB numB KP.d
    simp only [Bool.or_eq_true, Bool.and_eq_true, decide_eq_true_eq]
    left; omega
  | t s =>
    unfold partB wordB KP.d lowB
    simp only [Bool.or_eq_true, Bool.and_eq_true, decide_eq_true_eq, List.all_eq_true]
    right; exact h
theorem keyB_ok {k : List KP} (h : KOk k) : keyB (.tup (kd k)) = true := by
  unfold keyB kd
  simp only [Bool.and_eq_true, decide_eq_true_eq, List.all_eq_true, List.length_map]
  refine ⟨⟨h.lo, h.hi⟩, fun x hx => ?_⟩
  obtain ⟨p, hp, rfl⟩ := List.mem_map.mp hx
  exact partB_ok (h.ok p hp)
theorem iskey_kd {k : List KP} (h : KOk k) : callF M sb (n + 3) 3 [.tup (kd k)] m = .ok (.bl true) m := by
  rw [iskey_ok n m ⟨_, rfl⟩ fun l e x hx => ?_, keyB_ok h]
  cases e
  obtain ⟨p, _, rfl⟩ := List.mem_map.mp hx
  exact cl_KP p
theorem pcode_len {p : KP} (h : p.ok) : (pcode p).length ≤ 13 ∧ 2 ≤ (pcode p).length := by
  cases p with
  | n i =>
    have := numS_len (show i < 10 ^ 12 from h)
    have := numS_pos i
    unfold pcode
    rw [List.length_cons]
    omega
  | t s =>
    have := h.1
    unfold pcode
    rw [List.length_cons, List.length_append, List.length_singleton]
    omega
theorem kcode_len {k : List KP} (h : ∀ p ∈ k, p.ok) : (kcode k).length ≤ 13 * k.length := by
  induction k with
  | nil => exact Nat.le_refl _
  | cons p k ih =>
    have h1 := (pcode_len (h p List.mem_cons_self)).1
    have h2 := ih fun q hq => h q (List.mem_cons_of_mem _ hq)
    unfold kcode at h2 ⊢
    rw [List.map_cons, List.flatten_cons, List.length_append, List.length_cons]
    omega
theorem len_flat (l : List (List Nat)) : (l.map List.length).sum = l.flatten.length := by
  rw [List.length_flatten]
theorem coded_ok {k : List KP} (h : KOk k) : callF M sb (n + 4) 6 [.tup (kd k)] m = .ok (.str (kcode k)) m := by
  rw [u_6]
  have h1 := iskey_kd n m h
  have h2 : trnL (cT ⟨callF M sb (n + 3), sb⟩ (.one 1) .no (.call 5 (.cons (.var 1) .nil)) [some (.tup (kd k)), none]) (kd k) m .mk = .ok (k.map fun p => D.str (pcode p)) m := by
    unfold kd
    rw [trn_map]
    refine trnG_all _ fun p hp => ?_
    have := pcode_ok (n + 2) m (h.ok p hp)
    push_cast [this]
  have hl := kcode_len h.ok
  have := h.hi
  have h3 := mt_joinD (f := pcode) (l := k) (a := []) (by
    rw [len_flat, List.length_nil, Nat.mul_zero]
    show (kcode k).length + 0 ≤ _
    omega) (by
    rw [joinL_nil]
    show (kcode k).length ≤ _
    omega)
  rw [joinL_nil] at h3
  push_cast [B_6, h1, h2, h3, kcode]
end
end
set_option maxRecDepth 100000
set_option maxHeartbeats 8000000
set_option autoImplicit false
set_option maxRecDepth 100000
set_option maxHeartbeats 8000000
set_option autoImplicit false
section
open PySem L2
theorem kd_len (k : List KP) : (kd k).length = k.length := List.length_map ..
end
set_option maxRecDepth 100000
set_option maxHeartbeats 1000000
set_option autoImplicit false
section
open PySem L2
def wSome (c : Int) : List Nat := if c / 9 % 2 = 0 then [97, 98, 122] else lowL
theorem wSome_pos (c : Int) : 0 < (wSome c).length ∧ (wSome c).length ≤ 26 ∧ ∀ x ∈ wSome c, x ∈ lowL := by
  unfold wSome
  split
  · refine ⟨by decide, by decide, fun x hx => ?_⟩
    unfold lowL
    simp at hx ⊢
    omega
  · exact ⟨by decide, by decide, fun x hx => hx⟩
def wSign (c r : Int) : Nat := (wSome c).getD (r % ((wSome c).length : Int)).toNat 0
def wSt (c : Int) : Nat → List Nat × Int
  | 0 => ([], c / 18)
  | k + 1 => ((wSt c k).1 ++ [wSign c (wSt c k).2], (wSt c k).2 / ((wSome c).length : Int) + 7919 * (k : Int))
def wordV (c : Int) : List Nat := (wSt c (c % 9).toNat).1
theorem wSign_low (c r : Int) : wSign c r ∈ lowL ∧ (wSome c)[(r % ((wSome c).length : Int)).toNat]? = some (wSign c r) := by
  obtain ⟨h1, h2, h3⟩ := wSome_pos c
  have a := Int.emod_nonneg r (show ((wSome c).length : Int) ≠ 0 by omega)
  have b := Int.emod_lt_of_pos r (show (0 : Int) < ((wSome c).length : Int) by omega)
  have hi : (r % ((wSome c).length : Int)).toNat < (wSome c).length := by omega
  have e : (wSome c)[(r % ((wSome c).length : Int)).toNat]? = some (wSign c r) := by
    unfold wSign
    rw [List.getD_eq_getElem?_getD, List.getElem?_eq_getElem hi]
    rfl
  exact ⟨h3 _ (List.mem_of_getElem? e), e⟩
theorem wSt_len (c : Int) : ∀ k, (wSt c k).1.length = k
  | 0 => rfl
  | k + 1 => by rw [wSt, List.length_append, wSt_len c k]; rfl
theorem wSt_low (c : Int) : ∀ k, ∀ x ∈ (wSt c k).1, x ∈ lowL
  | 0, x, h => by cases h
  | k + 1, x, h => by
    rw [wSt] at h
    rcases List.mem_append.mp h with h | h
    · exact wSt_low c k x h
    · rw [List.mem_singleton] at h
      rw [h]
      exact (wSign_low c _).1
theorem wordV_ok (c : Int) : (KP.t (wordV c)).ok := by
  have h := Int.emod_nonneg c (show (9 : Int) ≠ 0 by decide)
  have h2 := Int.emod_lt_of_pos c (show (0 : Int) < 9 by decide)
  refine ⟨?_, wSt_low c _⟩
  unfold wordV
  rw [wSt_len]
  omega
section
variable (n : Nat) (m : Mu)
theorem word_ok (c : Int) : callF M sb (n + 1) 9 [.int c] m = .ok (.str (wordV c)) m := by
  rw [u_9]
  have h0 := Int.emod_nonneg c (show (9 : Int) ≠ 0 by decide)
  have h1 := Int.emod_lt_of_pos c (show (0 : Int) < 9 by decide)
  obtain ⟨w1, w2, w3⟩ := wSome_pos c
  have d9 : ∀ i : Int, binD .fdiv (.int i) (.int 9) = some (.int (i / 9)) := fun i => b_div (by decide) (by decide)
  have d18 : ∀ i : Int, binD .fdiv (.int i) (.int 18) = some (.int (i / 18)) := fun i => b_div (by decide) (by decide)
  have hs : idxD (.lst [.str [97, 98, 122], .str [97, 98, 99, 100, 101, 102, 103, 104, 105, 106, 107, 108, 109, 110, 111, 112, 113, 114, 115, 116, 117, 118, 119, 120, 121, 122]]) (.int (c / 9 % 2)) = some (.str (wSome c)) := by
    unfold wSome lowL
    rcases (show c / 9 % 2 = 0 ∨ c / 9 % 2 = 1 by omega) with h | h <;> rw [h] <;> rfl
  have hr : rng1D (.int (c % 9)) = some ((List.range (c % 9).toNat).map fun k => D.int (k : Nat)) := rng1_i h0 (by omega)
  have loop := for_rng (tg := .one 4) (b := fun ρ m => evSs ⟨callF M sb n, sb⟩ B_9_b0 ρ m) (z := .mk) (enc := fun k => D.int (k : Nat)) (n := (c % 9).toNat) (fun j => [some (.int c), some (.str (wSt c j).1), some (.str (wSome c)), some (.int (wSt c j).2), none]) (fun _ => m) fun j hj => by
    have p1 : (0 : Int) < ((wSome c).length : Int) := by omega
    have p2 : ((wSome c).length : Int).natAbs < 2 ^ 200 := nat200 _ (by omega)
    have p3 : (7919 : Int).natAbs < 2 ^ 64 := by decide
    have hix : idxD (.str (wSome c)) (.int ((wSt c j).2 % ((wSome c).length : Int))) = some (.str [wSign c (wSt c j).2]) := by
      have a := Int.emod_nonneg (wSt c j).2 (show ((wSome c).length : Int) ≠ 0 by omega)
      have e : (wSt c j).2 % ((wSome c).length : Int) = ((((wSt c j).2 % ((wSome c).length : Int)).toNat : Nat) : Int) := by omega
      rw [e]
      refine ix_sn ?_
      exact (wSign_low c _).2
    have hz : (wSt c j).1.length + [wSign c (wSt c j).2].length ≤ sizeD := by rw [wSt_len, sizeD_n, List.length_singleton]; omega
    push_cast [B_9_b0, p1, p2, p3, hix, b_addS hz, wSt]
  simp only [wSt] at loop
  push_cast [B_9, d9, d18, hs, hr, loop, wordV]
theorem ten12 : (10 : Int) ^ 12 = 1000000000000 := by decide +kernel
theorem ok_n {i : Nat} (h : i < 10 ^ 12) : (KP.n i).ok := h
def partV (c : Int) : KP :=
  if c % 8 = 0 then .n (c / 8 % 12).toNat else if c % 8 = 1 then .n (95 + (c / 8 % 12).toNat)
  else if c % 8 = 2 then .n (10 ^ (c / 8 % 12).toNat - (c / 8 / 12 % 2).toNat) else if c % 8 = 3 then .n (c / 8 * (c / 8) * 7 % 1000000000000).toNat else .t (wordV (c / 8))
theorem ten_pow (j : Nat) (h : j < 12) : biD .int [.str (49 :: List.replicate j 48)] = some (.int ((10 ^ j : Nat) : Int)) := by
  have e : 49 :: List.replicate j 48 = numS (10 ^ j) := by
    match j, h with
    | 0, _ | 1, _ | 2, _ | 3, _ | 4, _ | 5, _ | 6, _ | 7, _ | 8, _ | 9, _ | 10, _ | 11, _ => decide +kernel
    | j + 12, h => omega
  rw [e]
  refine numS_int _ ?_
  rw [← e, List.length_cons, List.length_replicate]
  omega
theorem part_ok (c : Int) (hc : c.natAbs < 2 ^ 60) : callF M sb (n + 2) 10 [.int c] m = .ok (partV c).d m ∧ (partV c).ok := by
  have d8 : ∀ i : Int, binD .fdiv (.int i) (.int 8) = some (.int (i / 8)) := fun i => b_div (by decide) (by decide)
  have d12 : ∀ i : Int, binD .fdiv (.int i) (.int 12) = some (.int (i / 12)) := fun i => b_div (by decide) (by decide)
  have q0 := Int.emod_nonneg (c / 8) (show (12 : Int) ≠ 0 by decide)
  have q1 := Int.emod_lt_of_pos (c / 8) (show (0 : Int) < 12 by decide)
  have r0 := Int.emod_nonneg (c / 8 / 12) (show (2 : Int) ≠ 0 by decide)
  have r1 := Int.emod_lt_of_pos (c / 8 / 12) (show (0 : Int) < 2 by decide)
  rw [u_10]
  unfold partV
  by_cases h0 : c % 8 = 0
  · rw [if_pos h0]
    have e : c / 8 % 12 = (((c / 8 % 12).toNat : Nat) : Int) := by omega
    refine ⟨?_, ok_n (by omega)⟩
    push_cast [B_10, d8, h0, KP.d]
    rw [← e]
  · rw [if_neg h0]
    by_cases h1 : c % 8 = 1
    · rw [if_pos h1]
      refine ⟨?_, ok_n (by omega)⟩
      have e : 95 + c / 8 % 12 = ((95 + (c / 8 % 12).toNat : Nat) : Int) := by omega
      have g0 : ¬ (1 : Int) = 0 := by decide
      push_cast [B_10, d8, h1, g0, KP.d, e]
    · rw [if_neg h1]
      by_cases h2 : c % 8 = 2
      · rw [if_pos h2]
        have g0 : ¬ (2 : Int) = 0 := by decide
        have g1 : ¬ (2 : Int) = 1 := by decide
        obtain ⟨J, hJ⟩ : ∃ J : Nat, c / 8 % 12 = (J : Int) := ⟨(c / 8 % 12).toNat, by omega⟩
        obtain ⟨B, hB⟩ : ∃ B : Nat, c / 8 / 12 % 2 = (B : Int) := ⟨(c / 8 / 12 % 2).toNat, by omega⟩
        rw [hJ] at q0 q1
        rw [hB] at r0 r1
        rw [hJ, hB, Int.toNat_natCast, Int.toNat_natCast]
        have hp : 1 ≤ 10 ^ J := Nat.pow_pos (by decide)
        have hp2 : 10 ^ J ≤ 10 ^ 11 := Nat.pow_le_pow_right (by decide) (by omega)
        have u1 : binD .mul (.str [48]) (.int (J : Int)) = some (.str (List.replicate J 48)) := by rw [b_mulS (by omega) (by omega) (by rw [List.length_singleton]; omega), rep_flat1, Int.toNat_natCast]
        have u2 : binD .add (.str [49]) (.str (List.replicate J 48)) = some (.str (49 :: List.replicate J 48)) := b_addS (by rw [sizeD_n, List.length_replicate, List.length_singleton]; omega)
        have u3 := ten_pow J (by omega)
        generalize 10 ^ J = T at hp hp2 u3 ⊢
        have e : (T : Int) - (B : Int) = ((T - B : Nat) : Int) := by omega
        refine ⟨?_, ok_n (by omega)⟩
        push_cast [B_10, d8, d12, h2, g0, g1, hJ, hB, u1, u2, u3, KP.d, e]
      · rw [if_neg h2]
        by_cases h3 : c % 8 = 3
        · rw [if_pos h3]
          have s0 := Int.emod_nonneg (c / 8 * (c / 8) * 7) (show (1000000000000 : Int) ≠ 0 by decide)
          have s1 := Int.emod_lt_of_pos (c / 8 * (c / 8) * 7) (show (0 : Int) < 1000000000000 by decide)
          have g0 : ¬ (3 : Int) = 0 := by decide
          have g1 : ¬ (3 : Int) = 1 := by decide
          have g2 : ¬ (3 : Int) = 2 := by decide
          have m1 : binD .mul (.int (c / 8)) (.int (c / 8)) = some (.int (c / 8 * (c / 8))) := b_mul (by omega)
          have m2 : ∀ i : Int, binD .mul (.int i) (.int 7) = some (.int (i * 7)) := fun i => b_mul (by decide)
          have p12 : binD .pow (.int 10) (.int 12) = some (.int 1000000000000) := by rw [← ten12]; exact b_pow 10 12 (by decide) (by decide)
          have m3 : ∀ i : Int, binD .mod (.int i) (.int 1000000000000) = some (.int (i % 1000000000000)) := fun i => b_mod (by decide)
          obtain ⟨T, hT⟩ : ∃ T : Nat, c / 8 * (c / 8) * 7 % 1000000000000 = (T : Int) := ⟨_, (Int.toNat_of_nonneg s0).symm⟩
          rw [hT] at s1
          rw [hT, Int.toNat_natCast]
          have hT2 : T < 10 ^ 12 := by omega
          refine ⟨?_, ok_n hT2⟩
          push_cast [B_10, d8, h3, g0, g1, g2, m1, m2, p12, m3, KP.d, hT]
        · rw [if_neg h3]
          have hw := word_ok n m (c / 8)
          refine ⟨?_, wordV_ok _⟩
          push_cast [B_10, d8, h0, h1, h2, h3, hw, KP.d]
def keyN (c : Int) : Nat := match (c % 6).toNat with
  | 0 => 1 | 1 => 1 | 2 => 2 | 3 => 2 | 4 => 3 | _ => 4
def keyS (c : Int) : Int := c / 6 % (match (c / 11 % 3).toNat with | 0 => 7 | 1 => 60 | _ => 10 ^ 9)
def keyV (c : Int) : List KP := (List.range (keyN c)).map fun (j : Nat) => partV (keyS c * ((j : Int) + 1) + 104729 * (j : Int) * (j : Int))
theorem keyN_ok (c : Int) : 1 ≤ keyN c ∧ keyN c ≤ 4 := by
  unfold keyN
  split <;> omega
theorem keyS_ok (c : Int) : 0 ≤ keyS c ∧ keyS c < 10 ^ 9 := by
  unfold keyS
  split
  · exact ⟨Int.emod_nonneg _ (by decide), Int.lt_trans (Int.emod_lt_of_pos _ (by decide)) (by decide)⟩
  · exact ⟨Int.emod_nonneg _ (by decide), Int.lt_trans (Int.emod_lt_of_pos _ (by decide)) (by decide)⟩
  · exact ⟨Int.emod_nonneg _ (by decide), Int.emod_lt_of_pos _ (by decide)⟩
theorem key_arg (c : Int) {j : Nat} (hj : j < 4) : (keyS c * ((j : Int) + 1) + 104729 * (j : Int) * (j : Int)).natAbs < 2 ^ 60 := by
  have := keyS_ok c
  match j, hj with
  | 0, _ | 1, _ | 2, _ | 3, _ => simp; omega
theorem keyV_ok (c : Int) : KOk (keyV c) := by
  have h := keyN_ok c
  refine ⟨by unfold keyV; rw [List.length_map, List.length_range]; exact h.1, by unfold keyV; rw [List.length_map, List.length_range]; exact h.2, fun p hp => ?_⟩
  unfold keyV at hp
  obtain ⟨j, hj, rfl⟩ := List.mem_map.mp hp
  exact (part_ok 0 [] _ (key_arg c (by have := List.mem_range.mp hj; omega))).2
theorem key_ok (c : Int) : callF M sb (n + 3) 11 [.int c] m = .ok (.tup (kd (keyV c))) m := by
  have d6 : ∀ i : Int, binD .fdiv (.int i) (.int 6) = some (.int (i / 6)) := fun i => b_div (by decide) (by decide)
  have d11 : ∀ i : Int, binD .fdiv (.int i) (.int 11) = some (.int (i / 11)) := fun i => b_div (by decide) (by decide)
  have hk := keyN_ok c
  have hs := keyS_ok c
  have i1 : idxD (.lst [.int 7, .int 60, .int (10 ^ 9)]) (.int (c / 11 % 3)) = some (.int (match (c / 11 % 3).toNat with | 0 => 7 | 1 => 60 | _ => 10 ^ 9)) := by
    have a := Int.emod_nonneg (c / 11) (show (3 : Int) ≠ 0 by decide)
    have b := Int.emod_lt_of_pos (c / 11) (show (0 : Int) < 3 by decide)
    rcases (show c / 11 % 3 = 0 ∨ c / 11 % 3 = 1 ∨ c / 11 % 3 = 2 by omega) with h | h | h <;> rw [h] <;> rfl
  have i2 : idxD (.lst [.int 1, .int 1, .int 2, .int 2, .int 3, .int 4]) (.int (c % 6)) = some (.int (keyN c : Nat)) := by
    have a := Int.emod_nonneg c (show (6 : Int) ≠ 0 by decide)
    have b := Int.emod_lt_of_pos c (show (0 : Int) < 6 by decide)
    unfold keyN
    rcases (show c % 6 = 0 ∨ c % 6 = 1 ∨ c % 6 = 2 ∨ c % 6 = 3 ∨ c % 6 = 4 ∨ c % 6 = 5 by omega) with h | h | h | h | h | h <;> rw [h] <;> rfl
  have p1 : (0 : Int) < (match (c / 11 % 3).toNat with | 0 => 7 | 1 => 60 | _ => 10 ^ 9) := by split <;> decide
  have m1 : binD .mod (.int (c / 6)) (.int (match (c / 11 % 3).toNat with | 0 => 7 | 1 => 60 | _ => 10 ^ 9)) = some (.int (keyS c)) := b_mod p1
  have hr : rng1D (.int (keyN c : Nat)) = some ((List.range (keyN c)).map fun k => D.int (k : Nat)) := rng1_n (by omega)
  rw [u_11]
  have loop := for_rng (tg := .one 3) (b := fun ρ m => evSs ⟨callF M sb (n + 2), sb⟩ B_11_b0 ρ m) (z := .mk) (enc := fun k => D.int (k : Nat)) (n := keyN c) (fun j => [some (.int c), some (.int (keyS c)), some (.lst (kd ((List.range j).map fun (j : Nat) => partV (keyS c * ((j : Int) + 1) + 104729 * (j : Int) * (j : Int))))), none]) (fun _ => m) fun j hj => by
    have hp := (part_ok n m _ (key_arg c (j := j) (by omega))).1
    have a1 : ((j : Int) + 1).natAbs < 2 ^ 64 := by omega
    have a2 : (104729 : Int).natAbs < 2 ^ 64 := by decide
    have a3 : (j : Int).natAbs < 2 ^ 64 := by omega
    have hz : (kd ((List.range j).map fun (j : Nat) => partV (keyS c * ((j : Int) + 1) + 104729 * (j : Int) * (j : Int)))).length < sizeD := by
      rw [kd_len, List.length_map, List.length_range, sizeD_n]; omega
    have e : kd ((List.range j).map fun (j : Nat) => partV (keyS c * ((j : Int) + 1) + 104729 * (j : Int) * (j : Int))) ++ [(partV (keyS c * ((j : Int) + 1) + 104729 * (j : Int) * (j : Int))).d] = kd ((List.range (j + 1)).map fun (j : Nat) => partV (keyS c * ((j : Int) + 1) + 104729 * (j : Int) * (j : Int))) := by
      rw [List.range_succ, List.map_append]
      unfold kd
      rw [List.map_append]
      rfl
    push_cast [B_11_b0, a1, a2, a3, hp, hz, e]
  simp only [List.range_zero, List.map_nil, kd] at loop
  push_cast [B_11, d6, d11, p9, i1, m1, i2, hr, kd, loop, keyV]
end
end
set_option maxRecDepth 100000
set_option maxHeartbeats 1000000
set_option autoImplicit false
section
open PySem L2
def kD (k : List KP) : D := .tup (kd k)
end
set_option maxRecDepth 100000
set_option maxHeartbeats 1000000
set_option autoImplicit false
set_option maxRecDepth 100000
set_option maxHeartbeats 1000000
set_option autoImplicit false
set_option maxRecDepth 100000
set_option maxHeartbeats 4000000
set_option autoImplicit false
section
open PySem L2
theorem wordB_iff {w : List Nat} : wordB (.str w) = true ↔ (KP.t w).ok := by
  unfold wordB lowB KP.ok
  simp only [Bool.and_eq_true, decide_eq_true_eq, List.all_eq_true]
end
set_option maxRecDepth 100000
set_option maxHeartbeats 4000000
set_option autoImplicit false
section
open PySem L2
theorem wof_non (n : Nat) (m : Mu) : callF M sb (n + 1) 14 [.non] m = .ok (.str []) m := by
  rw [u_14]
  push_cast [B_14]
def sNoKey : List Nat := [78, 111, 75, 101, 121]
theorem wof_1 (n : Nat) (m : Mu) : callF M sb (n + 1) 14 [.exc 1] m = .ok (.str sNoKey) m := by
  rw [u_14]
  have s1 : sb 1 1 = some true := by decide
  have s2 : sb 1 2 = some false := by decide
  have s3 : sb 1 3 = some false := by decide
  have s4 : sb 1 4 = some false := by decide
  have s5 : sb 1 5 = some false := by decide
  have s6 : sb 1 6 = some false := by decide
  have s7 : sb 1 7 = some false := by decide
  have s8 : sb 1 8 = some false := by decide
  have s9 : sb 1 9 = some false := by decide
  have s10 : sb 1 10 = some false := by decide
  have s11 : sb 1 11 = some true := by decide
  have hz : 0 < sizeD := by decide
  push_cast [B_14, s1, s2, s3, s4, s5, s6, s7, s8, s9, s10, s11, hz, sNoKey, List.nil_append]
theorem coded_no (n : Nat) (m : Mu) {d : D} (h : Cl d) (hl : ∀ l, d = .tup l → ∀ x ∈ l, Cl x) (hk : keyB d = false) : callF M sb (n + 4) 6 [d] m = .err 1 m := by
  rw [u_6]
  have h1 := iskey_ok n m h hl
  rw [hk] at h1
  push_cast [B_6, h1]
end
set_option maxRecDepth 100000
set_option maxHeartbeats 4000000
set_option autoImplicit false
section
open PySem L2
theorem ten12p : binD .pow (.int 10) (.int 12) = some (.int 1000000000000) := by
  have h : (10 : Int) ^ 12 = 1000000000000 := by decide +kernel
  rw [← h]
  exact b_pow 10 12 (by decide) (by decide)
theorem lpart_ok (n : Nat) (m : Mu) {d : D} (h : Cl d) : callF M sb (n + 2) 12 [d] m = .ok (.bl (partB d)) m := by
  obtain ⟨s, hs⟩ := h
  rw [u_12, show n + 1 = n + 1 from rfl]
  have w : ∀ d : D, callF M sb (n + 1) 8 [d] m = (evSs ⟨callF M sb n, sb⟩ B_8 [some d] m).res := fun d => u_8 n d m
  cases d with
  | int i =>
    have w1 : callF M sb (n + 1) 8 [.int i] m = .ok (.bl true) m := by rw [u_8]; push_cast [B_8]
    by_cases q : 0 ≤ i
    · have e : decide (i < 1000000000000) = decide (i ≤ 999999999999) := by rw [decide_eq_decide]; omega
      push_cast [B_12, w1, partB, numB, wordB, q, ten12p, e, Bool.true_and]
    · push_cast [B_12, w1, partB, numB, wordB, q, ten12p, Bool.false_and]
  | bl b =>
    have w1 : callF M sb (n + 1) 8 [.bl b] m = .ok (.bl false) m := by rw [u_8]; push_cast [B_8]
    push_cast [B_12, w1, partB, numB, wordB]
  | str s =>
    by_cases q : s.length ≤ 8
    · have q1 : (s.length : Int) < 9 := by omega
      push_cast [B_12, partB, numB, wordB, q, q1, c_notin1, c_eq1, other_all, Bool.true_and]
      rfl
    · have q1 : ¬ (s.length : Int) < 9 := by omega
      push_cast [B_12, partB, numB, wordB, q, q1, Bool.false_and]
  | non =>
    have w1 : callF M sb (n + 1) 8 [.non] m = .ok (.bl false) m := by rw [u_8]; push_cast [B_8]
    push_cast [B_12, w1, partB, numB, wordB]
  | tup l =>
    have w1 : callF M sb (n + 1) 8 [.tup l] m = .ok (.bl false) m := by rw [u_8]; push_cast [B_8]
    push_cast [B_12, w1, partB, numB, wordB]
  | lst l =>
    have w1 : callF M sb (n + 1) 8 [.lst l] m = .ok (.bl false) m := by rw [u_8]; push_cast [B_8]
    push_cast [B_12, w1, partB, numB, wordB]
  | dic l =>
    have w1 : callF M sb (n + 1) 8 [.dic l] m = .ok (.bl false) m := by rw [u_8]; push_cast [B_8]
    push_cast [B_12, w1, partB, numB, wordB]
  | obj i => cases hs
  | exc i => cases hs
theorem filt_all {l : List D} (p : D → Bool) : (l.filter fun x => !p x).isEmpty = l.all p := by
  induction l with
  | nil => rfl
  | cons x l ih =>
    cases h : p x with
    | true => rw [List.filter_cons_of_neg (by simp [h]), ih, List.all_cons, h, Bool.true_and]
    | false => rw [List.filter_cons_of_pos (by simp [h]), List.all_cons, h, Bool.false_and]; rfl
theorem partB_inv {d : D} (h : partB d = true) : ∃ p : KP, p.ok ∧ d = p.d := by
  cases d with
  | int i =>
    unfold partB numB wordB at h
    simp only [Bool.or_false, Bool.and_eq_true, decide_eq_true_eq] at h
    exact ⟨.n i.toNat, show i.toNat < 10 ^ 12 by omega, by show D.int i = .int (i.toNat : Int); rw [Int.toNat_of_nonneg h.1]⟩
  | str s =>
    exact ⟨.t s, wordB_iff.mp (by simpa [partB, numB] using h), rfl⟩
  | _ => simp [partB, numB, wordB] at h
theorem keyB_inv {l : List D} (h : keyB (.tup l) = true) : ∃ k, KOk k ∧ l = kd k := by
  have h' : (decide (1 ≤ l.length) && decide (l.length ≤ 4) && l.all partB) = true := h
  rw [Bool.and_eq_true, Bool.and_eq_true, decide_eq_true_eq, decide_eq_true_eq, List.all_eq_true] at h'
  obtain ⟨⟨h1, h2⟩, h3⟩ := h'
  have go : ∀ l : List D, (∀ x ∈ l, partB x = true) → ∃ k : List KP, (∀ p ∈ k, p.ok) ∧ l = kd k := fun l => by
    induction l with
    | nil => intro _; exact ⟨[], fun _ h => (by cases h), rfl⟩
    | cons x l ih =>
      intro hx
      obtain ⟨p, hp, e⟩ := partB_inv (hx x List.mem_cons_self)
      obtain ⟨k, hk, e2⟩ := ih fun y hy => hx y (List.mem_cons_of_mem _ hy)
      refine ⟨p :: k, fun q hq => ?_, by rw [e, e2]; rfl⟩
      rcases List.mem_cons.mp hq with h | h
      · subst h; exact hp
      · exact hk q h
  obtain ⟨k, hk, e⟩ := go l h3
  have hlen : k.length = l.length := by rw [e, kd_len]
  exact ⟨k, ⟨by omega, by omega, hk⟩, e⟩
end
set_option maxRecDepth 100000
set_option maxHeartbeats 8000000
set_option autoImplicit false
section
open PySem L2
def intB : D → Bool
  | .int _ => true
  | _ => false
section
variable (n : Nat) (m : Mu)
theorem isval_ok {d : D} (h : Cl d) : callF M sb (n + 2) 4 [d] m = .ok (.bl (numB 0 999999999999999999999999999999999999999999999999999999999999 d)) m := by
  rw [u_4]
  have := isnum_ok n m 0 999999999999999999999999999999999999999999999999999999999999 h
  push_cast [B_4, this]
theorem whole_ok {d : D} (h : Cl d) : callF M sb (n + 1) 8 [d] m = .ok (.bl (intB d)) m := by
  obtain ⟨s, hs⟩ := h
  rw [u_8]
  cases d with
  | obj i => cases hs
  | exc i => cases hs
  | _ => push_cast [B_8, intB]
end
end
set_option maxRecDepth 100000
set_option maxHeartbeats 8000000
set_option autoImplicit false
section
open PySem L2
def Ge (d : D) : Prop := Cl d ∧ d.flat2 = true ∧ dpP d.toPy2 ≤ 3
def Th (d : D) : Prop := Cl d ∧ ((∃ l, d = .tup l ∧ ∀ x ∈ l, Ge x) ∨ (d.flat = true ∧ d.dep ≤ 64 ∧ ∀ l, d ≠ .tup l) ∨ d = .dic [])
theorem ge_leaf (p : KP) : Ge p.d := by
  cases p <;> exact ⟨⟨_, rfl⟩, rfl, Nat.zero_le 3⟩
theorem ge_kd {k : List KP} : ∀ x ∈ kd k, Ge x := fun x hx => by
  obtain ⟨p, _, rfl⟩ := List.mem_map.mp hx
  exact ge_leaf p
theorem th_tup {l : List D} (h : ∀ x ∈ l, Ge x) : Th (.tup l) := ⟨⟨_, rfl⟩, .inl ⟨l, rfl, h⟩⟩
theorem flat2s_of : ∀ {l : List D}, (∀ x ∈ l, Ge x) → D.flat2s l = true
  | [], _ => rfl
  | x :: l, h => by
    rw [D.flat2s, (h x List.mem_cons_self).2.1, flat2s_of fun y hy => h y (List.mem_cons_of_mem _ hy)]
    rfl
theorem dpPs_of : ∀ {l : List D}, (∀ x ∈ l, Ge x) → dpPs (D.toPy2s l) ≤ 3
  | [], _ => by decide
  | x :: l, h => by
    have a := (h x List.mem_cons_self).2.2
    have b := dpPs_of fun y hy => h y (List.mem_cons_of_mem _ hy)
    rw [D.toPy2s, dpPs]
    omega
mutual
theorem sameP_me : ∀ d : D, d.flat2 = true → sameP d.toPy2 d.toPy2 = true
  | .non, _ => rfl
  | .bl b, _ => by simp [D.toPy2, sameP]
  | .int i, _ => by simp [D.toPy2, sameP]
  | .str s, _ => by simp [D.toPy2, sameP]
  | .tup l, h => by
    rw [D.toPy2, sameP]
    exact samePs_me l (by simpa [D.flat2] using h)
  | .lst l, h => by
    rw [D.toPy2, sameP]
    exact samePs_me l (by simpa [D.flat2] using h)
  | .dic l, _ => by rw [D.toPy2, sameP]
  | .obj _, h => by simp [D.flat2] at h
  | .exc _, h => by simp [D.flat2] at h
theorem samePs_me : ∀ l : List D, D.flat2s l = true → samePs (D.toPy2s l) (D.toPy2s l) = true
  | [], _ => rfl
  | d :: r, h => by
    simp only [D.flat2s, Bool.and_eq_true] at h
    rw [D.toPy2s, samePs, sameP_me d h.1, samePs_me r h.2]
    rfl
end
theorem eq_th {d : D} (h : Th d) : cmpD .ne d d = some false := by
  show (eqD d d).map (!·) = _
  have e : eqD d d = some true := by
    obtain ⟨_, ⟨l, rfl, hl⟩ | ⟨h1, h2, _⟩ | rfl⟩ := h
    · unfold eqD
      split
      · rename_i hf
        rw [eqv_me _ hf.1]
      · have f2 : (D.tup l).flat2 = true := by rw [D.flat2]; exact flat2s_of hl
        rw [if_pos ⟨f2, f2, rfl, sameP_me _ f2, by rw [D.toPy2, dpP]; have := dpPs_of hl; omega⟩]
    · exact eq_me h1 h2
    · rfl
  rw [e]
  rfl
section
variable (n : Nat) (m : Mu)
theorem c_eqL2 {l : List D} (h : D.flat2s l = true) : cmpD .eq (.lst l) (.lst []) = some l.isEmpty := by
  show eqD _ _ = _
  unfold eqD
  split
  · cases l <;> rfl
  · rename_i h1
    split
    · rename_i h2
      cases h2.2.2.1
    · cases l with
      | nil => exact absurd ⟨rfl, rfl, .inr (by decide)⟩ h1
      | cons x l =>
        show (if D.flat2s (x :: l) = true then some false else none) = _
        rw [if_pos h]
        rfl
theorem flat2_filter (p : D → Bool) : ∀ {l : List D}, D.flat2s l = true → D.flat2s (l.filter p) = true
  | [], _ => rfl
  | x :: l, h => by
    rw [D.flat2s, Bool.and_eq_true] at h
    cases hp : p x with
    | true => rw [List.filter_cons_of_pos hp, D.flat2s, h.1, flat2_filter p h.2]; rfl
    | false => rw [List.filter_cons_of_neg (by rw [hp]; exact Bool.false_ne_true)]; exact flat2_filter p h.2
theorem lkey_tup {l : List D} (h : ∀ x ∈ l, Cl x) (hf : D.flat2s l = true) : callF M sb (n + 3) 13 [.tup l] m = .ok (.bl (keyB (.tup l))) m := by
  rw [u_13]
  by_cases q : 1 ≤ l.length
  · have q0 : ¬ (l.length : Int) < 1 := by omega
    by_cases q4 : l.length ≤ 4
    · have q1 : ¬ (4 : Int) < (l.length : Int) := by omega
      have hm : trnL (cT ⟨callF M sb (n + 2), sb⟩ (.one 1) (.yes (.not1 (.call 12 (.cons (.var 1) .nil)))) (.var 1) [some (.tup l), none]) l m .mk = .ok ((l.filter fun x => !partB x).map id) m := by
        have := trn_map (f := cT ⟨callF M sb (n + 2), sb⟩ (.one 1) (.yes (.not1 (.call 12 (.cons (.var 1) .nil)))) (.var 1) [some (.tup l), none]) (g := id) (z := .mk) (l := l) (m := m)
        rw [List.map_id] at this
        rw [this]
        refine trnG_fil _ _ fun x hx => ?_
        have := lpart_ok n m (h x hx)
        cases hp : partB x with
        | true => rw [hp] at this; push_cast [id, this]; rfl
        | false => rw [hp] at this; push_cast [id, this]; rfl
      rw [List.map_id] at hm
      have e := c_eqL2 (flat2_filter (fun x => !partB x) hf)
      push_cast [B_13, keyB, q, q0, q4, q1, hm, e, filt_all, Bool.true_and]
    · have q1 : (4 : Int) < (l.length : Int) := by omega
      push_cast [B_13, keyB, q, q0, q4, q1, Bool.false_and, Bool.true_and]
  · have q0 : (l.length : Int) < 1 := by omega
    push_cast [B_13, keyB, q, q0, Bool.false_and]
theorem lkey_non {d : D} (h : Cl d) (ht : ∀ l, d ≠ .tup l) : callF M sb (n + 1) 13 [d] m = .ok (.bl false) m := by
  obtain ⟨s, hs⟩ := h
  rw [u_13]
  cases d with
  | tup l => exact absurd rfl (ht l)
  | obj i => cases hs
  | exc i => cases hs
  | _ => push_cast [B_13]
theorem keyB_non {d : D} (ht : ∀ l, d ≠ .tup l) : keyB d = false := by
  cases d with
  | tup l => exact absurd rfl (ht l)
  | _ => rfl
theorem lkey_th {d : D} (h : Th d) : callF M sb (n + 3) 13 [d] m = .ok (.bl (keyB d)) m := by
  obtain ⟨hc, ⟨l, rfl, hl⟩ | ⟨h1, h2, h3⟩ | rfl⟩ := h
  · exact lkey_tup n m (fun x hx => (hl x hx).1) (flat2s_of hl)
  · rw [keyB_non h3]; exact lkey_non _ m hc h3
  · exact lkey_non _ m hc (fun l e => by cases e)
theorem th_cl {d : D} (h : Th d) : Cl d ∧ ∀ l, d = .tup l → ∀ x ∈ l, Cl x := by
  obtain ⟨hc, ⟨l, rfl, hl⟩ | ⟨h1, h2, h3⟩ | rfl⟩ := h
  · exact ⟨hc, fun l2 e x hx => by cases e; exact (hl x hx).1⟩
  · exact ⟨hc, fun l e => absurd e (h3 l)⟩
  · exact ⟨hc, fun l e => by cases e⟩
theorem told11 {d : D} (h : Th d) : callF M sb (n + 5) 18 [d] m = .ok (.str (if keyB d = true then [] else sNoKey)) m := by
  obtain ⟨hc, hl⟩ := th_cl h
  rw [u_18]
  by_cases hk : keyB d = true
  · rw [if_pos hk]
    have w0 := wof_non (n + 3) m
    obtain ⟨k, ko, rfl⟩ : ∃ k, KOk k ∧ d = .tup (kd k) := by
      cases d with
      | tup l =>
        obtain ⟨k, ko, e⟩ := keyB_inv hk
        exact ⟨k, ko, by rw [e]⟩
      | _ => cases hk
    have c1 := coded_ok n m ko
    push_cast [B_18, B_18_b0, c1, w0, List.isEmpty_nil]
  · rw [if_neg hk]
    have w1 := wof_1 (n + 3) m
    have s0 : sb 1 0 = some true := by decide
    have c1 := coded_no n m hc hl (by simpa using hk)
    push_cast [B_18, B_18_b0, c1, s0, w1, List.isEmpty_nil]
def tenP60 : Int := 1000000000000000000000000000000000000000000000000000000000000
theorem p60 : binD .pow (.int 10) (.int 60) = some (.int tenP60) := by
  have e : (10 : Int) ^ 60 = tenP60 := by decide +kernel
  rw [← e]
  exact b_pow 10 60 (by decide) (by decide)
end
end
set_option maxRecDepth 100000
set_option maxHeartbeats 8000000
set_option autoImplicit false
section
open PySem L2
theorem th_leaf {d : D} (h : d.flat = true) (h2 : d.dep ≤ 64) (h3 : ∀ l, d ≠ .tup l) (hc : Cl d) : Th d := ⟨hc, .inr (.inl ⟨h, h2, h3⟩)⟩
theorem b_mulT {a : List D} {k : Int} (he : a ≠ []) (h : 0 ≤ k) (h2 : k ≤ 10) (h3 : a.length ≤ 10) : binD .mul (.tup a) (.int k) = some (.tup (List.replicate k.toNat a).flatten) := by
  have e : a.isEmpty = false := by cases a with | nil => exact absurd rfl he | cons _ _ => rfl
  have q : a.length * k.toNat ≤ 10 * 10 := Nat.mul_le_mul h3 (by omega)
  show (if _ then _ else _) = _
  rw [if_pos ⟨e, h, by omega, by omega, by omega⟩]
theorem mem_rep {a : List D} {k : Nat} {x : D} (h : x ∈ (List.replicate k a).flatten) : x ∈ a := by
  obtain ⟨l, h1, h2⟩ := List.mem_flatten.mp h
  rw [(List.mem_replicate.mp h1).2] at h2
  exact h2
theorem len_rep (a : List D) (k : Nat) : (List.replicate k a).flatten.length = k * a.length := by
  induction k with
  | zero => simp
  | succ k ih => rw [List.replicate_succ, List.flatten_cons, List.length_append, ih, Nat.succ_mul, Nat.add_comm]
section
variable (n : Nat) (m : Mu)
theorem odd_ok (c : Int) : ∃ d, callF M sb (n + 1) 15 [.int c] m = .ok d m ∧ Th d ∧ Ge d := by
  have hi : ∃ d, idxD (.lst [.non, .bl true, .bl false, .int (-1), .int 1000000000000, .str [65], .str [97, 32, 98], .str [97, 98, 99, 100, 101, 102, 103, 104, 105], .lst [.str [97]], .tup [.int 1], .dic [], .str [97, 49]]) (.int (c % 12)) = some d ∧ Th d ∧ Ge d := by
    have a := Int.emod_nonneg c (show (12 : Int) ≠ 0 by decide)
    have b := Int.emod_lt_of_pos c (show (0 : Int) < 12 by decide)
    rcases (show c % 12 = 0 ∨ c % 12 = 1 ∨ c % 12 = 2 ∨ c % 12 = 3 ∨ c % 12 = 4 ∨ c % 12 = 5 ∨ c % 12 = 6 ∨ c % 12 = 7 ∨ c % 12 = 8 ∨ c % 12 = 9 ∨ c % 12 = 10 ∨ c % 12 = 11 by omega) with h | h | h | h | h | h | h | h | h | h | h | h <;> rw [h]
    · exact ⟨.non, rfl, th_leaf rfl (by decide) (fun l e => by cases e) ⟨_, rfl⟩, ⟨_, rfl⟩, rfl, by decide⟩
    · exact ⟨.bl true, rfl, th_leaf rfl (by decide) (fun l e => by cases e) ⟨_, rfl⟩, ⟨_, rfl⟩, rfl, by decide⟩
    · exact ⟨.bl false, rfl, th_leaf rfl (by decide) (fun l e => by cases e) ⟨_, rfl⟩, ⟨_, rfl⟩, rfl, by decide⟩
    · exact ⟨.int (-1), rfl, th_leaf rfl (by decide) (fun l e => by cases e) ⟨_, rfl⟩, ⟨_, rfl⟩, rfl, by decide⟩
    · exact ⟨.int 1000000000000, rfl, th_leaf rfl (by decide) (fun l e => by cases e) ⟨_, rfl⟩, ⟨_, rfl⟩, rfl, by decide⟩
    · exact ⟨.str [65], rfl, th_leaf rfl (by decide) (fun l e => by cases e) ⟨_, rfl⟩, ⟨_, rfl⟩, rfl, by decide⟩
    · exact ⟨.str [97, 32, 98], rfl, th_leaf rfl (by decide) (fun l e => by cases e) ⟨_, rfl⟩, ⟨_, rfl⟩, rfl, by decide⟩
    · exact ⟨.str [97, 98, 99, 100, 101, 102, 103, 104, 105], rfl, th_leaf rfl (by decide) (fun l e => by cases e) ⟨_, rfl⟩, ⟨_, rfl⟩, rfl, by decide⟩
    · exact ⟨.lst [.str [97]], rfl, th_leaf rfl (by decide) (fun l e => by cases e) ⟨_, rfl⟩, ⟨_, rfl⟩, rfl, by decide⟩
    · exact ⟨.tup [.int 1], rfl, th_tup fun x hx => by rw [List.mem_singleton.mp hx]; exact ⟨⟨_, rfl⟩, rfl, by decide⟩, ⟨_, rfl⟩, rfl, by decide⟩
    · exact ⟨.dic [], rfl, ⟨⟨_, rfl⟩, .inr (.inr rfl)⟩, ⟨_, rfl⟩, rfl, by decide⟩
    · exact ⟨.str [97, 49], rfl, th_leaf rfl (by decide) (fun l e => by cases e) ⟨_, rfl⟩, ⟨_, rfl⟩, rfl, by decide⟩
  obtain ⟨d, e, h⟩ := hi
  refine ⟨d, ?_, h⟩
  rw [u_15]
  push_cast [B_15, ten12p, e]
theorem d16 (i : Int) : binD .fdiv (.int i) (.int 16) = some (.int (i / 16)) := b_div (by decide) (by decide)
theorem thing_ok (c : Int) : ∃ d, callF M sb (n + 4) 16 [.int c] m = .ok d m ∧ Th d := by
  have hk := key_ok n m (c / 16)
  obtain ⟨k1, k4, _⟩ := keyV_ok (c / 16)
  have hg : ∀ x ∈ kd (keyV (c / 16)), Ge x := ge_kd
  have fl : D.flats (kd (keyV (c / 16))) = true := by
    have go : ∀ k : List KP, D.flats (kd k) = true := fun k => by
      induction k with
      | nil => rfl
      | cons p k ih => show ((KP.d p).flat && D.flats (kd k)) = true; rw [ih]; cases p <;> rfl
    exact go _
  have fd : D.deps (kd (keyV (c / 16))) ≤ 1 := by
    have go : ∀ k : List KP, D.deps (kd k) ≤ 1 := fun k => by
      induction k with
      | nil => decide
      | cons p k ih => show max ((KP.d p).dep) (D.deps (kd k)) ≤ 1; have : (KP.d p).dep ≤ 1 := by cases p <;> exact Nat.zero_le 1
                       omega
    exact go _
  have e1 : 1 ≤ (kd (keyV (c / 16))).length := by rw [kd_len]; exact k1
  have e4 : (kd (keyV (c / 16))).length ≤ 4 := by rw [kd_len]; exact k4
  generalize kd (keyV (c / 16)) = L at hk hg fl fd e1 e4
  have ne : L ≠ [] := fun e => by rw [e] at e1; exact absurd e1 (by decide)
  rw [u_16]
  by_cases h1 : c % 16 < 6
  · refine ⟨.tup L, ?_, th_tup hg⟩
    push_cast [B_16, d16, hk, h1]
  · by_cases h2 : c % 16 = 6
    · refine ⟨.lst L, ?_, th_leaf (by rw [D.flat]; exact fl) (by rw [D.dep]; omega) (fun l e => by cases e) ⟨_, rfl⟩⟩
      have g : ¬ (6 : Int) < 6 := by decide
      have hb : biD .list [.tup L] = some (.lst L) := rfl
      push_cast [B_16, d16, hk, h2, g, hb]
    · by_cases h3 : c % 16 = 7
      · have g1 : ¬ (7 : Int) < 6 := by decide
        have g2 : ¬ (7 : Int) = 6 := by decide
        have t1 : (L.take 1) ≠ [] := by cases L with | nil => exact absurd rfl ne | cons _ _ => simp
        have t2 : (L.take 1).length = 1 := by rw [List.length_take]; omega
        have u1 : binD .mul (.tup L) (.int 5) = some (.tup (List.replicate 5 L).flatten) := b_mulT ne (by decide) (by decide) (by omega)
        have s1 : slD (.tup L) none (some 1) = some (.tup (L.take 1)) := slTt L 1
        have u2 : binD .mul (.tup (L.take 1)) (.int (4 - (L.length : Int))) = some (.tup (List.replicate (4 - (L.length : Int)).toNat (L.take 1)).flatten) := b_mulT t1 (by omega) (by omega) (by omega)
        have u3 : binD .mul (.tup [.int 0]) (.int (5 - (L.length : Int))) = some (.tup (List.replicate (5 - (L.length : Int)).toNat [.int 0]).flatten) := b_mulT (by simp) (by omega) (by omega) (by decide)
        have n2 : (List.replicate (4 - (L.length : Int)).toNat (L.take 1)).flatten.length ≤ 10 := by rw [len_rep, t2]; omega
        have n3 : (List.replicate (5 - (L.length : Int)).toNat [D.int 0]).flatten.length ≤ 10 := by rw [len_rep]; simp; omega
        have m2 : ∀ x ∈ (List.replicate (4 - (L.length : Int)).toNat (L.take 1)).flatten, Ge x := fun x hx => hg x (List.mem_of_mem_take (mem_rep hx))
        have m3 : ∀ x ∈ (List.replicate (5 - (L.length : Int)).toNat [D.int 0]).flatten, Ge x := fun x hx => by rw [List.mem_singleton.mp (mem_rep hx)]; exact ⟨⟨_, rfl⟩, rfl, by decide⟩
        generalize (List.replicate (4 - (L.length : Int)).toNat (L.take 1)).flatten = A2 at u2 n2 m2
        generalize (List.replicate (5 - (L.length : Int)).toNat [D.int 0]).flatten = A3 at u3 n3 m3
        have a2 : binD .add (.tup L) (.tup A2) = some (.tup (L ++ A2)) := b_addT (by rw [sizeD_n]; omega)
        have a3 : binD .add (.tup L) (.tup A3) = some (.tup (L ++ A3)) := b_addT (by rw [sizeD_n]; omega)
        have hi : ∃ d, idxD (.lst [.tup [], .tup (List.replicate 5 L).flatten, .tup (L ++ A2), .tup (L ++ A3)]) (.int (c / 16 % 4)) = some d ∧ Th d := by
          have a := Int.emod_nonneg (c / 16) (show (4 : Int) ≠ 0 by decide)
          have b := Int.emod_lt_of_pos (c / 16) (show (0 : Int) < 4 by decide)
          rcases (show c / 16 % 4 = 0 ∨ c / 16 % 4 = 1 ∨ c / 16 % 4 = 2 ∨ c / 16 % 4 = 3 by omega) with h | h | h | h <;> rw [h]
          · exact ⟨_, rfl, th_tup fun x hx => by cases hx⟩
          · exact ⟨_, rfl, th_tup fun x hx => hg x (mem_rep hx)⟩
          · exact ⟨_, rfl, th_tup fun x hx => (List.mem_append.mp hx).elim (hg x) (m2 x)⟩
          · exact ⟨_, rfl, th_tup fun x hx => (List.mem_append.mp hx).elim (hg x) (m3 x)⟩
        obtain ⟨d, hd, ht⟩ := hi
        refine ⟨d, ?_, ht⟩
        push_cast [B_16, d16, hk, h3, g1, g2, u1, s1, u2, u3, a2, a3, hd]
      · by_cases h4 : c % 16 < 13
        · obtain ⟨a, ha⟩ : ∃ a : Nat, c / 16 / 7 % (L.length : Int) = (a : Int) := ⟨(c / 16 / 7 % (L.length : Int)).toNat, by have := Int.emod_nonneg (c / 16 / 7) (show (L.length : Int) ≠ 0 by omega); omega⟩
          have hm : binD .mod (.int (c / 16 / 7)) (.int (L.length : Int)) = some (.int (a : Int)) := by rw [b_mod (by omega), ha]
          have d7 : binD .fdiv (.int (c / 16)) (.int 7) = some (.int (c / 16 / 7)) := b_div (by decide) (by decide)
          have d5 : binD .fdiv (.int (c / 16)) (.int 5) = some (.int (c / 16 / 5)) := b_div (by decide) (by decide)
          have s1 : slD (.tup L) none (some (a : Int)) = some (.tup (L.take a)) := slTt L a
          have s2 : slD (.tup L) (some ((a : Int) + 1)) none = some (.tup (L.drop (a + 1))) := slTf L (a + 1)
          obtain ⟨d, hd, _, hge⟩ := odd_ok (n + 2) m (c / 16 / 5)
          have l1 : (L.take a).length ≤ 4 := by rw [List.length_take]; omega
          have l2 : (L.drop (a + 1)).length ≤ 4 := by rw [List.length_drop]; omega
          have a1 : binD .add (.tup (L.take a)) (.tup [d]) = some (.tup (L.take a ++ [d])) := b_addT (by rw [sizeD_n, List.length_singleton]; omega)
          have a2 : binD .add (.tup (L.take a ++ [d])) (.tup (L.drop (a + 1))) = some (.tup (L.take a ++ [d] ++ L.drop (a + 1))) := b_addT (by rw [sizeD_n, List.length_append, List.length_singleton]; omega)
          refine ⟨.tup (L.take a ++ [d] ++ L.drop (a + 1)), ?_, th_tup fun x hx => ?_⟩
          · push_cast [B_16, d16, hk, h1, h2, h3, h4, d7, hm, d5, s1, s2, hd, a1, a2]
          · rcases List.mem_append.mp hx with hx | hx
            · rcases List.mem_append.mp hx with hx | hx
              · exact hg x (List.mem_of_mem_take hx)
              · rw [List.mem_singleton.mp hx]; exact hge
            · exact hg x (List.mem_of_mem_drop hx)
        · obtain ⟨d, hd, ht, _⟩ := odd_ok (n + 2) m (c / 16)
          refine ⟨d, ?_, ht⟩
          push_cast [B_16, d16, hk, h1, h2, h3, h4, hd]
theorem th_int (i : Int) : Th (.int i) := th_leaf rfl (Nat.zero_le 64) (fun l e => by cases e) ⟨_, rfl⟩
theorem number_ok {c : Int} (h0 : 0 ≤ c) (h1 : c < 2147483587) : ∃ d, callF M sb (n + 1) 17 [.int c] m = .ok d m ∧ Th d := by
  have m1 : binD .mul (.int c) (.int c) = some (.int (c * c)) := b_mul (by omega)
  have m2 : binD .mul (.int (c * c)) (.int c) = some (.int (c * c * c)) := b_mul (by omega)
  have hb : (c * c * c).natAbs ≤ 2 ^ 93 := by
    rw [Int.natAbs_mul, Int.natAbs_mul]
    have hc : c.natAbs ≤ 2 ^ 31 := by omega
    calc c.natAbs * c.natAbs * c.natAbs ≤ 2 ^ 31 * 2 ^ 31 * 2 ^ 31 := Nat.mul_le_mul (Nat.mul_le_mul hc hc) hc
      _ = 2 ^ 93 := by decide
  generalize c * c * c = b at m2 hb
  have lb : ∀ z : Int, z.natAbs ≤ 2 ^ 200 → z.natAbs.log2 ≤ 200 := fun z hz => by
    by_cases q : z.natAbs = 0
    · rw [q]; decide
    · have := (Nat.log2_lt (n := z.natAbs) (k := 201) q).mpr (Nat.lt_of_le_of_lt hz (by decide))
      omega
  have hb2 : (b * b).natAbs ≤ 2 ^ 186 := by
    rw [Int.natAbs_mul]
    calc b.natAbs * b.natAbs ≤ 2 ^ 93 * 2 ^ 93 := Nat.mul_le_mul hb hb
      _ = 2 ^ 186 := by decide
  have m3 : binD .mul (.int b) (.int b) = some (.int (b * b)) := by
    show (if mulOk b b = true then some (D.int (b * b)) else none) = _
    rw [if_pos]
    unfold mulOk
    have := lb b (Nat.le_trans hb (by decide))
    simp only [Bool.or_eq_true, decide_eq_true_eq]
    omega
  have m4 : binD .mul (.int (b * b)) (.int b) = some (.int (b * b * b)) := by
    show (if mulOk (b * b) b = true then some (D.int (b * b * b)) else none) = _
    rw [if_pos]
    unfold mulOk
    have := lb b (Nat.le_trans hb (by decide))
    have := lb (b * b) (Nat.le_trans hb2 (by decide))
    simp only [Bool.or_eq_true, decide_eq_true_eq]
    omega
  have hm : binD .mod (.int (b * b * b)) (.int tenP60) = some (.int (b * b * b % tenP60)) := b_mod (by decide)
  have hm9 : binD .mod (.int c) (.int (10 ^ 9)) = some (.int (c % 10 ^ 9)) := b_mod (by decide)
  generalize b * b * b % tenP60 = v at hm
  have hi : ∃ d, idxD (.lst [.int 0, .int 1, .int (tenP60 - 1), .int tenP60, .int (-1), .int v, .int (tenP60 + c % 10 ^ 9), .int (-2 - c % 10 ^ 9), .bl true, .bl false, .str [53], .non, .tup [.int 5], .lst [.int 5], .str [], .dic []]) (.int (c % 16)) = some d ∧ Th d := by
    have a := Int.emod_nonneg c (show (16 : Int) ≠ 0 by decide)
    have b := Int.emod_lt_of_pos c (show (0 : Int) < 16 by decide)
    rcases (show c % 16 = 0 ∨ c % 16 = 1 ∨ c % 16 = 2 ∨ c % 16 = 3 ∨ c % 16 = 4 ∨ c % 16 = 5 ∨ c % 16 = 6 ∨ c % 16 = 7 ∨ c % 16 = 8 ∨ c % 16 = 9 ∨ c % 16 = 10 ∨ c % 16 = 11 ∨ c % 16 = 12 ∨ c % 16 = 13 ∨ c % 16 = 14 ∨ c % 16 = 15 by omega) with h | h | h | h | h | h | h | h | h | h | h | h | h | h | h | h <;> rw [h]
    · exact ⟨_, rfl, th_int _⟩
    · exact ⟨_, rfl, th_int _⟩
    · exact ⟨_, rfl, th_int _⟩
    · exact ⟨_, rfl, th_int _⟩
    · exact ⟨_, rfl, th_int _⟩
    · exact ⟨_, rfl, th_int _⟩
    · exact ⟨_, rfl, th_int _⟩
    · exact ⟨_, rfl, th_int _⟩
    · exact ⟨_, rfl, th_leaf rfl (by decide) (fun l e => by cases e) ⟨_, rfl⟩⟩
    · exact ⟨_, rfl, th_leaf rfl (by decide) (fun l e => by cases e) ⟨_, rfl⟩⟩
    · exact ⟨_, rfl, th_leaf rfl (by decide) (fun l e => by cases e) ⟨_, rfl⟩⟩
    · exact ⟨_, rfl, th_leaf rfl (by decide) (fun l e => by cases e) ⟨_, rfl⟩⟩
    · exact ⟨_, rfl, th_tup fun x hx => by rw [List.mem_singleton.mp hx]; exact ⟨⟨_, rfl⟩, rfl, by decide⟩⟩
    · exact ⟨_, rfl, th_leaf rfl (by decide) (fun l e => by cases e) ⟨_, rfl⟩⟩
    · exact ⟨_, rfl, th_leaf rfl (by decide) (fun l e => by cases e) ⟨_, rfl⟩⟩
    · exact ⟨_, rfl, ⟨⟨_, rfl⟩, .inr (.inr rfl)⟩⟩
  obtain ⟨d, hd, ht⟩ := hi
  have ba : binD .add (.lst [.int 0, .int 1, .int (tenP60 - 1), .int tenP60, .int (-1), .int v]) (.lst [.int (tenP60 + c % 10 ^ 9), .int (-2 - c % 10 ^ 9), .bl true, .bl false, .str [53], .non, .tup [.int 5], .lst [.int 5], .str [], .dic []]) =
      some (.lst [.int 0, .int 1, .int (tenP60 - 1), .int tenP60, .int (-1), .int v, .int (tenP60 + c % 10 ^ 9), .int (-2 - c % 10 ^ 9), .bl true, .bl false, .str [53], .non, .tup [.int 5], .lst [.int 5], .str [], .dic []]) := b_addL (by rw [sizeD_n]; show (16 : Nat) ≤ _; decide)
  refine ⟨d, ?_, ht⟩
  rw [u_17]
  push_cast [B_17, m1, m2, m3, m4, p60, p9, hm, hm9, ba, hd]
theorem int_or {e : D} (h : Cl e) : (∃ i, e = .int i) ∨ (intB e = false ∧ numB 0 999999999999999999999999999999999999999999999999999999999999 e = false) := by
  cases e with
  | int i => exact .inl ⟨i, rfl⟩
  | _ => exact .inr ⟨rfl, rfl⟩
theorem right11 {d e : D} (hd : Th d) (he : Th e) : callF M sb (n + 6) 19 [d, e] m = .ok (.bl true) m := by
  have l1 := lkey_th (n + 2) m hd
  have l2 := lkey_th (n + 2) m he
  have i1 := iskey_ok (n + 2) m (th_cl hd).1 (th_cl hd).2
  have i2 := iskey_ok (n + 2) m (th_cl he).1 (th_cl he).2
  have t1 := told11 n m hd
  have v1 := isval_ok (n + 3) m (th_cl he).1
  have wz := whole_ok (n + 4) m (th_cl he).1
  have ix1 : idxD (.lst [.str [78, 111, 75, 101, 121], .str []]) (.int 1) = some (.str []) := rfl
  have bi1 : biD .int [.bl true] = some (.int 1) := rfl
  have ix0 : idxD (.lst [.str [78, 111, 75, 101, 121], .str []]) (.int 0) = some (.str [78, 111, 75, 101, 121]) := rfl
  have bi0 : biD .int [.bl false] = some (.int 0) := rfl
  have pair : (keyB d = true ∧ callF M sb (n + 5) 18 [d] m = .ok (.str []) m) ∨ (keyB d = false ∧ callF M sb (n + 5) 18 [d] m = .ok (.str [78, 111, 75, 101, 121]) m) := by
    cases hk : keyB d with
    | true => rw [hk, if_pos rfl] at t1; exact .inl ⟨rfl, t1⟩
    | false => rw [hk, if_neg (by decide)] at t1; exact .inr ⟨rfl, t1⟩
  clear t1
  rw [u_19]
  rcases int_or (th_cl he).1 with ⟨i, rfl⟩ | ⟨z1, z2⟩
  · by_cases q : 0 ≤ i
    · by_cases q2 : i ≤ 999999999999999999999999999999999999999999999999999999999999
      · have q3 : i < tenP60 := by unfold tenP60; omega
        rcases pair with ⟨hk, t1⟩ | ⟨hk, t1⟩ <;> rw [hk] at l1 i1
        · push_cast [B_19, l1, i1, t1, bi1, ix1, c_neB, wz, intB, p60, q, q2, q3, numB, v1, l2, i2, c_eqB, Bool.and_true]
        · push_cast [B_19, l1, i1, t1, bi0, ix0, c_neB, wz, intB, p60, q, q2, q3, numB, v1, l2, i2, c_eqB, Bool.and_true]
      · have q3 : ¬ i < tenP60 := by unfold tenP60; omega
        rcases pair with ⟨hk, t1⟩ | ⟨hk, t1⟩ <;> rw [hk] at l1 i1
        · push_cast [B_19, l1, i1, t1, bi1, ix1, c_neB, wz, intB, p60, q, q2, q3, numB, v1, l2, i2, c_eqB, Bool.and_false]
        · push_cast [B_19, l1, i1, t1, bi0, ix0, c_neB, wz, intB, p60, q, q2, q3, numB, v1, l2, i2, c_eqB, Bool.and_false]
    · rcases pair with ⟨hk, t1⟩ | ⟨hk, t1⟩ <;> rw [hk] at l1 i1
      · push_cast [B_19, l1, i1, t1, bi1, ix1, c_neB, wz, intB, p60, q, numB, v1, l2, i2, c_eqB, Bool.false_and]
      · push_cast [B_19, l1, i1, t1, bi0, ix0, c_neB, wz, intB, p60, q, numB, v1, l2, i2, c_eqB, Bool.false_and]
  · rw [z1] at wz
    rw [z2] at v1
    rcases pair with ⟨hk, t1⟩ | ⟨hk, t1⟩ <;> rw [hk] at l1 i1
    · push_cast [B_19, l1, i1, t1, bi1, ix1, c_neB, wz, v1, l2, i2, c_eqB]
    · push_cast [B_19, l1, i1, t1, bi0, ix0, c_neB, wz, v1, l2, i2, c_eqB]
theorem main11 {ns : List Int} (hl : ns.length ≤ 63) : callF M sb (n + 8) 20 [SC ns] m = .ok (.bl true) m := by
  have hr : rng1D (.int ((if (ns.length : Int) < 60 then (ns.length : Int) else 60) + 2)) = some ((List.range (min 60 ns.length + 2)).map fun j => D.int (j : Nat)) := by
    have e : (if (ns.length : Int) < 60 then (ns.length : Int) else 60) + 2 = ((min 60 ns.length + 2 : Nat) : Int) := by split <;> omega
    rw [e]
    exact rng1_n (by omega)
  have loop := for_const (tg := .one 1) (b := fun ρ m => evSs ⟨callF M sb (n + 7), sb⟩ B_20_b0 ρ m) (z := .mk) (enc := fun k => D.int ((k : Nat) : Int)) (ρ := [some (SC ns), none, none, none]) (m := m) (l := List.range (min 60 ns.length + 2)) fun j hj => by
    have hj' := List.mem_range.mp hj
    have c1 := cell_ok2 (n + 6) hl (k := (j : Int)) (by omega) (by omega) m
    have c2 := cell_ok2 (n + 6) hl (k := 200 + (j : Int)) (by omega) (by omega) m
    obtain ⟨d, td, hd⟩ := thing_ok (n + 3) m (cellV ns (j : Int))
    obtain ⟨e, te, he⟩ := number_ok (n + 6) m (c := cellV ns (200 + (j : Int))) (cellV_lo ns _) (cellV_hi ns _)
    have r1 := right11 (n + 1) m hd he
    have q := eq_th hd
    obtain ⟨s, hs⟩ := hd.1
    cases d with
    | obj i => cases hs
    | exc i => cases hs
    | lst l =>
      have st : [D.lst l, D.lst l].set (Int.toNat 1) (D.lst l) = [D.lst l, D.lst l] := rfl
      push_cast [B_20_b0, c1, c2, td, te, r1, q, and_self, if_true, st]
    | _ => push_cast [B_20_b0, c1, c2, td, te, r1, q]
  rw [u_20]
  push_cast [B_20, hr, loop]
end
end
set_option maxRecDepth 100000
set_option maxHeartbeats 2000000
set_option autoImplicit false
section
open PySem PySem.Spec PyProof.Rows L2
theorem walk_scrH {l : PySem.W.OpenLaw} {q : Program} {loose : List Str} {XP : (Str → Option Value) → Heap → Prop} {YP : World → Heap → Prop} {d : DefRec} {SK : PySem.W.Frag → Prop} {k : Nat} {x : Str} (hk : k ≤ 100) (hn : l.most = some 63) (hdf : d.params.defaults = [])
    (hY : ∀ (w : World) (h : Heap), YP w h → ∃ K : PySem.W.Frag, K.In h ∧ SK K)
    (F : ∀ (w : World) (mg : Str → Option Value) (fa : Addr) (h : Heap) (K : PySem.W.Frag), K.In h → SK K → h.Ns mainGlobals mg → mg d.name = some (.ref fa) →
      ∃ fd : FuncData, (∀ (s : Shared) (u : Value), BindsTo s fd ⟨[u], []⟩ [(x, u)]) ∧ ∀ base : Heap, K.In base → base.Ns mainGlobals mg → FnOk l.prog w K mg base (L2.CX l.prog w) k fa fd [x] (spScr K)) :
    PySem.W.WalkO q loose XP YP l.row.toRowW d [] (fun f vs => PySem.call f vs) := by
  have room : Room k callerA := Room.mono (k := 100) ⟨rfl, by decide, by decide⟩ hk
  refine Att.attach_call hn hdf fun w s₀ s₁ mg mb fa o pm cd doc a vs ns G Y ho hd hcd hmg hobj hints hlen hg => ?_
  obtain ⟨K, KX, SX⟩ := hY w _ Y
  obtain ⟨fd, hb, hF⟩ := F w mg fa _ K KX SX G.T.g hmg
  exact law_call KX G.T.g G.T.b G.T.builtins G.T.nolimit hg hobj hints (Nat.le_trans hlen (by decide)) room hF hb (fun H hO hS => ⟨a, ns, rfl, hS, hlen, fun _ => rfl⟩) fun H e s' z => cx_none z
end
set_option maxRecDepth 100000
set_option maxHeartbeats 8000000
set_option autoImplicit false
section
open PySem L2
def e_0 : Df := ⟨"is_number", "is_number", top 19, ["thing", "least", "most"], ["thing", "least", "most"], [], F_0, false, []⟩
def e_1 : Df := ⟨"is_word", "is_word", top 20, ["thing", "sign"], ["thing"], [], F_1, false, []⟩
def e_2 : Df := ⟨"is_part", "is_part", top 21, ["thing"], ["thing"], [], F_2, false, []⟩
def e_3 : Df := ⟨"is_key", "is_key", top 22, ["thing", "part"], ["thing"], [], F_3, false, []⟩
def e_4 : Df := ⟨"is_value", "is_value", top 23, ["thing"], ["thing"], [], F_4, false, []⟩
def e_5 : Df := ⟨"part_code", "part_code", top 24, ["part", "figures"], ["part"], [], F_5, false, []⟩
def e_6 : Df := ⟨"coded", "coded", top 25, ["key", "part"], ["key"], [], F_6, false, []⟩
def e_7 : Df := ⟨"_law_cell", "_law_cell", top 27, ["_law_script", "_law_k", "_law_cell_here", "_law_more", "_law_found", "_law_turn", "_law_wide"], ["_law_script", "_law_k"], [], F_7, false, []⟩
def e_8 : Df := ⟨"_law_whole", "_law_whole", top 28, ["_law_found"], ["_law_found"], [], F_8, false, []⟩
def e_9 : Df := ⟨"_law_word", "_law_word", top 29, ["_law_cell_here", "_law_word_here", "_law_some", "_law_rest", "_law_k"], ["_law_cell_here"], [], F_9, false, []⟩
def e_10 : Df := ⟨"_law_part", "_law_part", top 30, ["_law_cell_here", "_law_more"], ["_law_cell_here"], [], F_10, false, []⟩
def e_11 : Df := ⟨"_law_key", "_law_key", top 31, ["_law_cell_here", "_law_some", "_law_parts", "_law_k"], ["_law_cell_here"], [2], F_11, false, []⟩
def e_12 : Df := ⟨"_law_is_part", "_law_is_part", top 32, ["_law_thing_here", "_law_sign"], ["_law_thing_here"], [], F_12, false, []⟩
def e_13 : Df := ⟨"_law_is_key", "_law_is_key", top 33, ["_law_thing_here", "_law_part_here"], ["_law_thing_here"], [], F_13, false, []⟩
def e_14 : Df := ⟨"_law_word_of", "_law_word_of", top 34, ["_law_error", "_law_found"], ["_law_error"], [1], F_14, false, []⟩
def e_15 : Df := ⟨"_law_odd", "_law_odd", top 35, ["_law_cell_here", "_law_odd_here"], ["_law_cell_here"], [], F_15, false, []⟩
def e_16 : Df := ⟨"_law_thing", "_law_thing", top 36, ["_law_cell_here", "_law_more", "_law_key_here", "_law_at"], ["_law_cell_here"], [], F_16, false, []⟩
def e_17 : Df := ⟨"_law_number", "_law_number", top 37, ["_law_cell_here", "_law_big", "_law_some"], ["_law_cell_here"], [], F_17, false, []⟩
def e_18 : Df := ⟨"_law_told", "_law_told", top 38, ["_law_thing_here", "_law_word_here", "_law_error", "e"], ["_law_thing_here"], [], F_18, false, []⟩
def e_19 : Df := ⟨"_law_right", "_law_right", top 39, ["_law_thing_here", "_law_number_here", "_law_due", "_law_found"], ["_law_thing_here", "_law_number_here"], [], F_19, false, []⟩
def e_20 : Df := ⟨"law", "law", top 40, ["_law_script", "_law_k", "_law_thing_here", "_law_copy"], ["_law_script"], [3], F_20, false, []⟩
def tbl : List (Nat × Df) := [(0, e_0), (1, e_1), (2, e_2), (3, e_3), (4, e_4), (5, e_5), (6, e_6), (7, e_7), (8, e_8), (9, e_9), (10, e_10), (11, e_11), (12, e_12), (13, e_13), (14, e_14), (15, e_15), (16, e_16), (17, e_17), (18, e_18), (19, e_19), (20, e_20)]
def gcs : List (Str × D) := [("MOST_LETTERS", (.int 8)), ("LETTERS", (.str [97, 98, 99, 100, 101, 102, 103, 104, 105, 106, 107, 108, 109, 110, 111, 112, 113, 114, 115, 116, 117, 118, 119, 120, 121, 122])), ("MOST_NUMBER", (.int 999999999999)), ("MOST_PARTS", (.int 4)), ("MOST_VALUE", (.int 999999999999999999999999999999999999999999999999999999999999)), ("GREAT", (.str [65, 66, 67, 68, 69, 70, 71, 72, 73, 74, 75, 76]))]
theorem tbl_ok : (tbl.all fun p => fnB (fnsOf tbl) gcs EXs (frsOf tbl) (dvsOf tbl) p.2) = true := by decide +kernel
theorem tbl_nd : (tbl.map (·.1)).Nodup := by decide +kernel
theorem tbl_nl : (tbl.all fun p => !decide (p.2.name = "leaf_of")) = true := by decide +kernel
theorem tbl_no {k : Nat} {d : Df} (h : (k, d) ∈ tbl) : ¬ d.name = "leaf_of" := by
  have q := List.all_eq_true.mp tbl_nl (k, d) h
  rw [Bool.not_eq_true', decide_eq_false_iff_not] at q
  exact q
theorem tbl_nm : (tbl.all fun p => decide (p.1 < 1000000)) = true := by decide +kernel
theorem tbl_M : ∀ (k : Nat) (d : Df), (k, d) ∈ tbl → M k = some d.ir := by
  intro k d h
  simp only [tbl, List.mem_cons, List.not_mem_nil, or_false, Prod.mk.injEq] at h
  rcases h with ⟨rfl, rfl⟩ | ⟨rfl, rfl⟩ | ⟨rfl, rfl⟩ | ⟨rfl, rfl⟩ | ⟨rfl, rfl⟩ | ⟨rfl, rfl⟩ | ⟨rfl, rfl⟩ | ⟨rfl, rfl⟩ | ⟨rfl, rfl⟩ | ⟨rfl, rfl⟩ | ⟨rfl, rfl⟩ | ⟨rfl, rfl⟩ | ⟨rfl, rfl⟩ | ⟨rfl, rfl⟩ | ⟨rfl, rfl⟩ | ⟨rfl, rfl⟩ | ⟨rfl, rfl⟩ | ⟨rfl, rfl⟩ | ⟨rfl, rfl⟩ | ⟨rfl, rfl⟩ | ⟨rfl, rfl⟩
  all_goals rfl
theorem kitCls_me {K : PySem.W.Frag} {C : Addr} (hi : PySem.W.isClsIn K C = true) (ht : PySem.W.typeIn K (.ref C) = some (.type "type")) (hs : PySem.W.subIn K (.ref C) (.ref C) = some true) : PySem.W.kitCls K (.ref C) (.ref C) = some true := by
  show (if ((PySem.W.clsIn K C).isSome && PySem.W.typeIn K (.ref C) == some (.type "type")) = true then PySem.W.subIn K (.ref C) (.ref C) else none) = _
  have e : (PySem.W.clsIn K C).isSome = true := hi
  rw [e, ht, hs]
  rfl
def FU : Nat := 8
theorem head_mk (main : ∀ ns : List Int, ns.length ≤ 63 → ∃ m, callF M sb FU 20 [.lst (ns.map D.int)] [] = .ok (.bl true) m) {l : PySem.W.OpenLaw} {w : World} {K : PySem.W.Frag} {h : Heap} {mg : Str → Option Value} {fa : Addr} (X : K.In h) (G : h.Ns mainGlobals mg) (hfa : mg "law" = some (.ref fa))
    {f0 f1 f2 f3 f4 f5 f6 f7 f8 f9 f10 f11 f12 f13 f14 f15 f16 f17 f18 f19 f20 : Addr} {od0 an0 od1 an1 od2 an2 od3 an3 od4 an4 od5 an5 od6 an6 od7 an7 od8 an8 od9 an9 od10 an10 od11 an11 od12 an12 od13 an13 od14 an14 od15 an15 od16 an16 od17 an17 od18 an18 od19 an19 od20 an20 : Option Addr} {sl0 sl1 sl2 sl3 sl4 sl5 sl6 sl7 sl8 sl9 sl10 sl11 sl12 sl13 sl14 sl15 sl16 sl17 sl18 sl19 sl20 : Array (Option Value)} {oc0 kV0 dc0 pm0 cd0 ct0 oc1 kV1 dc1 pm1 cd1 ct1 oc2 kV2 dc2 pm2 cd2 ct2 oc3 kV3 dc3 pm3 cd3 ct3 oc4 kV4 dc4 pm4 cd4 ct4 oc5 kV5 dc5 pm5 cd5 ct5 oc6 kV6 dc6 pm6 cd6 ct6 oc7 kV7 dc7 pm7 cd7 ct7 oc8 kV8 dc8 pm8 cd8 ct8 oc9 kV9 dc9 pm9 cd9 ct9 oc10 kV10 dc10 pm10 cd10 ct10 oc11 kV11 dc11 pm11 cd11 ct11 oc12 kV12 dc12 pm12 cd12 ct12 oc13 kV13 dc13 pm13 cd13 ct13 oc14 kV14 dc14 pm14 cd14 ct14 oc15 kV15 dc15 pm15 cd15 ct15 oc16 kV16 dc16 pm16 cd16 ct16 oc17 kV17 dc17 pm17 cd17 ct17 oc18 kV18 dc18 pm18 cd18 ct18 oc19 kV19 dc19 pm19 cd19 ct19 oc20 kV20 dc20 pm20 cd20 ct20 : Value} {x0 : Addr} {x1 : Addr} {x2 : Addr} {x3 : Addr} {x4 : Addr} {x5 : Addr} {x6 : Addr} {x7 : Addr} {x8 : Addr} {x9 : Addr} {x10 : Addr} {t0 : Nat} {t1 : Nat} {t2 : Nat} {t3 : Nat} {t4 : Nat} {t5 : Nat}
    (a0 : PySem.W.nsIn K mainGlobals "is_number" = some (some (.ref f0)))
    (l0 : K.lookup f0 = some ⟨oc0, od0, .func (PySem.W.fnOf "is_number" "is_number" (defArgs (top 19)) (defBody (top 19)) (defScope (top 19)) .none kV0 dc0 pm0 an0 cd0 ct0), sl0⟩)
    (c0 : PySem.W.codeIn K cd0 "is_number" = true) (k0 : PySem.W.keepIn K (.ref f0) = true)
    (a1 : PySem.W.nsIn K mainGlobals "is_word" = some (some (.ref f1)))
    (l1 : K.lookup f1 = some ⟨oc1, od1, .func (PySem.W.fnOf "is_word" "is_word" (defArgs (top 20)) (defBody (top 20)) (defScope (top 20)) .none kV1 dc1 pm1 an1 cd1 ct1), sl1⟩)
    (c1 : PySem.W.codeIn K cd1 "is_word" = true) (k1 : PySem.W.keepIn K (.ref f1) = true)
    (a2 : PySem.W.nsIn K mainGlobals "is_part" = some (some (.ref f2)))
    (l2 : K.lookup f2 = some ⟨oc2, od2, .func (PySem.W.fnOf "is_part" "is_part" (defArgs (top 21)) (defBody (top 21)) (defScope (top 21)) .none kV2 dc2 pm2 an2 cd2 ct2), sl2⟩)
    (c2 : PySem.W.codeIn K cd2 "is_part" = true) (k2 : PySem.W.keepIn K (.ref f2) = true)
    (a3 : PySem.W.nsIn K mainGlobals "is_key" = some (some (.ref f3)))
    (l3 : K.lookup f3 = some ⟨oc3, od3, .func (PySem.W.fnOf "is_key" "is_key" (defArgs (top 22)) (defBody (top 22)) (defScope (top 22)) .none kV3 dc3 pm3 an3 cd3 ct3), sl3⟩)
    (c3 : PySem.W.codeIn K cd3 "is_key" = true) (k3 : PySem.W.keepIn K (.ref f3) = true)
    (a4 : PySem.W.nsIn K mainGlobals "is_value" = some (some (.ref f4)))
    (l4 : K.lookup f4 = some ⟨oc4, od4, .func (PySem.W.fnOf "is_value" "is_value" (defArgs (top 23)) (defBody (top 23)) (defScope (top 23)) .none kV4 dc4 pm4 an4 cd4 ct4), sl4⟩)
    (c4 : PySem.W.codeIn K cd4 "is_value" = true) (k4 : PySem.W.keepIn K (.ref f4) = true)
    (a5 : PySem.W.nsIn K mainGlobals "part_code" = some (some (.ref f5)))
    (l5 : K.lookup f5 = some ⟨oc5, od5, .func (PySem.W.fnOf "part_code" "part_code" (defArgs (top 24)) (defBody (top 24)) (defScope (top 24)) .none kV5 dc5 pm5 an5 cd5 ct5), sl5⟩)
    (c5 : PySem.W.codeIn K cd5 "part_code" = true) (k5 : PySem.W.keepIn K (.ref f5) = true)
    (a6 : PySem.W.nsIn K mainGlobals "coded" = some (some (.ref f6)))
    (l6 : K.lookup f6 = some ⟨oc6, od6, .func (PySem.W.fnOf "coded" "coded" (defArgs (top 25)) (defBody (top 25)) (defScope (top 25)) .none kV6 dc6 pm6 an6 cd6 ct6), sl6⟩)
    (c6 : PySem.W.codeIn K cd6 "coded" = true) (k6 : PySem.W.keepIn K (.ref f6) = true)
    (a7 : PySem.W.nsIn K mainGlobals "_law_cell" = some (some (.ref f7)))
    (l7 : K.lookup f7 = some ⟨oc7, od7, .func (PySem.W.fnOf "_law_cell" "_law_cell" (defArgs (top 27)) (defBody (top 27)) (defScope (top 27)) .none kV7 dc7 pm7 an7 cd7 ct7), sl7⟩)
    (c7 : PySem.W.codeIn K cd7 "_law_cell" = true) (k7 : PySem.W.keepIn K (.ref f7) = true)
    (a8 : PySem.W.nsIn K mainGlobals "_law_whole" = some (some (.ref f8)))
    (l8 : K.lookup f8 = some ⟨oc8, od8, .func (PySem.W.fnOf "_law_whole" "_law_whole" (defArgs (top 28)) (defBody (top 28)) (defScope (top 28)) .none kV8 dc8 pm8 an8 cd8 ct8), sl8⟩)
    (c8 : PySem.W.codeIn K cd8 "_law_whole" = true) (k8 : PySem.W.keepIn K (.ref f8) = true)
    (a9 : PySem.W.nsIn K mainGlobals "_law_word" = some (some (.ref f9)))
    (l9 : K.lookup f9 = some ⟨oc9, od9, .func (PySem.W.fnOf "_law_word" "_law_word" (defArgs (top 29)) (defBody (top 29)) (defScope (top 29)) .none kV9 dc9 pm9 an9 cd9 ct9), sl9⟩)
    (c9 : PySem.W.codeIn K cd9 "_law_word" = true) (k9 : PySem.W.keepIn K (.ref f9) = true)
    (a10 : PySem.W.nsIn K mainGlobals "_law_part" = some (some (.ref f10)))
    (l10 : K.lookup f10 = some ⟨oc10, od10, .func (PySem.W.fnOf "_law_part" "_law_part" (defArgs (top 30)) (defBody (top 30)) (defScope (top 30)) .none kV10 dc10 pm10 an10 cd10 ct10), sl10⟩)
    (c10 : PySem.W.codeIn K cd10 "_law_part" = true) (k10 : PySem.W.keepIn K (.ref f10) = true)
    (a11 : PySem.W.nsIn K mainGlobals "_law_key" = some (some (.ref f11)))
    (l11 : K.lookup f11 = some ⟨oc11, od11, .func (PySem.W.fnOf "_law_key" "_law_key" (defArgs (top 31)) (defBody (top 31)) (defScope (top 31)) .none kV11 dc11 pm11 an11 cd11 ct11), sl11⟩)
    (c11 : PySem.W.codeIn K cd11 "_law_key" = true) (k11 : PySem.W.keepIn K (.ref f11) = true)
    (a12 : PySem.W.nsIn K mainGlobals "_law_is_part" = some (some (.ref f12)))
    (l12 : K.lookup f12 = some ⟨oc12, od12, .func (PySem.W.fnOf "_law_is_part" "_law_is_part" (defArgs (top 32)) (defBody (top 32)) (defScope (top 32)) .none kV12 dc12 pm12 an12 cd12 ct12), sl12⟩)
    (c12 : PySem.W.codeIn K cd12 "_law_is_part" = true) (k12 : PySem.W.keepIn K (.ref f12) = true)
    (a13 : PySem.W.nsIn K mainGlobals "_law_is_key" = some (some (.ref f13)))
    (l13 : K.lookup f13 = some ⟨oc13, od13, .func (PySem.W.fnOf "_law_is_key" "_law_is_key" (defArgs (top 33)) (defBody (top 33)) (defScope (top 33)) .none kV13 dc13 pm13 an13 cd13 ct13), sl13⟩)
    (c13 : PySem.W.codeIn K cd13 "_law_is_key" = true) (k13 : PySem.W.keepIn K (.ref f13) = true)
    (a14 : PySem.W.nsIn K mainGlobals "_law_word_of" = some (some (.ref f14)))
    (l14 : K.lookup f14 = some ⟨oc14, od14, .func (PySem.W.fnOf "_law_word_of" "_law_word_of" (defArgs (top 34)) (defBody (top 34)) (defScope (top 34)) .none kV14 dc14 pm14 an14 cd14 ct14), sl14⟩)
    (c14 : PySem.W.codeIn K cd14 "_law_word_of" = true) (k14 : PySem.W.keepIn K (.ref f14) = true)
    (a15 : PySem.W.nsIn K mainGlobals "_law_odd" = some (some (.ref f15)))
    (l15 : K.lookup f15 = some ⟨oc15, od15, .func (PySem.W.fnOf "_law_odd" "_law_odd" (defArgs (top 35)) (defBody (top 35)) (defScope (top 35)) .none kV15 dc15 pm15 an15 cd15 ct15), sl15⟩)
    (c15 : PySem.W.codeIn K cd15 "_law_odd" = true) (k15 : PySem.W.keepIn K (.ref f15) = true)
    (a16 : PySem.W.nsIn K mainGlobals "_law_thing" = some (some (.ref f16)))
    (l16 : K.lookup f16 = some ⟨oc16, od16, .func (PySem.W.fnOf "_law_thing" "_law_thing" (defArgs (top 36)) (defBody (top 36)) (defScope (top 36)) .none kV16 dc16 pm16 an16 cd16 ct16), sl16⟩)
    (c16 : PySem.W.codeIn K cd16 "_law_thing" = true) (k16 : PySem.W.keepIn K (.ref f16) = true)
    (a17 : PySem.W.nsIn K mainGlobals "_law_number" = some (some (.ref f17)))
    (l17 : K.lookup f17 = some ⟨oc17, od17, .func (PySem.W.fnOf "_law_number" "_law_number" (defArgs (top 37)) (defBody (top 37)) (defScope (top 37)) .none kV17 dc17 pm17 an17 cd17 ct17), sl17⟩)
    (c17 : PySem.W.codeIn K cd17 "_law_number" = true) (k17 : PySem.W.keepIn K (.ref f17) = true)
    (a18 : PySem.W.nsIn K mainGlobals "_law_told" = some (some (.ref f18)))
    (l18 : K.lookup f18 = some ⟨oc18, od18, .func (PySem.W.fnOf "_law_told" "_law_told" (defArgs (top 38)) (defBody (top 38)) (defScope (top 38)) .none kV18 dc18 pm18 an18 cd18 ct18), sl18⟩)
    (c18 : PySem.W.codeIn K cd18 "_law_told" = true) (k18 : PySem.W.keepIn K (.ref f18) = true)
    (a19 : PySem.W.nsIn K mainGlobals "_law_right" = some (some (.ref f19)))
    (l19 : K.lookup f19 = some ⟨oc19, od19, .func (PySem.W.fnOf "_law_right" "_law_right" (defArgs (top 39)) (defBody (top 39)) (defScope (top 39)) .none kV19 dc19 pm19 an19 cd19 ct19), sl19⟩)
    (c19 : PySem.W.codeIn K cd19 "_law_right" = true) (k19 : PySem.W.keepIn K (.ref f19) = true)
    (a20 : PySem.W.nsIn K mainGlobals "law" = some (some (.ref f20)))
    (l20 : K.lookup f20 = some ⟨oc20, od20, .func (PySem.W.fnOf "law" "law" (defArgs (top 40)) (defBody (top 40)) (defScope (top 40)) .none kV20 dc20 pm20 an20 cd20 ct20), sl20⟩)
    (c20 : PySem.W.codeIn K cd20 "law" = true) (k20 : PySem.W.keepIn K (.ref f20) = true)
    (z0 : PySem.W.nsIn K mainGlobals "len" = some none)
    (z1 : PySem.W.nsIn K mainGlobals "sum" = some none)
    (z2 : PySem.W.nsIn K mainGlobals "sorted" = some none)
    (z3 : PySem.W.nsIn K mainGlobals "min" = some none)
    (z4 : PySem.W.nsIn K mainGlobals "max" = some none)
    (z5 : PySem.W.nsIn K mainGlobals "all" = some none)
    (z6 : PySem.W.nsIn K mainGlobals "any" = some none)
    (z7 : PySem.W.nsIn K mainGlobals "list" = some none)
    (z8 : PySem.W.nsIn K mainGlobals "tuple" = some none)
    (z9 : PySem.W.nsIn K mainGlobals "str" = some none)
    (z10 : PySem.W.nsIn K mainGlobals "int" = some none)
    (z11 : PySem.W.nsIn K mainGlobals "dict" = some none)
    (z12 : PySem.W.nsIn K mainGlobals "bool" = some none)
    (z13 : PySem.W.nsIn K mainGlobals "isinstance" = some none)
    (z14 : PySem.W.nsIn K mainGlobals "range" = some none)
    (z15 : PySem.W.nsIn K mainGlobals "zip" = some none)
    (z16 : PySem.W.nsIn K mainGlobals "enumerate" = some none)
    (z17 : PySem.W.nsIn K mainGlobals "reversed" = some none)
    (z18 : PySem.W.nsIn K mainGlobals "divmod" = some none)
    (ob0 : PySem.W.nsIn K mainGlobals "Pages" = some none)
    (ob1 : PySem.W.nsIn K mainGlobals "House" = some none)
    (ob2 : PySem.W.nsIn K mainGlobals "Cursor" = some none)
    (ob3 : PySem.W.nsIn K mainGlobals "Disk" = some none)
    (ob4 : PySem.W.nsIn K mainGlobals "Keeper" = some none)
    (ob5 : PySem.W.nsIn K mainGlobals "Look" = some none)
    (ob6 : PySem.W.nsIn K mainGlobals "Desk" = some none)
    (g0 : PySem.W.nsIn K mainGlobals "MOST_LETTERS" = some (some (.int 8 t0)))
    (g1 : PySem.W.nsIn K mainGlobals "LETTERS" = some (some (.str (S [97, 98, 99, 100, 101, 102, 103, 104, 105, 106, 107, 108, 109, 110, 111, 112, 113, 114, 115, 116, 117, 118, 119, 120, 121, 122]) t1)))
    (g2 : PySem.W.nsIn K mainGlobals "MOST_NUMBER" = some (some (.int 999999999999 t2)))
    (g3 : PySem.W.nsIn K mainGlobals "MOST_PARTS" = some (some (.int 4 t3)))
    (g4 : PySem.W.nsIn K mainGlobals "MOST_VALUE" = some (some (.int 999999999999999999999999999999999999999999999999999999999999 t4)))
    (g5 : PySem.W.nsIn K mainGlobals "GREAT" = some (some (.str (S [65, 66, 67, 68, 69, 70, 71, 72, 73, 74, 75, 76]) t5)))
    (xn0 : PySem.W.nsIn K mainGlobals "LeafError" = some (some (.ref x0)))
    (xs0 : PySem.W.subIn K (.ref x0) (.type "BaseException") = some true)
    (xo0 : PySem.W.kitOne K (.type "NoneType") (.ref x0) = some false)
    (xn1 : PySem.W.nsIn K mainGlobals "NoKey" = some (some (.ref x1)))
    (xs1 : PySem.W.subIn K (.ref x1) (.type "BaseException") = some true)
    (xo1 : PySem.W.kitOne K (.type "NoneType") (.ref x1) = some false)
    (xn2 : PySem.W.nsIn K mainGlobals "NoValue" = some (some (.ref x2)))
    (xs2 : PySem.W.subIn K (.ref x2) (.type "BaseException") = some true)
    (xo2 : PySem.W.kitOne K (.type "NoneType") (.ref x2) = some false)
    (xn3 : PySem.W.nsIn K mainGlobals "NoCode" = some (some (.ref x3)))
    (xs3 : PySem.W.subIn K (.ref x3) (.type "BaseException") = some true)
    (xo3 : PySem.W.kitOne K (.type "NoneType") (.ref x3) = some false)
    (xn4 : PySem.W.nsIn K mainGlobals "NoRoom" = some (some (.ref x4)))
    (xs4 : PySem.W.subIn K (.ref x4) (.type "BaseException") = some true)
    (xo4 : PySem.W.kitOne K (.type "NoneType") (.ref x4) = some false)
    (xn5 : PySem.W.nsIn K mainGlobals "NoPage" = some (some (.ref x5)))
    (xs5 : PySem.W.subIn K (.ref x5) (.type "BaseException") = some true)
    (xo5 : PySem.W.kitOne K (.type "NoneType") (.ref x5) = some false)
    (xn6 : PySem.W.nsIn K mainGlobals "NoPlace" = some (some (.ref x6)))
    (xs6 : PySem.W.subIn K (.ref x6) (.type "BaseException") = some true)
    (xo6 : PySem.W.kitOne K (.type "NoneType") (.ref x6) = some false)
    (xn7 : PySem.W.nsIn K mainGlobals "NoVersion" = some (some (.ref x7)))
    (xs7 : PySem.W.subIn K (.ref x7) (.type "BaseException") = some true)
    (xo7 : PySem.W.kitOne K (.type "NoneType") (.ref x7) = some false)
    (xn8 : PySem.W.nsIn K mainGlobals "NoMark" = some (some (.ref x8)))
    (xs8 : PySem.W.subIn K (.ref x8) (.type "BaseException") = some true)
    (xo8 : PySem.W.kitOne K (.type "NoneType") (.ref x8) = some false)
    (xn9 : PySem.W.nsIn K mainGlobals "NoNode" = some (some (.ref x9)))
    (xs9 : PySem.W.subIn K (.ref x9) (.type "BaseException") = some true)
    (xo9 : PySem.W.kitOne K (.type "NoneType") (.ref x9) = some false)
    (xn10 : PySem.W.nsIn K mainGlobals "NoRow" = some (some (.ref x10)))
    (xs10 : PySem.W.subIn K (.ref x10) (.type "BaseException") = some true)
    (xo10 : PySem.W.kitOne K (.type "NoneType") (.ref x10) = some false)
    (xz11 : PySem.W.nsIn K mainGlobals "ValueError" = some none)
    (xs11 : PySem.W.subIn K (.type "ValueError") (.type "BaseException") = some true)
    (xo11 : PySem.W.kitOne K (.type "NoneType") (.type "ValueError") = some false)
    (xe0 : PySem.W.excIn K x0 [.type "ValueError", .type "Exception", .type "BaseException", .type "object"] "ValueError.__new__" = true)
    (xk0 : PySem.W.keepIn K (.ref x0) = true)
    (xt0 : PySem.W.typeIn K (.ref x0) = some (.type "type"))
    (xe1 : PySem.W.excIn K x1 [.type "ValueError", .type "Exception", .type "BaseException", .type "object"] "ValueError.__new__" = true)
    (xk1 : PySem.W.keepIn K (.ref x1) = true)
    (xt1 : PySem.W.typeIn K (.ref x1) = some (.type "type"))
    (xe2 : PySem.W.excIn K x2 [.type "ValueError", .type "Exception", .type "BaseException", .type "object"] "ValueError.__new__" = true)
    (xk2 : PySem.W.keepIn K (.ref x2) = true)
    (xt2 : PySem.W.typeIn K (.ref x2) = some (.type "type"))
    (xe3 : PySem.W.excIn K x3 [.type "ValueError", .type "Exception", .type "BaseException", .type "object"] "ValueError.__new__" = true)
    (xk3 : PySem.W.keepIn K (.ref x3) = true)
    (xt3 : PySem.W.typeIn K (.ref x3) = some (.type "type"))
    (xe4 : PySem.W.excIn K x4 [.type "ValueError", .type "Exception", .type "BaseException", .type "object"] "ValueError.__new__" = true)
    (xk4 : PySem.W.keepIn K (.ref x4) = true)
    (xt4 : PySem.W.typeIn K (.ref x4) = some (.type "type"))
    (xe5 : PySem.W.excIn K x5 [.type "ValueError", .type "Exception", .type "BaseException", .type "object"] "ValueError.__new__" = true)
    (xk5 : PySem.W.keepIn K (.ref x5) = true)
    (xt5 : PySem.W.typeIn K (.ref x5) = some (.type "type"))
    (xe6 : PySem.W.excIn K x6 [.type "ValueError", .type "Exception", .type "BaseException", .type "object"] "ValueError.__new__" = true)
    (xk6 : PySem.W.keepIn K (.ref x6) = true)
    (xt6 : PySem.W.typeIn K (.ref x6) = some (.type "type"))
    (xe7 : PySem.W.excIn K x7 [.type "ValueError", .type "Exception", .type "BaseException", .type "object"] "ValueError.__new__" = true)
    (xk7 : PySem.W.keepIn K (.ref x7) = true)
    (xt7 : PySem.W.typeIn K (.ref x7) = some (.type "type"))
    (xe8 : PySem.W.excIn K x8 [.type "ValueError", .type "Exception", .type "BaseException", .type "object"] "ValueError.__new__" = true)
    (xk8 : PySem.W.keepIn K (.ref x8) = true)
    (xt8 : PySem.W.typeIn K (.ref x8) = some (.type "type"))
    (xe9 : PySem.W.excIn K x9 [.type "ValueError", .type "Exception", .type "BaseException", .type "object"] "ValueError.__new__" = true)
    (xk9 : PySem.W.keepIn K (.ref x9) = true)
    (xt9 : PySem.W.typeIn K (.ref x9) = some (.type "type"))
    (xe10 : PySem.W.excIn K x10 [.type "ValueError", .type "Exception", .type "BaseException", .type "object"] "ValueError.__new__" = true)
    (xk10 : PySem.W.keepIn K (.ref x10) = true)
    (xt10 : PySem.W.typeIn K (.ref x10) = some (.type "type"))
    (xsp : PySem.W.specialIn K (.builtin "object.__class__") "__get__" = some (some (.builtin "getset_descriptor.__get__")))
    (xtk : PySem.W.takesIn K (.builtin "object.__class__") = some true)
    (xg1 : PySem.W.findIn K (.ref x1) "__getattribute__" = some (some (.builtin "BaseException.__getattribute__")))
    (xh1 : PySem.W.findIn K (.ref x1) "__getattr__" = some none)
    (xd1 : PySem.W.hasDictIn K x1 = true)
    (xc1 : PySem.W.findIn K (.ref x1) "__class__" = some (some (.builtin "object.__class__")))
    (xm1 : PySem.W.mroIn K x1 (.type "object") = some true)
    (xi1 : PySem.W.isClsIn K x1 = true)
    (xl1 : PySem.W.subIn K (.ref x1) (.ref x1) = some true)
    (xp1_0 : PySem.W.kitOne K (.ref x1) (.ref x0) = some true)
    (xp1_1 : PySem.W.kitOne K (.ref x1) (.ref x1) = some true)
    (xp1_2 : PySem.W.kitOne K (.ref x1) (.ref x2) = some false)
    (xp1_3 : PySem.W.kitOne K (.ref x1) (.ref x3) = some false)
    (xp1_4 : PySem.W.kitOne K (.ref x1) (.ref x4) = some false)
    (xp1_5 : PySem.W.kitOne K (.ref x1) (.ref x5) = some false)
    (xp1_6 : PySem.W.kitOne K (.ref x1) (.ref x6) = some false)
    (xp1_7 : PySem.W.kitOne K (.ref x1) (.ref x7) = some false)
    (xp1_8 : PySem.W.kitOne K (.ref x1) (.ref x8) = some false)
    (xp1_9 : PySem.W.kitOne K (.ref x1) (.ref x9) = some false)
    (xp1_10 : PySem.W.kitOne K (.ref x1) (.ref x10) = some false)
    (xp1_11 : PySem.W.kitOne K (.ref x1) (.type "ValueError") = some true) :
    ∃ fd : FuncData, (∀ (s : Shared) (v : Value), BindsTo s fd ⟨[v], []⟩ [("_law_script", v)]) ∧ ∀ base : Heap, K.In base → base.Ns mainGlobals mg → FnOk l.prog w K mg base (L2.CX l.prog w) (2 * FU) fa fd ["_law_script"] (spScr K) := by
  have e := hfa.symm.trans (PySem.W.mg_of X G a20)
  cases e
  have F0 := fun_mk (st := top 19) l0 c0 k0
  have b0 := F0.binds (ps := e_0.ps) fun _ _ _ _ _ _ us hl => match us, hl with | [_, _, _], _ => rfl
  have G0 := F0.g
  have F1 := fun_mk (st := top 20) l1 c1 k1
  have b1 := F1.binds (ps := e_1.ps) fun _ _ _ _ _ _ us hl => match us, hl with | [_], _ => rfl
  have G1 := F1.g
  have F2 := fun_mk (st := top 21) l2 c2 k2
  have b2 := F2.binds (ps := e_2.ps) fun _ _ _ _ _ _ us hl => match us, hl with | [_], _ => rfl
  have G2 := F2.g
  have F3 := fun_mk (st := top 22) l3 c3 k3
  have b3 := F3.binds (ps := e_3.ps) fun _ _ _ _ _ _ us hl => match us, hl with | [_], _ => rfl
  have G3 := F3.g
  have F4 := fun_mk (st := top 23) l4 c4 k4
  have b4 := F4.binds (ps := e_4.ps) fun _ _ _ _ _ _ us hl => match us, hl with | [_], _ => rfl
  have G4 := F4.g
  have F5 := fun_mk (st := top 24) l5 c5 k5
  have b5 := F5.binds (ps := e_5.ps) fun _ _ _ _ _ _ us hl => match us, hl with | [_], _ => rfl
  have G5 := F5.g
  have F6 := fun_mk (st := top 25) l6 c6 k6
  have b6 := F6.binds (ps := e_6.ps) fun _ _ _ _ _ _ us hl => match us, hl with | [_], _ => rfl
  have G6 := F6.g
  have F7 := fun_mk (st := top 27) l7 c7 k7
  have b7 := F7.binds (ps := e_7.ps) fun _ _ _ _ _ _ us hl => match us, hl with | [_, _], _ => rfl
  have G7 := F7.g
  have F8 := fun_mk (st := top 28) l8 c8 k8
  have b8 := F8.binds (ps := e_8.ps) fun _ _ _ _ _ _ us hl => match us, hl with | [_], _ => rfl
  have G8 := F8.g
  have F9 := fun_mk (st := top 29) l9 c9 k9
  have b9 := F9.binds (ps := e_9.ps) fun _ _ _ _ _ _ us hl => match us, hl with | [_], _ => rfl
  have G9 := F9.g
  have F10 := fun_mk (st := top 30) l10 c10 k10
  have b10 := F10.binds (ps := e_10.ps) fun _ _ _ _ _ _ us hl => match us, hl with | [_], _ => rfl
  have G10 := F10.g
  have F11 := fun_mk (st := top 31) l11 c11 k11
  have b11 := F11.binds (ps := e_11.ps) fun _ _ _ _ _ _ us hl => match us, hl with | [_], _ => rfl
  have G11 := F11.g
  have F12 := fun_mk (st := top 32) l12 c12 k12
  have b12 := F12.binds (ps := e_12.ps) fun _ _ _ _ _ _ us hl => match us, hl with | [_], _ => rfl
  have G12 := F12.g
  have F13 := fun_mk (st := top 33) l13 c13 k13
  have b13 := F13.binds (ps := e_13.ps) fun _ _ _ _ _ _ us hl => match us, hl with | [_], _ => rfl
  have G13 := F13.g
  have F14 := fun_mk (st := top 34) l14 c14 k14
  have b14 := F14.binds (ps := e_14.ps) fun _ _ _ _ _ _ us hl => match us, hl with | [_], _ => rfl
  have G14 := F14.g
  have F15 := fun_mk (st := top 35) l15 c15 k15
  have b15 := F15.binds (ps := e_15.ps) fun _ _ _ _ _ _ us hl => match us, hl with | [_], _ => rfl
  have G15 := F15.g
  have F16 := fun_mk (st := top 36) l16 c16 k16
  have b16 := F16.binds (ps := e_16.ps) fun _ _ _ _ _ _ us hl => match us, hl with | [_], _ => rfl
  have G16 := F16.g
  have F17 := fun_mk (st := top 37) l17 c17 k17
  have b17 := F17.binds (ps := e_17.ps) fun _ _ _ _ _ _ us hl => match us, hl with | [_], _ => rfl
  have G17 := F17.g
  have F18 := fun_mk (st := top 38) l18 c18 k18
  have b18 := F18.binds (ps := e_18.ps) fun _ _ _ _ _ _ us hl => match us, hl with | [_], _ => rfl
  have G18 := F18.g
  have F19 := fun_mk (st := top 39) l19 c19 k19
  have b19 := F19.binds (ps := e_19.ps) fun _ _ _ _ _ _ us hl => match us, hl with | [_, _], _ => rfl
  have G19 := F19.g
  have F20 := fun_mk (st := top 40) l20 c20 k20
  have b20 := F20.binds (ps := e_20.ps) fun _ _ _ _ _ _ us hl => match us, hl with | [_], _ => rfl
  have G20 := F20.g
  obtain ⟨q1, q2, q3, q4, q5, q6, q7⟩ := bi_of (mg := mg) (by
    intro x hx
    simp only [bnames, List.mem_cons, List.not_mem_nil, or_false] at hx
    rcases hx with rfl | rfl | rfl | rfl | rfl | rfl | rfl | rfl | rfl | rfl | rfl | rfl | rfl | rfl | rfl | rfl | rfl | rfl | rfl
    · exact PySem.W.mg_none_of X G z0
    · exact PySem.W.mg_none_of X G z1
    · exact PySem.W.mg_none_of X G z2
    · exact PySem.W.mg_none_of X G z3
    · exact PySem.W.mg_none_of X G z4
    · exact PySem.W.mg_none_of X G z5
    · exact PySem.W.mg_none_of X G z6
    · exact PySem.W.mg_none_of X G z7
    · exact PySem.W.mg_none_of X G z8
    · exact PySem.W.mg_none_of X G z9
    · exact PySem.W.mg_none_of X G z10
    · exact PySem.W.mg_none_of X G z11
    · exact PySem.W.mg_none_of X G z12
    · exact PySem.W.mg_none_of X G z13
    · exact PySem.W.mg_none_of X G z14
    · exact PySem.W.mg_none_of X G z15
    · exact PySem.W.mg_none_of X G z16
    · exact PySem.W.mg_none_of X G z17
    · exact PySem.W.mg_none_of X G z18
  )
  let FA : Nat → Addr := fun k => match k with | 0 => f0 | 1 => f1 | 2 => f2 | 3 => f3 | 4 => f4 | 5 => f5 | 6 => f6 | 7 => f7 | 8 => f8 | 9 => f9 | 10 => f10 | 11 => f11 | 12 => f12 | 13 => f13 | 14 => f14 | 15 => f15 | 16 => f16 | 17 => f17 | 18 => f18 | 19 => f19 | 20 => fa | _ => 0
  let FD : Nat → FuncData := fun k => match k with | 0 => (PySem.W.fnOf "is_number" "is_number" (defArgs (top 19)) (defBody (top 19)) (defScope (top 19)) .none kV0 dc0 pm0 an0 cd0 ct0) | 1 => (PySem.W.fnOf "is_word" "is_word" (defArgs (top 20)) (defBody (top 20)) (defScope (top 20)) .none kV1 dc1 pm1 an1 cd1 ct1) | 2 => (PySem.W.fnOf "is_part" "is_part" (defArgs (top 21)) (defBody (top 21)) (defScope (top 21)) .none kV2 dc2 pm2 an2 cd2 ct2) | 3 => (PySem.W.fnOf "is_key" "is_key" (defArgs (top 22)) (defBody (top 22)) (defScope (top 22)) .none kV3 dc3 pm3 an3 cd3 ct3) | 4 => (PySem.W.fnOf "is_value" "is_value" (defArgs (top 23)) (defBody (top 23)) (defScope (top 23)) .none kV4 dc4 pm4 an4 cd4 ct4) | 5 => (PySem.W.fnOf "part_code" "part_code" (defArgs (top 24)) (defBody (top 24)) (defScope (top 24)) .none kV5 dc5 pm5 an5 cd5 ct5) | 6 => (PySem.W.fnOf "coded" "coded" (defArgs (top 25)) (defBody (top 25)) (defScope (top 25)) .none kV6 dc6 pm6 an6 cd6 ct6) | 7 => (PySem.W.fnOf "_law_cell" "_law_cell" (defArgs (top 27)) (defBody (top 27)) (defScope (top 27)) .none kV7 dc7 pm7 an7 cd7 ct7) | 8 => (PySem.W.fnOf "_law_whole" "_law_whole" (defArgs (top 28)) (defBody (top 28)) (defScope (top 28)) .none kV8 dc8 pm8 an8 cd8 ct8) | 9 => (PySem.W.fnOf "_law_word" "_law_word" (defArgs (top 29)) (defBody (top 29)) (defScope (top 29)) .none kV9 dc9 pm9 an9 cd9 ct9) | 10 => (PySem.W.fnOf "_law_part" "_law_part" (defArgs (top 30)) (defBody (top 30)) (defScope (top 30)) .none kV10 dc10 pm10 an10 cd10 ct10) | 11 => (PySem.W.fnOf "_law_key" "_law_key" (defArgs (top 31)) (defBody (top 31)) (defScope (top 31)) .none kV11 dc11 pm11 an11 cd11 ct11) | 12 => (PySem.W.fnOf "_law_is_part" "_law_is_part" (defArgs (top 32)) (defBody (top 32)) (defScope (top 32)) .none kV12 dc12 pm12 an12 cd12 ct12) | 13 => (PySem.W.fnOf "_law_is_key" "_law_is_key" (defArgs (top 33)) (defBody (top 33)) (defScope (top 33)) .none kV13 dc13 pm13 an13 cd13 ct13) | 14 => (PySem.W.fnOf "_law_word_of" "_law_word_of" (defArgs (top 34)) (defBody (top 34)) (defScope (top 34)) .none kV14 dc14 pm14 an14 cd14 ct14) | 15 => (PySem.W.fnOf "_law_odd" "_law_odd" (defArgs (top 35)) (defBody (top 35)) (defScope (top 35)) .none kV15 dc15 pm15 an15 cd15 ct15) | 16 => (PySem.W.fnOf "_law_thing" "_law_thing" (defArgs (top 36)) (defBody (top 36)) (defScope (top 36)) .none kV16 dc16 pm16 an16 cd16 ct16) | 17 => (PySem.W.fnOf "_law_number" "_law_number" (defArgs (top 37)) (defBody (top 37)) (defScope (top 37)) .none kV17 dc17 pm17 an17 cd17 ct17) | 18 => (PySem.W.fnOf "_law_told" "_law_told" (defArgs (top 38)) (defBody (top 38)) (defScope (top 38)) .none kV18 dc18 pm18 an18 cd18 ct18) | 19 => (PySem.W.fnOf "_law_right" "_law_right" (defArgs (top 39)) (defBody (top 39)) (defScope (top 39)) .none kV19 dc19 pm19 an19 cd19 ct19) | 20 => (PySem.W.fnOf "law" "law" (defArgs (top 40)) (defBody (top 40)) (defScope (top 40)) .none kV20 dc20 pm20 an20 cd20 ct20) | _ => (PySem.W.fnOf "is_number" "is_number" (defArgs (top 19)) (defBody (top 19)) (defScope (top 19)) .none kV0 dc0 pm0 an0 cd0 ct0)
  let cls : Nat → Value := fun k => match k with | 0 => (.ref x0) | 1 => (.ref x1) | 2 => (.ref x2) | 3 => (.ref x3) | 4 => (.ref x4) | 5 => (.ref x5) | 6 => (.ref x6) | 7 => (.ref x7) | 8 => (.ref x8) | 9 => (.ref x9) | 10 => (.ref x10) | 11 => (.type "ValueError") | _ => .none
  have XF : ExFacts EXs K mg cls sb := by
    refine ⟨fun c k b h => ?_, fun k h => ?_, fun k h => ?_, fun k h h2 => ?_⟩
    · obtain ⟨h1, h2, h3⟩ := sbOf_some h
      simp only [EXr, EXs, List.mem_cons, List.not_mem_nil, or_false] at h1 h2
      rcases h1 with rfl
      · have C : ExcC K x1 := ⟨xg1, xh1, xs1, xd1, xc1, xsp, xtk, xm1⟩
        rcases h2 with rfl | rfl | rfl | rfl | rfl | rfl | rfl | rfl | rfl | rfl | rfl | rfl
        · subst h3; exact ⟨⟨x1, rfl, C⟩, xn1, xp1_0, exm_kit xs0 (kitCls_me xi1 xt1 xl1) xp1_0⟩
        · subst h3; exact ⟨⟨x1, rfl, C⟩, xn1, xp1_1, exm_kit xs1 (kitCls_me xi1 xt1 xl1) xp1_1⟩
        · subst h3; exact ⟨⟨x1, rfl, C⟩, xn1, xp1_2, exm_kit xs2 (kitCls_me xi1 xt1 xl1) xp1_2⟩
        · subst h3; exact ⟨⟨x1, rfl, C⟩, xn1, xp1_3, exm_kit xs3 (kitCls_me xi1 xt1 xl1) xp1_3⟩
        · subst h3; exact ⟨⟨x1, rfl, C⟩, xn1, xp1_4, exm_kit xs4 (kitCls_me xi1 xt1 xl1) xp1_4⟩
        · subst h3; exact ⟨⟨x1, rfl, C⟩, xn1, xp1_5, exm_kit xs5 (kitCls_me xi1 xt1 xl1) xp1_5⟩
        · subst h3; exact ⟨⟨x1, rfl, C⟩, xn1, xp1_6, exm_kit xs6 (kitCls_me xi1 xt1 xl1) xp1_6⟩
        · subst h3; exact ⟨⟨x1, rfl, C⟩, xn1, xp1_7, exm_kit xs7 (kitCls_me xi1 xt1 xl1) xp1_7⟩
        · subst h3; exact ⟨⟨x1, rfl, C⟩, xn1, xp1_8, exm_kit xs8 (kitCls_me xi1 xt1 xl1) xp1_8⟩
        · subst h3; exact ⟨⟨x1, rfl, C⟩, xn1, xp1_9, exm_kit xs9 (kitCls_me xi1 xt1 xl1) xp1_9⟩
        · subst h3; exact ⟨⟨x1, rfl, C⟩, xn1, xp1_10, exm_kit xs10 (kitCls_me xi1 xt1 xl1) xp1_10⟩
        · subst h3; exact ⟨⟨x1, rfl, C⟩, xn1, xp1_11, exm_kit xs11 (kitCls_me xi1 xt1 xl1) xp1_11⟩
    · simp only [EXs, List.mem_cons, List.not_mem_nil, or_false] at h
      rcases h with rfl | rfl | rfl | rfl | rfl | rfl | rfl | rfl | rfl | rfl | rfl | rfl
      · exact xo0
      · exact xo1
      · exact xo2
      · exact xo3
      · exact xo4
      · exact xo5
      · exact xo6
      · exact xo7
      · exact xo8
      · exact xo9
      · exact xo10
      · exact xo11
    · simp only [EXs, List.mem_cons, List.not_mem_nil, or_false] at h
      rcases h with rfl | rfl | rfl | rfl | rfl | rfl | rfl | rfl | rfl | rfl | rfl | rfl
      · exact .inl ⟨⟨x0, rfl⟩, PySem.W.mg_of X G xn0⟩
      · exact .inl ⟨⟨x1, rfl⟩, PySem.W.mg_of X G xn1⟩
      · exact .inl ⟨⟨x2, rfl⟩, PySem.W.mg_of X G xn2⟩
      · exact .inl ⟨⟨x3, rfl⟩, PySem.W.mg_of X G xn3⟩
      · exact .inl ⟨⟨x4, rfl⟩, PySem.W.mg_of X G xn4⟩
      · exact .inl ⟨⟨x5, rfl⟩, PySem.W.mg_of X G xn5⟩
      · exact .inl ⟨⟨x6, rfl⟩, PySem.W.mg_of X G xn6⟩
      · exact .inl ⟨⟨x7, rfl⟩, PySem.W.mg_of X G xn7⟩
      · exact .inl ⟨⟨x8, rfl⟩, PySem.W.mg_of X G xn8⟩
      · exact .inl ⟨⟨x9, rfl⟩, PySem.W.mg_of X G xn9⟩
      · exact .inl ⟨⟨x10, rfl⟩, PySem.W.mg_of X G xn10⟩
      · exact .inr ⟨rfl, rfl, PySem.W.mg_none_of X G xz11⟩
    · simp only [EXs, List.mem_cons, List.not_mem_nil, or_false] at h
      rcases h with rfl | rfl | rfl | rfl | rfl | rfl | rfl | rfl | rfl | rfl | rfl | rfl
      · exact ⟨x0, _, _, _, _, rfl, PySem.F.excBase_ValueError, xe0, xk0, xs0, xt0⟩
      · exact ⟨x1, _, _, _, _, rfl, PySem.F.excBase_ValueError, xe1, xk1, xs1, xt1⟩
      · exact ⟨x2, _, _, _, _, rfl, PySem.F.excBase_ValueError, xe2, xk2, xs2, xt2⟩
      · exact ⟨x3, _, _, _, _, rfl, PySem.F.excBase_ValueError, xe3, xk3, xs3, xt3⟩
      · exact ⟨x4, _, _, _, _, rfl, PySem.F.excBase_ValueError, xe4, xk4, xs4, xt4⟩
      · exact ⟨x5, _, _, _, _, rfl, PySem.F.excBase_ValueError, xe5, xk5, xs5, xt5⟩
      · exact ⟨x6, _, _, _, _, rfl, PySem.F.excBase_ValueError, xe6, xk6, xs6, xt6⟩
      · exact ⟨x7, _, _, _, _, rfl, PySem.F.excBase_ValueError, xe7, xk7, xs7, xt7⟩
      · exact ⟨x8, _, _, _, _, rfl, PySem.F.excBase_ValueError, xe8, xk8, xs8, xt8⟩
      · exact ⟨x9, _, _, _, _, rfl, PySem.F.excBase_ValueError, xe9, xk9, xs9, xt9⟩
      · exact ⟨x10, _, _, _, _, rfl, PySem.F.excBase_ValueError, xe10, xk10, xs10, xt10⟩
      · exact absurd rfl h2
  have HD : Hd tbl gcs EXs cls sb FA FD K mg := by
    refine ⟨fun k d h => ?_, fun c nm d _ hm => (no_mth tbl_nm hm).elim, obf_of (ob1_no ob0) (ob1_no ob1) (ob1_no ob2) (ob1_no ob3) (ob1_no ob4) (ob1_no ob5) (ob1_no ob6), q1, q2, q3, q4, q5, q6, q7, fun nm d h => ?_, XF, fun k d h hn => ?_⟩
    · simp only [tbl, List.mem_cons, List.not_mem_nil, or_false, Prod.mk.injEq] at h
      rcases h with ⟨rfl, rfl⟩ | ⟨rfl, rfl⟩ | ⟨rfl, rfl⟩ | ⟨rfl, rfl⟩ | ⟨rfl, rfl⟩ | ⟨rfl, rfl⟩ | ⟨rfl, rfl⟩ | ⟨rfl, rfl⟩ | ⟨rfl, rfl⟩ | ⟨rfl, rfl⟩ | ⟨rfl, rfl⟩ | ⟨rfl, rfl⟩ | ⟨rfl, rfl⟩ | ⟨rfl, rfl⟩ | ⟨rfl, rfl⟩ | ⟨rfl, rfl⟩ | ⟨rfl, rfl⟩ | ⟨rfl, rfl⟩ | ⟨rfl, rfl⟩ | ⟨rfl, rfl⟩ | ⟨rfl, rfl⟩
      · exact ⟨fun _ => PySem.W.mg_of X G a0, G0, b0, [], [], b0, .nil⟩
      · exact ⟨fun _ => PySem.W.mg_of X G a1, G1, b1, [], [], b1, .nil⟩
      · exact ⟨fun _ => PySem.W.mg_of X G a2, G2, b2, [], [], b2, .nil⟩
      · exact ⟨fun _ => PySem.W.mg_of X G a3, G3, b3, [], [], b3, .nil⟩
      · exact ⟨fun _ => PySem.W.mg_of X G a4, G4, b4, [], [], b4, .nil⟩
      · exact ⟨fun _ => PySem.W.mg_of X G a5, G5, b5, [], [], b5, .nil⟩
      · exact ⟨fun _ => PySem.W.mg_of X G a6, G6, b6, [], [], b6, .nil⟩
      · exact ⟨fun _ => PySem.W.mg_of X G a7, G7, b7, [], [], b7, .nil⟩
      · exact ⟨fun _ => PySem.W.mg_of X G a8, G8, b8, [], [], b8, .nil⟩
      · exact ⟨fun _ => PySem.W.mg_of X G a9, G9, b9, [], [], b9, .nil⟩
      · exact ⟨fun _ => PySem.W.mg_of X G a10, G10, b10, [], [], b10, .nil⟩
      · exact ⟨fun _ => PySem.W.mg_of X G a11, G11, b11, [], [], b11, .nil⟩
      · exact ⟨fun _ => PySem.W.mg_of X G a12, G12, b12, [], [], b12, .nil⟩
      · exact ⟨fun _ => PySem.W.mg_of X G a13, G13, b13, [], [], b13, .nil⟩
      · exact ⟨fun _ => PySem.W.mg_of X G a14, G14, b14, [], [], b14, .nil⟩
      · exact ⟨fun _ => PySem.W.mg_of X G a15, G15, b15, [], [], b15, .nil⟩
      · exact ⟨fun _ => PySem.W.mg_of X G a16, G16, b16, [], [], b16, .nil⟩
      · exact ⟨fun _ => PySem.W.mg_of X G a17, G17, b17, [], [], b17, .nil⟩
      · exact ⟨fun _ => PySem.W.mg_of X G a18, G18, b18, [], [], b18, .nil⟩
      · exact ⟨fun _ => PySem.W.mg_of X G a19, G19, b19, [], [], b19, .nil⟩
      · exact ⟨fun _ => PySem.W.mg_of X G a20, G20, b20, [], [], b20, .nil⟩
    · simp only [gcs, List.mem_cons, List.not_mem_nil, or_false, Prod.mk.injEq] at h
      rcases h with ⟨rfl, rfl⟩ | ⟨rfl, rfl⟩ | ⟨rfl, rfl⟩ | ⟨rfl, rfl⟩ | ⟨rfl, rfl⟩ | ⟨rfl, rfl⟩
      · exact ⟨.int _, _, PySem.W.mg_of X G g0, ⟨_, rfl⟩, fun _ _ => .int _⟩
      · exact ⟨.str _, _, PySem.W.mg_of X G g1, ⟨_, rfl⟩, fun _ _ => .str _ (by decide)⟩
      · exact ⟨.int _, _, PySem.W.mg_of X G g2, ⟨_, rfl⟩, fun _ _ => .int _⟩
      · exact ⟨.int _, _, PySem.W.mg_of X G g3, ⟨_, rfl⟩, fun _ _ => .int _⟩
      · exact ⟨.int _, _, PySem.W.mg_of X G g4, ⟨_, rfl⟩, fun _ _ => .int _⟩
      · exact ⟨.str _, _, PySem.W.mg_of X G g5, ⟨_, rfl⟩, fun _ _ => .str _ (by decide)⟩
    · exact (tbl_no h hn).elim
  exact ⟨FD 20, fun s v => .of_eq rfl, fun base _ _ => scr_ok (ps := e_20.ps) (cls := cls) rfl (fn_ok (M := M) (sub := sb) HD (fun _ _ _ ⟨_, _, h, hn⟩ => (tbl_no h hn).elim) tbl_M tbl_nd tbl_ok FU 20 e_20 (by simp [tbl])) main⟩
theorem head_ok (main : ∀ ns : List Int, ns.length ≤ 63 → ∃ m, callF M sb FU 20 [.lst (ns.map D.int)] [] = .ok (.bl true) m) {l : PySem.W.OpenLaw} {w : World} {K : PySem.W.Frag} {h : Heap} {mg : Str → Option Value} {fa : Addr} (X : K.In h) (c : SaysH exH fnH vsH K) (G : h.Ns mainGlobals mg) (hfa : mg "law" = some (.ref fa)) :
    ∃ fd : FuncData, (∀ (s : Shared) (v : Value), BindsTo s fd ⟨[v], []⟩ [("_law_script", v)]) ∧ ∀ base : Heap, K.In base → base.Ns mainGlobals mg → FnOk l.prog w K mg base (L2.CX l.prog w) (2 * FU) fa fd ["_law_script"] (spScr K) := by
  have ee := c.ex
  unfold exH at ee
  obtain ⟨p0, ee⟩ := exB ee
  obtain ⟨p1, ee⟩ := exB ee
  obtain ⟨p2, ee⟩ := exB ee
  obtain ⟨p3, ee⟩ := exB ee
  obtain ⟨p4, ee⟩ := exB ee
  obtain ⟨p5, ee⟩ := exB ee
  obtain ⟨p6, ee⟩ := exB ee
  have p7 := ee
  have a0 : PySem.W.nsIn K mainGlobals "is_number" = some (some (.ref (He.ga K "is_number"))) := flD p0 0 rfl
  obtain ⟨_, _, _, _, _, _, _, _, _, l0, c0⟩ := lk_N (c.def_ 0 (d := ("is_number", none)) rfl rfl) (flB p0 1 rfl)
  have k0 : PySem.W.keepIn K (.ref (He.ga K "is_number")) = true := flB p0 2 rfl
  have a1 : PySem.W.nsIn K mainGlobals "is_word" = some (some (.ref (He.ga K "is_word"))) := flD p0 3 rfl
  obtain ⟨_, _, _, _, _, _, _, _, _, l1, c1⟩ := lk_N (c.def_ 1 (d := ("is_word", none)) rfl rfl) (flB p0 4 rfl)
  have k1 : PySem.W.keepIn K (.ref (He.ga K "is_word")) = true := flB p0 5 rfl
  have a2 : PySem.W.nsIn K mainGlobals "is_part" = some (some (.ref (He.ga K "is_part"))) := flD p0 6 rfl
  obtain ⟨_, _, _, _, _, _, _, _, _, l2, c2⟩ := lk_N (c.def_ 2 (d := ("is_part", none)) rfl rfl) (flB p0 7 rfl)
  have k2 : PySem.W.keepIn K (.ref (He.ga K "is_part")) = true := flB p0 8 rfl
  have a3 : PySem.W.nsIn K mainGlobals "is_key" = some (some (.ref (He.ga K "is_key"))) := flD p0 9 rfl
  obtain ⟨_, _, _, _, _, _, _, _, _, l3, c3⟩ := lk_N (c.def_ 3 (d := ("is_key", none)) rfl rfl) (flB p0 10 rfl)
  have k3 : PySem.W.keepIn K (.ref (He.ga K "is_key")) = true := flB p0 11 rfl
  have a4 : PySem.W.nsIn K mainGlobals "is_value" = some (some (.ref (He.ga K "is_value"))) := flD p0 12 rfl
  obtain ⟨_, _, _, _, _, _, _, _, _, l4, c4⟩ := lk_N (c.def_ 4 (d := ("is_value", none)) rfl rfl) (flB p0 13 rfl)
  have k4 : PySem.W.keepIn K (.ref (He.ga K "is_value")) = true := flB p0 14 rfl
  have a5 : PySem.W.nsIn K mainGlobals "part_code" = some (some (.ref (He.ga K "part_code"))) := flD p0 15 rfl
  obtain ⟨_, _, _, _, _, _, _, _, _, l5, c5⟩ := lk_N (c.def_ 5 (d := ("part_code", none)) rfl rfl) (flB p0 16 rfl)
  have k5 : PySem.W.keepIn K (.ref (He.ga K "part_code")) = true := flB p0 17 rfl
  have a6 : PySem.W.nsIn K mainGlobals "coded" = some (some (.ref (He.ga K "coded"))) := flD p0 18 rfl
  obtain ⟨_, _, _, _, _, _, _, _, _, l6, c6⟩ := lk_N (c.def_ 6 (d := ("coded", none)) rfl rfl) (flB p0 19 rfl)
  have k6 : PySem.W.keepIn K (.ref (He.ga K "coded")) = true := flB p0 20 rfl
  have a7 : PySem.W.nsIn K mainGlobals "_law_cell" = some (some (.ref (He.ga K "_law_cell"))) := flD p0 21 rfl
  obtain ⟨_, _, _, _, _, _, _, _, _, l7, c7⟩ := lk_N (c.def_ 7 (d := ("_law_cell", none)) rfl rfl) (flB p0 22 rfl)
  have k7 : PySem.W.keepIn K (.ref (He.ga K "_law_cell")) = true := flB p0 23 rfl
  have a8 : PySem.W.nsIn K mainGlobals "_law_whole" = some (some (.ref (He.ga K "_law_whole"))) := flD p1 0 rfl
  obtain ⟨_, _, _, _, _, _, _, _, _, l8, c8⟩ := lk_N (c.def_ 8 (d := ("_law_whole", none)) rfl rfl) (flB p1 1 rfl)
  have k8 : PySem.W.keepIn K (.ref (He.ga K "_law_whole")) = true := flB p1 2 rfl
  have a9 : PySem.W.nsIn K mainGlobals "_law_word" = some (some (.ref (He.ga K "_law_word"))) := flD p1 3 rfl
  obtain ⟨_, _, _, _, _, _, _, _, _, l9, c9⟩ := lk_N (c.def_ 9 (d := ("_law_word", none)) rfl rfl) (flB p1 4 rfl)
  have k9 : PySem.W.keepIn K (.ref (He.ga K "_law_word")) = true := flB p1 5 rfl
  have a10 : PySem.W.nsIn K mainGlobals "_law_part" = some (some (.ref (He.ga K "_law_part"))) := flD p1 6 rfl
  obtain ⟨_, _, _, _, _, _, _, _, _, l10, c10⟩ := lk_N (c.def_ 10 (d := ("_law_part", none)) rfl rfl) (flB p1 7 rfl)
  have k10 : PySem.W.keepIn K (.ref (He.ga K "_law_part")) = true := flB p1 8 rfl
  have a11 : PySem.W.nsIn K mainGlobals "_law_key" = some (some (.ref (He.ga K "_law_key"))) := flD p1 9 rfl
  obtain ⟨_, _, _, _, _, _, _, _, _, l11, c11⟩ := lk_N (c.def_ 11 (d := ("_law_key", none)) rfl rfl) (flB p1 10 rfl)
  have k11 : PySem.W.keepIn K (.ref (He.ga K "_law_key")) = true := flB p1 11 rfl
  have a12 : PySem.W.nsIn K mainGlobals "_law_is_part" = some (some (.ref (He.ga K "_law_is_part"))) := flD p1 12 rfl
  obtain ⟨_, _, _, _, _, _, _, _, _, l12, c12⟩ := lk_N (c.def_ 12 (d := ("_law_is_part", none)) rfl rfl) (flB p1 13 rfl)
  have k12 : PySem.W.keepIn K (.ref (He.ga K "_law_is_part")) = true := flB p1 14 rfl
  have a13 : PySem.W.nsIn K mainGlobals "_law_is_key" = some (some (.ref (He.ga K "_law_is_key"))) := flD p1 15 rfl
  obtain ⟨_, _, _, _, _, _, _, _, _, l13, c13⟩ := lk_N (c.def_ 13 (d := ("_law_is_key", none)) rfl rfl) (flB p1 16 rfl)
  have k13 : PySem.W.keepIn K (.ref (He.ga K "_law_is_key")) = true := flB p1 17 rfl
  have a14 : PySem.W.nsIn K mainGlobals "_law_word_of" = some (some (.ref (He.ga K "_law_word_of"))) := flD p1 18 rfl
  obtain ⟨_, _, _, _, _, _, _, _, _, l14, c14⟩ := lk_N (c.def_ 14 (d := ("_law_word_of", none)) rfl rfl) (flB p1 19 rfl)
  have k14 : PySem.W.keepIn K (.ref (He.ga K "_law_word_of")) = true := flB p1 20 rfl
  have a15 : PySem.W.nsIn K mainGlobals "_law_odd" = some (some (.ref (He.ga K "_law_odd"))) := flD p1 21 rfl
  obtain ⟨_, _, _, _, _, _, _, _, _, l15, c15⟩ := lk_N (c.def_ 15 (d := ("_law_odd", none)) rfl rfl) (flB p1 22 rfl)
  have k15 : PySem.W.keepIn K (.ref (He.ga K "_law_odd")) = true := flB p1 23 rfl
  have a16 : PySem.W.nsIn K mainGlobals "_law_thing" = some (some (.ref (He.ga K "_law_thing"))) := flD p2 0 rfl
  obtain ⟨_, _, _, _, _, _, _, _, _, l16, c16⟩ := lk_N (c.def_ 16 (d := ("_law_thing", none)) rfl rfl) (flB p2 1 rfl)
  have k16 : PySem.W.keepIn K (.ref (He.ga K "_law_thing")) = true := flB p2 2 rfl
  have a17 : PySem.W.nsIn K mainGlobals "_law_number" = some (some (.ref (He.ga K "_law_number"))) := flD p2 3 rfl
  obtain ⟨_, _, _, _, _, _, _, _, _, l17, c17⟩ := lk_N (c.def_ 17 (d := ("_law_number", none)) rfl rfl) (flB p2 4 rfl)
  have k17 : PySem.W.keepIn K (.ref (He.ga K "_law_number")) = true := flB p2 5 rfl
  have a18 : PySem.W.nsIn K mainGlobals "_law_told" = some (some (.ref (He.ga K "_law_told"))) := flD p2 6 rfl
  obtain ⟨_, _, _, _, _, _, _, _, _, l18, c18⟩ := lk_N (c.def_ 18 (d := ("_law_told", none)) rfl rfl) (flB p2 7 rfl)
  have k18 : PySem.W.keepIn K (.ref (He.ga K "_law_told")) = true := flB p2 8 rfl
  have a19 : PySem.W.nsIn K mainGlobals "_law_right" = some (some (.ref (He.ga K "_law_right"))) := flD p2 9 rfl
  obtain ⟨_, _, _, _, _, _, _, _, _, l19, c19⟩ := lk_N (c.def_ 19 (d := ("_law_right", none)) rfl rfl) (flB p2 10 rfl)
  have k19 : PySem.W.keepIn K (.ref (He.ga K "_law_right")) = true := flB p2 11 rfl
  have a20 : PySem.W.nsIn K mainGlobals "law" = some (some (.ref (He.ga K "law"))) := flD p2 12 rfl
  obtain ⟨_, _, _, _, _, _, _, _, _, l20, c20⟩ := lk_N (c.def_ 20 (d := ("law", none)) rfl rfl) (flB p2 13 rfl)
  have k20 : PySem.W.keepIn K (.ref (He.ga K "law")) = true := flB p2 14 rfl
  have z0 : PySem.W.nsIn K mainGlobals "len" = some none := flD p2 15 rfl
  have z1 : PySem.W.nsIn K mainGlobals "sum" = some none := flD p2 16 rfl
  have z2 : PySem.W.nsIn K mainGlobals "sorted" = some none := flD p2 17 rfl
  have z3 : PySem.W.nsIn K mainGlobals "min" = some none := flD p2 18 rfl
  have z4 : PySem.W.nsIn K mainGlobals "max" = some none := flD p2 19 rfl
  have z5 : PySem.W.nsIn K mainGlobals "all" = some none := flD p2 20 rfl
  have z6 : PySem.W.nsIn K mainGlobals "any" = some none := flD p2 21 rfl
  have z7 : PySem.W.nsIn K mainGlobals "list" = some none := flD p2 22 rfl
  have z8 : PySem.W.nsIn K mainGlobals "tuple" = some none := flD p2 23 rfl
  have z9 : PySem.W.nsIn K mainGlobals "str" = some none := flD p3 0 rfl
  have z10 : PySem.W.nsIn K mainGlobals "int" = some none := flD p3 1 rfl
  have z11 : PySem.W.nsIn K mainGlobals "dict" = some none := flD p3 2 rfl
  have z12 : PySem.W.nsIn K mainGlobals "bool" = some none := flD p3 3 rfl
  have z13 : PySem.W.nsIn K mainGlobals "isinstance" = some none := flD p3 4 rfl
  have z14 : PySem.W.nsIn K mainGlobals "range" = some none := flD p3 5 rfl
  have z15 : PySem.W.nsIn K mainGlobals "zip" = some none := flD p3 6 rfl
  have z16 : PySem.W.nsIn K mainGlobals "enumerate" = some none := flD p3 7 rfl
  have z17 : PySem.W.nsIn K mainGlobals "reversed" = some none := flD p3 8 rfl
  have z18 : PySem.W.nsIn K mainGlobals "divmod" = some none := flD p3 9 rfl
  have ob0 : PySem.W.nsIn K mainGlobals "Pages" = some none := flD p3 10 rfl
  have ob1 : PySem.W.nsIn K mainGlobals "House" = some none := flD p3 11 rfl
  have ob2 : PySem.W.nsIn K mainGlobals "Cursor" = some none := flD p3 12 rfl
  have ob3 : PySem.W.nsIn K mainGlobals "Disk" = some none := flD p3 13 rfl
  have ob4 : PySem.W.nsIn K mainGlobals "Keeper" = some none := flD p3 14 rfl
  have ob5 : PySem.W.nsIn K mainGlobals "Look" = some none := flD p3 15 rfl
  have ob6 : PySem.W.nsIn K mainGlobals "Desk" = some none := flD p3 16 rfl
  obtain ⟨_, g0⟩ := inB_ok (flB p3 17 rfl)
  obtain ⟨_, g1⟩ := srB_ok (flB p3 18 rfl)
  obtain ⟨_, g2⟩ := inB_ok (flB p3 19 rfl)
  obtain ⟨_, g3⟩ := inB_ok (flB p3 20 rfl)
  obtain ⟨_, g4⟩ := inB_ok (flB p3 21 rfl)
  obtain ⟨_, g5⟩ := srB_ok (flB p3 22 rfl)
  have xn0 : PySem.W.nsIn K mainGlobals "LeafError" = some (some (.ref (He.ga K "LeafError"))) := flD p3 23 rfl
  have xs0 : PySem.W.subIn K (.ref (He.ga K "LeafError")) (.type "BaseException") = some true := flD p4 0 rfl
  have xo0 : PySem.W.kitOne K (.type "NoneType") (.ref (He.ga K "LeafError")) = some false := flD p4 1 rfl
  have xn1 : PySem.W.nsIn K mainGlobals "NoKey" = some (some (.ref (He.ga K "NoKey"))) := flD p4 2 rfl
  have xs1 : PySem.W.subIn K (.ref (He.ga K "NoKey")) (.type "BaseException") = some true := flD p4 3 rfl
  have xo1 : PySem.W.kitOne K (.type "NoneType") (.ref (He.ga K "NoKey")) = some false := flD p4 4 rfl
  have xn2 : PySem.W.nsIn K mainGlobals "NoValue" = some (some (.ref (He.ga K "NoValue"))) := flD p4 5 rfl
  have xs2 : PySem.W.subIn K (.ref (He.ga K "NoValue")) (.type "BaseException") = some true := flD p4 6 rfl
  have xo2 : PySem.W.kitOne K (.type "NoneType") (.ref (He.ga K "NoValue")) = some false := flD p4 7 rfl
  have xn3 : PySem.W.nsIn K mainGlobals "NoCode" = some (some (.ref (He.ga K "NoCode"))) := flD p4 8 rfl
  have xs3 : PySem.W.subIn K (.ref (He.ga K "NoCode")) (.type "BaseException") = some true := flD p4 9 rfl
  have xo3 : PySem.W.kitOne K (.type "NoneType") (.ref (He.ga K "NoCode")) = some false := flD p4 10 rfl
  have xn4 : PySem.W.nsIn K mainGlobals "NoRoom" = some (some (.ref (He.ga K "NoRoom"))) := flD p4 11 rfl
  have xs4 : PySem.W.subIn K (.ref (He.ga K "NoRoom")) (.type "BaseException") = some true := flD p4 12 rfl
  have xo4 : PySem.W.kitOne K (.type "NoneType") (.ref (He.ga K "NoRoom")) = some false := flD p4 13 rfl
  have xn5 : PySem.W.nsIn K mainGlobals "NoPage" = some (some (.ref (He.ga K "NoPage"))) := flD p4 14 rfl
  have xs5 : PySem.W.subIn K (.ref (He.ga K "NoPage")) (.type "BaseException") = some true := flD p4 15 rfl
  have xo5 : PySem.W.kitOne K (.type "NoneType") (.ref (He.ga K "NoPage")) = some false := flD p4 16 rfl
  have xn6 : PySem.W.nsIn K mainGlobals "NoPlace" = some (some (.ref (He.ga K "NoPlace"))) := flD p4 17 rfl
  have xs6 : PySem.W.subIn K (.ref (He.ga K "NoPlace")) (.type "BaseException") = some true := flD p4 18 rfl
  have xo6 : PySem.W.kitOne K (.type "NoneType") (.ref (He.ga K "NoPlace")) = some false := flD p4 19 rfl
  have xn7 : PySem.W.nsIn K mainGlobals "NoVersion" = some (some (.ref (He.ga K "NoVersion"))) := flD p4 20 rfl
  have xs7 : PySem.W.subIn K (.ref (He.ga K "NoVersion")) (.type "BaseException") = some true := flD p4 21 rfl
  have xo7 : PySem.W.kitOne K (.type "NoneType") (.ref (He.ga K "NoVersion")) = some false := flD p4 22 rfl
  have xn8 : PySem.W.nsIn K mainGlobals "NoMark" = some (some (.ref (He.ga K "NoMark"))) := flD p4 23 rfl
  have xs8 : PySem.W.subIn K (.ref (He.ga K "NoMark")) (.type "BaseException") = some true := flD p5 0 rfl
  have xo8 : PySem.W.kitOne K (.type "NoneType") (.ref (He.ga K "NoMark")) = some false := flD p5 1 rfl
  have xn9 : PySem.W.nsIn K mainGlobals "NoNode" = some (some (.ref (He.ga K "NoNode"))) := flD p5 2 rfl
  have xs9 : PySem.W.subIn K (.ref (He.ga K "NoNode")) (.type "BaseException") = some true := flD p5 3 rfl
  have xo9 : PySem.W.kitOne K (.type "NoneType") (.ref (He.ga K "NoNode")) = some false := flD p5 4 rfl
  have xn10 : PySem.W.nsIn K mainGlobals "NoRow" = some (some (.ref (He.ga K "NoRow"))) := flD p5 5 rfl
  have xs10 : PySem.W.subIn K (.ref (He.ga K "NoRow")) (.type "BaseException") = some true := flD p5 6 rfl
  have xo10 : PySem.W.kitOne K (.type "NoneType") (.ref (He.ga K "NoRow")) = some false := flD p5 7 rfl
  have xz11 : PySem.W.nsIn K mainGlobals "ValueError" = some none := flD p5 8 rfl
  have xs11 : PySem.W.subIn K (.type "ValueError") (.type "BaseException") = some true := flD p5 9 rfl
  have xo11 : PySem.W.kitOne K (.type "NoneType") (.type "ValueError") = some false := flD p5 10 rfl
  have xe0 : PySem.W.excIn K (He.ga K "LeafError") [.type "ValueError", .type "Exception", .type "BaseException", .type "object"] "ValueError.__new__" = true := flB p5 11 rfl
  have xk0 : PySem.W.keepIn K (.ref (He.ga K "LeafError")) = true := flB p5 12 rfl
  have xt0 : PySem.W.typeIn K (.ref (He.ga K "LeafError")) = some (.type "type") := flD p5 13 rfl
  have xe1 : PySem.W.excIn K (He.ga K "NoKey") [.type "ValueError", .type "Exception", .type "BaseException", .type "object"] "ValueError.__new__" = true := flB p5 14 rfl
  have xk1 : PySem.W.keepIn K (.ref (He.ga K "NoKey")) = true := flB p5 15 rfl
  have xt1 : PySem.W.typeIn K (.ref (He.ga K "NoKey")) = some (.type "type") := flD p5 16 rfl
  have xe2 : PySem.W.excIn K (He.ga K "NoValue") [.type "ValueError", .type "Exception", .type "BaseException", .type "object"] "ValueError.__new__" = true := flB p5 17 rfl
  have xk2 : PySem.W.keepIn K (.ref (He.ga K "NoValue")) = true := flB p5 18 rfl
  have xt2 : PySem.W.typeIn K (.ref (He.ga K "NoValue")) = some (.type "type") := flD p5 19 rfl
  have xe3 : PySem.W.excIn K (He.ga K "NoCode") [.type "ValueError", .type "Exception", .type "BaseException", .type "object"] "ValueError.__new__" = true := flB p5 20 rfl
  have xk3 : PySem.W.keepIn K (.ref (He.ga K "NoCode")) = true := flB p5 21 rfl
  have xt3 : PySem.W.typeIn K (.ref (He.ga K "NoCode")) = some (.type "type") := flD p5 22 rfl
  have xe4 : PySem.W.excIn K (He.ga K "NoRoom") [.type "ValueError", .type "Exception", .type "BaseException", .type "object"] "ValueError.__new__" = true := flB p5 23 rfl
  have xk4 : PySem.W.keepIn K (.ref (He.ga K "NoRoom")) = true := flB p6 0 rfl
  have xt4 : PySem.W.typeIn K (.ref (He.ga K "NoRoom")) = some (.type "type") := flD p6 1 rfl
  have xe5 : PySem.W.excIn K (He.ga K "NoPage") [.type "ValueError", .type "Exception", .type "BaseException", .type "object"] "ValueError.__new__" = true := flB p6 2 rfl
  have xk5 : PySem.W.keepIn K (.ref (He.ga K "NoPage")) = true := flB p6 3 rfl
  have xt5 : PySem.W.typeIn K (.ref (He.ga K "NoPage")) = some (.type "type") := flD p6 4 rfl
  have xe6 : PySem.W.excIn K (He.ga K "NoPlace") [.type "ValueError", .type "Exception", .type "BaseException", .type "object"] "ValueError.__new__" = true := flB p6 5 rfl
  have xk6 : PySem.W.keepIn K (.ref (He.ga K "NoPlace")) = true := flB p6 6 rfl
  have xt6 : PySem.W.typeIn K (.ref (He.ga K "NoPlace")) = some (.type "type") := flD p6 7 rfl
  have xe7 : PySem.W.excIn K (He.ga K "NoVersion") [.type "ValueError", .type "Exception", .type "BaseException", .type "object"] "ValueError.__new__" = true := flB p6 8 rfl
  have xk7 : PySem.W.keepIn K (.ref (He.ga K "NoVersion")) = true := flB p6 9 rfl
  have xt7 : PySem.W.typeIn K (.ref (He.ga K "NoVersion")) = some (.type "type") := flD p6 10 rfl
  have xe8 : PySem.W.excIn K (He.ga K "NoMark") [.type "ValueError", .type "Exception", .type "BaseException", .type "object"] "ValueError.__new__" = true := flB p6 11 rfl
  have xk8 : PySem.W.keepIn K (.ref (He.ga K "NoMark")) = true := flB p6 12 rfl
  have xt8 : PySem.W.typeIn K (.ref (He.ga K "NoMark")) = some (.type "type") := flD p6 13 rfl
  have xe9 : PySem.W.excIn K (He.ga K "NoNode") [.type "ValueError", .type "Exception", .type "BaseException", .type "object"] "ValueError.__new__" = true := flB p6 14 rfl
  have xk9 : PySem.W.keepIn K (.ref (He.ga K "NoNode")) = true := flB p6 15 rfl
  have xt9 : PySem.W.typeIn K (.ref (He.ga K "NoNode")) = some (.type "type") := flD p6 16 rfl
  have xe10 : PySem.W.excIn K (He.ga K "NoRow") [.type "ValueError", .type "Exception", .type "BaseException", .type "object"] "ValueError.__new__" = true := flB p6 17 rfl
  have xk10 : PySem.W.keepIn K (.ref (He.ga K "NoRow")) = true := flB p6 18 rfl
  have xt10 : PySem.W.typeIn K (.ref (He.ga K "NoRow")) = some (.type "type") := flD p6 19 rfl
  have xsp : PySem.W.specialIn K (.builtin "object.__class__") "__get__" = some (some (.builtin "getset_descriptor.__get__")) := flD p6 20 rfl
  have xtk : PySem.W.takesIn K (.builtin "object.__class__") = some true := flD p6 21 rfl
  have xg1 : PySem.W.findIn K (.ref (He.ga K "NoKey")) "__getattribute__" = some (some (.builtin "BaseException.__getattribute__")) := flD p6 22 rfl
  have xh1 : PySem.W.findIn K (.ref (He.ga K "NoKey")) "__getattr__" = some none := flD p6 23 rfl
  have xd1 : PySem.W.hasDictIn K (He.ga K "NoKey") = true := flB p7 0 rfl
  have xc1 : PySem.W.findIn K (.ref (He.ga K "NoKey")) "__class__" = some (some (.builtin "object.__class__")) := flD p7 1 rfl
  have xm1 : PySem.W.mroIn K (He.ga K "NoKey") (.type "object") = some true := flD p7 2 rfl
  have xi1 : PySem.W.isClsIn K (He.ga K "NoKey") = true := flB p7 3 rfl
  have xl1 : PySem.W.subIn K (.ref (He.ga K "NoKey")) (.ref (He.ga K "NoKey")) = some true := flD p7 4 rfl
  have xp1_0 : PySem.W.kitOne K (.ref (He.ga K "NoKey")) (.ref (He.ga K "LeafError")) = some true := flD p7 5 rfl
  have xp1_1 : PySem.W.kitOne K (.ref (He.ga K "NoKey")) (.ref (He.ga K "NoKey")) = some true := flD p7 6 rfl
  have xp1_2 : PySem.W.kitOne K (.ref (He.ga K "NoKey")) (.ref (He.ga K "NoValue")) = some false := flD p7 7 rfl
  have xp1_3 : PySem.W.kitOne K (.ref (He.ga K "NoKey")) (.ref (He.ga K "NoCode")) = some false := flD p7 8 rfl
  have xp1_4 : PySem.W.kitOne K (.ref (He.ga K "NoKey")) (.ref (He.ga K "NoRoom")) = some false := flD p7 9 rfl
  have xp1_5 : PySem.W.kitOne K (.ref (He.ga K "NoKey")) (.ref (He.ga K "NoPage")) = some false := flD p7 10 rfl
  have xp1_6 : PySem.W.kitOne K (.ref (He.ga K "NoKey")) (.ref (He.ga K "NoPlace")) = some false := flD p7 11 rfl
  have xp1_7 : PySem.W.kitOne K (.ref (He.ga K "NoKey")) (.ref (He.ga K "NoVersion")) = some false := flD p7 12 rfl
  have xp1_8 : PySem.W.kitOne K (.ref (He.ga K "NoKey")) (.ref (He.ga K "NoMark")) = some false := flD p7 13 rfl
  have xp1_9 : PySem.W.kitOne K (.ref (He.ga K "NoKey")) (.ref (He.ga K "NoNode")) = some false := flD p7 14 rfl
  have xp1_10 : PySem.W.kitOne K (.ref (He.ga K "NoKey")) (.ref (He.ga K "NoRow")) = some false := flD p7 15 rfl
  have xp1_11 : PySem.W.kitOne K (.ref (He.ga K "NoKey")) (.type "ValueError") = some true := flD p7 16 rfl
  exact head_mk main X G hfa a0 l0 c0 k0 a1 l1 c1 k1 a2 l2 c2 k2 a3 l3 c3 k3 a4 l4 c4 k4 a5 l5 c5 k5 a6 l6 c6 k6 a7 l7 c7 k7 a8 l8 c8 k8 a9 l9 c9 k9 a10 l10 c10 k10 a11 l11 c11 k11 a12 l12 c12 k12 a13 l13 c13 k13 a14 l14 c14 k14 a15 l15 c15 k15 a16 l16 c16 k16 a17 l17 c17 k17 a18 l18 c18 k18 a19 l19 c19 k19 a20 l20 c20 k20 z0 z1 z2 z3 z4 z5 z6 z7 z8 z9 z10 z11 z12 z13 z14 z15 z16 z17 z18 ob0 ob1 ob2 ob3 ob4 ob5 ob6 g0 g1 g2 g3 g4 g5 xn0 xs0 xo0 xn1 xs1 xo1 xn2 xs2 xo2 xn3 xs3 xo3 xn4 xs4 xo4 xn5 xs5 xo5 xn6 xs6 xo6 xn7 xs7 xo7 xn8 xs8 xo8 xn9 xs9 xo9 xn10 xs10 xo10 xz11 xs11 xo11 xe0 xk0 xt0 xe1 xk1 xt1 xe2 xk2 xt2 xe3 xk3 xt3 xe4 xk4 xt4 xe5 xk5 xt5 xe6 xk6 xt6 xe7 xk7 xt7 xe8 xk8 xt8 xe9 xk9 xt9 xe10 xk10 xt10 xsp xtk xg1 xh1 xd1 xc1 xm1 xi1 xl1 xp1_0 xp1_1 xp1_2 xp1_3 xp1_4 xp1_5 xp1_6 xp1_7 xp1_8 xp1_9 xp1_10 xp1_11
end
set_option maxRecDepth 100000
set_option maxHeartbeats 1000000
set_option autoImplicit false
section
open PySem L2
theorem main : ∀ ns : List Int, ns.length ≤ 63 → ∃ m, callF M sb FU 20 [.lst (ns.map D.int)] [] = .ok (.bl true) m := fun ns hl => ⟨[], main11 0 [] hl⟩
end
end MP
open PySem PySem.W PySem.Calls PyProof.Rows in
set_option maxRecDepth 100000 in
set_option maxHeartbeats 0 in
theorem PySem.Challenge.cw_heldleaves_k11_keys_told_holds : PySem.Challenge.rw_heldleaves_k11_keys_told.Holds := by
  w_on; o_law
  refine HandSHeadRun.head_any (r := OpenLaw.row PySem.Challenge.rw_heldleaves_k11_keys_told) (q := MP.qv) (H := MP.hk) (ob := MP.ob) (M := 20000) (loose := MP.loose) (d := HandSHeadRun.topDef (OpenLaw.row PySem.Challenge.rw_heldleaves_k11_keys_told).prog 40) (kwd := []) MP.ob_eq
    (by kernel_rfl) (fun s => by kernel_rfl) MP.run (by kernel_rfl) (by kernel_rfl) (by kernel_rfl) (by rfl) (by first | assumption | decide +kernel) (by decide +kernel) ⟨rfl, rfl, rfl, rfl, rfl, by decide +kernel⟩ ?hw ?hc
  case hw => w_witness2
  case hc =>
    refine MP.walk_scrH (l := PySem.Challenge.rw_heldleaves_k11_keys_told) (SK := MP.SaysH MP.exH MP.fnH MP.vsH) (k := 2 * MP.FU) (x := "_law_script") (by decide) rfl (by kernel_rfl) (fun w h Y => Y) ?F
    intro w mg fa h K X c G hmg0
    have hmg : mg ("law" : PySem.Str) = some (.ref fa) := by
      have e : (HandSHeadRun.topDef (OpenLaw.row PySem.Challenge.rw_heldleaves_k11_keys_told).prog 40).name = ("law" : PySem.Str) := by kernel_rfl
      rw [← e]
      exact hmg0
    exact MP.head_ok MP.main X c G hmg
