import PyProof.Rows.All
import Wide.All
import OpenK.AllK
import Wide.FinOn
import PySem.Challenge.RW_nt0544_01
open PySem PySem.W PyProof.Rows PySem.Spec PySem.Calls
set_option Elab.async false
set_option maxRecDepth 100000
set_option maxHeartbeats 8000000
set_option rowWalk.seconds 0
namespace Mcu
def view : Program := { Challenge.pw_nt0544_01 with main := { Challenge.pw_nt0544_01.main with body := Challenge.pw_nt0544_01.main.body.filter fun s => match s with | .Assign .. => false | _ => true } }
theorem pass {r : OpenRow} (hw : r.toRowW.promised) (hc : r.toRowW.promised → r.Holds) : r.Holds := hc hw
theorem and_t {a b : Bool} (x : a = true) (y : b = true) : (a && b) = true := by rw [x, y]; rfl
theorem pr_t {α β : Type} {a c : α} {b d : β} (x : a = c) (y : b = d) : (a, b) = (c, d) := by rw [x, y]
theorem looks_a : sreFenced Challenge.pw_nt0544_01.main = true := by kernel_rfl
theorem looks_b : namesResolve Challenge.pw_nt0544_01 = true := by kernel_rfl
theorem looks_c : noRoadLSs { strict := !(importedModules Challenge.pw_nt0544_01.main.body).all cThrough.contains, foot := none, bare := (["vars", "dir", "locals"] : List Str).filter (readsOut Challenge.pw_nt0544_01 Challenge.pw_nt0544_01.main.body) } Challenge.pw_nt0544_01.main.body = true := by kernel_rfl
theorem looks_open : looksOpen Challenge.pw_nt0544_01 = true := by
  unfold looksOpen
  rw [looks_a, looks_b, looks_c]
  kernel_rfl
theorem l_part : (OpenLaw.row Challenge.rw_nt0544_01).partSaid = true := by
  unfold OpenRow.partSaid
  rw [show looksOpen (OpenLaw.row Challenge.rw_nt0544_01).prog = true from looks_open]
  kernel_rfl
theorem l_law : Challenge.rw_nt0544_01.wellSaid = true := by
  unfold OpenLaw.wellSaid OpenRow.wellSaid
  rw [l_part]
  kernel_rfl
local macro_rules
  | `(tactic| o_law) => `(tactic| refine holds_law l_law fun said => ?_)
local macro_rules
  | `(tactic| o_head $_) => `(tactic| refine pass ?hw ?hc)
open_top hd for PySem.Challenge.rw_nt0544_01

def blank : Obj := Obj.mk Value.none none (Data.fields (Array.mk [])) (Array.mk [])
def bare (k : Frag) (a : Addr) : Obj := match k.lookup a with
  | some ⟨_, _, .func f, _⟩ => ⟨.none, none, .func { f with globals := 0, pyModule := .none, code := .none }, Array.mk []⟩
  | _ => blank
noncomputable def restObjs (k : Frag) (P : Params) : List Obj := [
  boot_o_0 P,
  boot_o_1 P,
  boot_o_4 P,
  boot_o_5 P,
  boot_o_6 P,
  boot_o_7 P,
  boot_o_8 P,
  boot_o_9 P,
  boot_o_10 P,
  Obj.mk (Value.type "tuple") none (Data.seq #[]) #[],
  Obj.mk Value.none none
  (Data.fields
    #[Value.int 1 0, Value.int 0 0, Value.ref 20, Value.int 5 0, Value.int 0 0, Value.ref 27, Value.int 9 0,
      Value.int 0 0, Value.ref 34, Value.int 14 0, Value.int 0 0, Value.ref 41, Value.int 25 0, Value.int 0 0,
      Value.ref 48, Value.int 29 0, Value.int 0 0, Value.ref 55, Value.int 33 0, Value.int 0 0, Value.ref 62,
      Value.int 35 0, Value.int 0 0, Value.ref 69, Value.int 42 0, Value.int 0 0, Value.ref 90, Value.int 77 0,
      Value.int 0 0, Value.ref 156, Value.int 94 0, Value.int 0 0, Value.ref 191, Value.int 101 0, Value.int 0 0,
      Value.ref 198, Value.int 108 0, Value.int 0 0, Value.ref 205, Value.int 110 0, Value.int 0 0, Value.ref 210,
      Value.int 115 0, Value.int 0 0, Value.ref 217, Value.int 125 0, Value.int 0 0, Value.ref 222, Value.int 133 0,
      Value.int 0 0, Value.ref 229, Value.int 141 0, Value.int 0 0, Value.ref 234, Value.int 157 0, Value.int 0 0,
      Value.ref 239])
  #[],
  Obj.mk (Value.type "code") none
  (Data.fields
    #[Value.str (Str.ofString "<module>") 182, Value.str (Str.ofString "<module>") 183,
      Value.str (Str.ofString "/claim/cut.py") 184, Value.int 1 0, Value.int 0 0, Value.int 0 0, Value.int 0 0,
      Value.int 0 0, Value.ref 11, Value.bool false, Value.int 181 0, Value.ref 12, Value.none, Value.none, Value.none,
      Value.none, Value.int 185 0, Value.int 1 0, Value.str (Str.ofString "/claim/cut.py") 186])
  #[],
  Obj.mk (Value.type "frame") none Data.plain
  #[some (Value.ref 13), some (Value.ref 3), some (Value.ref 3), none, some (Value.str (Str.ofString "__main__") 164),
    none, some (Value.ref 0)],
  blank,
  bare k 21,
  blank,
  bare k 28,
  blank,
  bare k 35,
  blank,
  bare k 42,
  blank,
  bare k 49,
  blank,
  bare k 56,
  blank,
  bare k 63,
  Obj.mk (Value.type "tuple") none (Data.seq #[]) #[],
  Obj.mk (Value.type "builtin_function_or_method") none
  (Data.fields #[Value.builtin "type.__prepare__", Value.type "type"]) #[],
  Obj.mk (Value.type "dict") none
  (Data.dict
    #[DictEntry.mk (PyData.keyHash P (Str.ofString "__module__")) (Value.str (Str.ofString "__module__") 267)
        (Value.str (Str.ofString "pixelpress.frames") 250),
      DictEntry.mk (PyData.keyHash P (Str.ofString "__qualname__")) (Value.str (Str.ofString "__qualname__") 269)
        (Value.str (Str.ofString "Component") 268),
      DictEntry.mk (PyData.keyHash P (Str.ofString "__firstlineno__")) (Value.str (Str.ofString "__firstlineno__") 271)
        (Value.int 35 270),
      DictEntry.mk (PyData.keyHash P (Str.ofString "__init__")) (Value.str (Str.ofString "__init__") 282)
        (Value.ref 77),
      DictEntry.mk (PyData.keyHash P (Str.ofString "__static_attributes__"))
        (Value.str (Str.ofString "__static_attributes__") 287) (Value.ref 78)]
    5)
  #[],
  Obj.mk (Value.type "tuple") none (Data.seq #[]) #[],
  Obj.mk Value.none none (Data.fields #[Value.int 37 0, Value.int 4 0, Value.ref 76]) #[],
  Obj.mk (Value.type "code") none
  (Data.fields
    #[Value.str (Str.ofString "Component") 262, Value.str (Str.ofString "Component") 263,
      Value.str (Str.ofString "/claim/cut.py") 264, Value.int 35 0, Value.int 0 0, Value.int 0 0, Value.int 0 0,
      Value.int 0 0, Value.ref 67, Value.bool false, Value.int 181 0, Value.ref 68, Value.none, Value.none, Value.none,
      Value.none, Value.int 265 0, Value.int 35 0, Value.str (Str.ofString "/claim/cut.py") 266])
  #[],
  Obj.mk (Value.type "frame") none Data.plain
  #[some (Value.ref 69), some (Value.ref 3), some (Value.ref 66), none,
    some (Value.str (Str.ofString "pixelpress.frames") 250), none, some (Value.ref 0)],
  blank,
  bare k 77,
  Obj.mk (Value.type "super") none (Data.fields #[Value.ref 80, Value.ref 80, Value.ref 80]) #[],
  Obj.mk (Value.type "builtin_function_or_method") none
  (Data.fields #[Value.builtin "object.__init_subclass__", Value.ref 80]) #[],
  Obj.mk (Value.type "tuple") none (Data.seq #[]) #[],
  Obj.mk (Value.type "builtin_function_or_method") none
  (Data.fields #[Value.builtin "type.__prepare__", Value.type "type"]) #[],
  Obj.mk (Value.type "dict") none
  (Data.dict
    #[DictEntry.mk (PyData.keyHash P (Str.ofString "__module__")) (Value.str (Str.ofString "__module__") 302)
        (Value.str (Str.ofString "pixelpress.frames") 250),
      DictEntry.mk (PyData.keyHash P (Str.ofString "__qualname__")) (Value.str (Str.ofString "__qualname__") 304)
        (Value.str (Str.ofString "Frame") 303),
      DictEntry.mk (PyData.keyHash P (Str.ofString "__firstlineno__")) (Value.str (Str.ofString "__firstlineno__") 306)
        (Value.int 42 305),
      DictEntry.mk (PyData.keyHash P (Str.ofString "__init__")) (Value.str (Str.ofString "__init__") 319)
        (Value.ref 98),
      DictEntry.mk (PyData.keyHash P (Str.ofString "most_across")) (Value.str (Str.ofString "most_across") 325)
        (Value.ref 103),
      DictEntry.mk (PyData.keyHash P (Str.ofString "most_down")) (Value.str (Str.ofString "most_down") 331)
        (Value.ref 108),
      DictEntry.mk (PyData.keyHash P (Str.ofString "mcus_across")) (Value.str (Str.ofString "mcus_across") 338)
        (Value.ref 115),
      DictEntry.mk (PyData.keyHash P (Str.ofString "mcus_down")) (Value.str (Str.ofString "mcus_down") 345)
        (Value.ref 122),
      DictEntry.mk (PyData.keyHash P (Str.ofString "plane_size")) (Value.str (Str.ofString "plane_size") 355)
        (Value.ref 129),
      DictEntry.mk (PyData.keyHash P (Str.ofString "blocks")) (Value.str (Str.ofString "blocks") 365) (Value.ref 136),
      DictEntry.mk (PyData.keyHash P (Str.ofString "padded")) (Value.str (Str.ofString "padded") 374) (Value.ref 143),
      DictEntry.mk (PyData.keyHash P (Str.ofString "__static_attributes__"))
        (Value.str (Str.ofString "__static_attributes__") 381) (Value.ref 144)]
    12)
  #[],
  Obj.mk (Value.type "tuple") none (Data.seq #[]) #[],
  Obj.mk Value.none none
  (Data.fields
    #[Value.int 44 0, Value.int 4 0, Value.ref 97, Value.int 52 0, Value.int 4 0, Value.ref 102, Value.int 55 0,
      Value.int 4 0, Value.ref 107, Value.int 58 0, Value.int 4 0, Value.ref 114, Value.int 61 0, Value.int 4 0,
      Value.ref 121, Value.int 64 0, Value.int 4 0, Value.ref 128, Value.int 69 0, Value.int 4 0, Value.ref 135,
      Value.int 73 0, Value.int 4 0, Value.ref 142])
  #[],
  Obj.mk (Value.type "code") none
  (Data.fields
    #[Value.str (Str.ofString "Frame") 297, Value.str (Str.ofString "Frame") 298,
      Value.str (Str.ofString "/claim/cut.py") 299, Value.int 42 0, Value.int 0 0, Value.int 0 0, Value.int 0 0,
      Value.int 0 0, Value.ref 88, Value.bool false, Value.int 181 0, Value.ref 89, Value.none, Value.none, Value.none,
      Value.none, Value.int 300 0, Value.int 42 0, Value.str (Str.ofString "/claim/cut.py") 301])
  #[],
  Obj.mk (Value.type "frame") none Data.plain
  #[some (Value.ref 90), some (Value.ref 3), some (Value.ref 87), none,
    some (Value.str (Str.ofString "pixelpress.frames") 250), none, some (Value.ref 0)],
  blank,
  bare k 98,
  blank,
  bare k 103,
  blank,
  bare k 108,
  blank,
  bare k 115,
  blank,
  bare k 122,
  blank,
  bare k 129,
  blank,
  bare k 136,
  blank,
  bare k 143,
  Obj.mk (Value.type "super") none (Data.fields #[Value.ref 146, Value.ref 146, Value.ref 146]) #[],
  Obj.mk (Value.type "builtin_function_or_method") none
  (Data.fields #[Value.builtin "object.__init_subclass__", Value.ref 146]) #[],
  Obj.mk (Value.type "tuple") none (Data.seq #[]) #[],
  Obj.mk (Value.type "builtin_function_or_method") none
  (Data.fields #[Value.builtin "type.__prepare__", Value.type "type"]) #[],
  Obj.mk (Value.type "dict") none
  (Data.dict
    #[DictEntry.mk (PyData.keyHash P (Str.ofString "__module__")) (Value.str (Str.ofString "__module__") 398)
        (Value.str (Str.ofString "pixelpress.scans") 389),
      DictEntry.mk (PyData.keyHash P (Str.ofString "__qualname__")) (Value.str (Str.ofString "__qualname__") 400)
        (Value.str (Str.ofString "Scan") 399),
      DictEntry.mk (PyData.keyHash P (Str.ofString "__firstlineno__")) (Value.str (Str.ofString "__firstlineno__") 402)
        (Value.int 77 401),
      DictEntry.mk (PyData.keyHash P (Str.ofString "__init__")) (Value.str (Str.ofString "__init__") 416)
        (Value.ref 164),
      DictEntry.mk (PyData.keyHash P (Str.ofString "is_alone")) (Value.str (Str.ofString "is_alone") 423)
        (Value.ref 171),
      DictEntry.mk (PyData.keyHash P (Str.ofString "is_finer")) (Value.str (Str.ofString "is_finer") 430)
        (Value.ref 178),
      DictEntry.mk (PyData.keyHash P (Str.ofString "__static_attributes__"))
        (Value.str (Str.ofString "__static_attributes__") 438) (Value.ref 179)]
    7)
  #[],
  Obj.mk (Value.type "tuple") none (Data.seq #[]) #[],
  Obj.mk Value.none none
  (Data.fields
    #[Value.int 79 0, Value.int 4 0, Value.ref 163, Value.int 88 0, Value.int 4 0, Value.ref 170, Value.int 91 0,
      Value.int 4 0, Value.ref 177])
  #[],
  Obj.mk (Value.type "code") none
  (Data.fields
    #[Value.str (Str.ofString "Scan") 393, Value.str (Str.ofString "Scan") 394,
      Value.str (Str.ofString "/claim/cut.py") 395, Value.int 77 0, Value.int 0 0, Value.int 0 0, Value.int 0 0,
      Value.int 0 0, Value.ref 154, Value.bool false, Value.int 181 0, Value.ref 155, Value.none, Value.none,
      Value.none, Value.none, Value.int 396 0, Value.int 77 0, Value.str (Str.ofString "/claim/cut.py") 397])
  #[],
  Obj.mk (Value.type "frame") none Data.plain
  #[some (Value.ref 156), some (Value.ref 3), some (Value.ref 153), none,
    some (Value.str (Str.ofString "pixelpress.scans") 389), none, some (Value.ref 0)],
  blank,
  bare k 164,
  blank,
  bare k 171,
  blank,
  bare k 178,
  Obj.mk (Value.type "super") none (Data.fields #[Value.ref 181, Value.ref 181, Value.ref 181]) #[],
  Obj.mk (Value.type "builtin_function_or_method") none
  (Data.fields #[Value.builtin "object.__init_subclass__", Value.ref 181]) #[],
  blank,
  bare k 192,
  blank,
  bare k 199,
  blank,
  bare k 206,
  blank,
  bare k 211,
  blank,
  bare k 218,
  blank,
  bare k 223,
  blank,
  bare k 230,
  blank,
  bare k 235,
  blank,
  bare k 240]
noncomputable def lay : Nat → Addr → Frag → List Obj → List Obj
  | 0, _, _, _ => []
  | n + 1, a, k, r => match k with
    | [] => (match r with | [] => [] | x :: r' => x :: lay n (a + 1) [] r')
    | (b, o) :: k' => match Nat.beq b a with
      | true => o :: lay n (a + 1) k' r
      | false => (match r with | [] => [] | x :: r' => x :: lay n (a + 1) k r')
noncomputable def endHeap (P : Params) : Heap := ⟨Array.mk (lay 241 0 (hd.heap_1 P) (restObjs (hd.heap_1 P) P)), {}⟩
noncomputable def endAt (w : World) (os : OsState) : Shared := ⟨endHeap w.params, Array.mk [], {}, 525, os⟩
theorem run_end (w : World) (os : OsState) : topRun treeTable Challenge.pw_nt0544_01 w 11 (some (Value.ref 6)) 3128 ⟨boot_heap w.params, Array.mk [], boot_drawn, boot_toks, os⟩ (topStub Challenge.pw_nt0544_01) = some (endAt w os) := by
  simp only [PySem.W.Fast.te14364793385576792824, PySem.W.Fast.te14082659384304107361]; kernel_rfl
def nsL (h : Heap) (a : Addr) : Bool := match h.objs.toList[a]? with
  | some o => (match o.data with | .dict es _ => es.toList.all (fun e => match e.key with | .str _ _ => true | _ => false) | _ => false)
  | none => false
theorem isNs_of {h : Heap} {a : Addr} (x : nsL h a = true) : h.isNs a = true := by
  unfold nsL at x
  unfold Heap.isNs Heap.get?
  rw [Array.getElem?_toList] at x
  revert x
  cases h.objs[a]? with
  | none => exact fun x => x
  | some o =>
    obtain ⟨c, d, dt, s⟩ := o
    cases dt <;> intro x <;> first | cases x | skip
    dsimp only at x ⊢
    rw [← Array.all_toList]
    exact x
theorem ns0_main (w : World) : (boot_heap w.params).isNs mainGlobals = true := isNs_of (by kernel_rfl)
theorem ns0_stat (w : World) : (boot_heap w.params).isNs cStatics = true := isNs_of (by kernel_rfl)
theorem ns_main (w : World) : (endHeap w.params).isNs mainGlobals = true := isNs_of (by kernel_rfl)
theorem ns_blt (w : World) : (endHeap w.params).isNs builtinsNs = true := isNs_of (by kernel_rfl)
theorem ns_stat (w : World) : (endHeap w.params).isNs cStatics = true := isNs_of (by kernel_rfl)
theorem l_size (w : World) : ((boot_heap w.params).isNs mainGlobals && (Array.mk [] : Array GenState).size == 0, (boot_heap w.params).objs.size, (boot_heap w.params).nsMap mainGlobals "__annotations__") = (true, 11, some (Value.ref 6)) := by
  rw [ns0_main]; kernel_rfl
theorem l_stat (w : World) : staticsOk (importedModules Challenge.pw_nt0544_01.main.body) (boot_heap w.params) (endHeap w.params) = true := by
  unfold staticsOk; rw [ns0_stat, ns_stat]; kernel_rfl
theorem l_names (w : World) : namesBound Challenge.pw_nt0544_01 (endHeap w.params) = true := by
  unfold namesBound; rw [ns_main]; kernel_rfl
theorem l_laid (w : World) : laidKept (boot_heap w.params) (endHeap w.params) = true := by
  unfold laidKept; rw [ns_main, ns0_main]; kernel_rfl
theorem l_seen (w : World) (os : OsState) : seen ((recsOf view).map (·.name)) (ownsOf view) [] { endAt w os with gens := #[] } = expectedOf view := by kernel_rfl
theorem l_blt (w : World) (os : OsState) : (endAt w os).heap.bltView = bltViewBooted := by kernel_rfl
theorem l_keysOk (w : World) (os : OsState) : (endAt w os).heap.keysOk (looseW view []) ((recsOf view).map (·.name)) ((litsOf view).map (·.1)) ((clssOf view (looseW view [])).map (·.name)) = true := by kernel_rfl
theorem l_acc (w : World) (os : OsState) : (endAt w os).heap.accountedOkI (importedModules Challenge.pw_nt0544_01.main.body) = true := by kernel_rfl
theorem l_tables (w : World) (os : OsState) : tablesOk view (endAt w os).heap = true := by kernel_rfl
theorem l_xl (w : World) (os : OsState) : (xlAt view [] (endAt w os) && recOk (RowW.records (OpenRow.toRowW (OpenLaw.row Challenge.rw_nt0544_01))) (endAt w os)) = true := by kernel_rfl
theorem l_tabs (w : World) (os : OsState) : tabsOk view (endAt w os) = true := by kernel_rfl
theorem l_pin (w : World) (os : OsState) : pinSeenD view (drecsOf view) (endAt w os) = pinGoodD (drecsOf view) := by kernel_rfl
theorem l_pe (w : World) (os : OsState) : plainSeenE view (looseW view []) (endAt w os) = plainGoodE view (looseW view []) := by kernel_rfl
theorem l_pd (w : World) (os : OsState) : plainSeenD view [] (endAt w os) = plainGoodD view [] := by kernel_rfl
theorem l_wide (w : World) (os : OsState) : wideSeen view (endAt w os) = wideGood view := by kernel_rfl
theorem l_cls (w : World) (os : OsState) : clsSeenW view [] (endAt w os) = clsGoodW view [] := by kernel_rfl
theorem l_all (w : World) (os : OsState) : openSeen view [] (importedModules Challenge.pw_nt0544_01.main.body) (fun s => xlAt view [] s && recOk (RowW.records (OpenRow.toRowW (OpenLaw.row Challenge.rw_nt0544_01))) s) true (endAt w os) = openGood view [] := by
  unfold openSeen openGood
  exact pr_t (l_seen w os) (pr_t (l_blt w os) (pr_t (and_t (and_t (and_t (and_t (and_t (and_t (l_keysOk w os) (l_acc w os)) (ns_main w)) (ns_blt w)) (l_tables w os)) (l_xl w os)) (by kernel_rfl)) (pr_t (l_tabs w os) (pr_t (l_pin w os) (pr_t (l_pe w os) (pr_t (l_pd w os) (pr_t (l_wide w os) (l_cls w os))))))))
def addrs : List Addr := [2, 3, 15, 17, 18, 20, 21, 22, 24, 25, 27, 28, 29, 31, 32, 34, 35, 36, 38, 39, 41, 42, 43, 45, 46, 48, 49, 50, 52, 53, 55, 56, 57, 59, 60, 62, 63, 71, 73, 74, 76, 77, 78, 79, 80, 81, 82, 92, 94, 95, 97, 98, 99, 102, 103, 104, 107, 108, 109, 111, 112, 114, 115, 116, 118, 119, 121, 122, 123, 125, 126, 128, 129, 130, 132, 133, 135, 136, 137, 139, 140, 142, 143, 144, 145, 146, 147, 148, 158, 160, 161, 163, 164, 165, 167, 168, 170, 171, 172, 174, 175, 177, 178, 179, 180, 181, 182, 183, 186, 188, 189, 191, 192, 193, 195, 196, 198, 199, 200, 202, 203, 205, 206, 207, 210, 211, 212, 214, 215, 217, 218, 219, 222, 223, 224, 226, 227, 229, 230, 231, 234, 235, 236, 239, 240]
theorem addrs_eq (P : Params) : addrs = (hd.heap_1 P).map (·.1) := by kernel_rfl
theorem l_hook (w : World) (os : OsState) : (kHook hd.heap_1 addrs addrs_eq).obs (endAt w os) = (kHook hd.heap_1 addrs addrs_eq).val w := by kernel_rfl
theorem left : LeftO Challenge.pw_nt0544_01 view [] (fun s => xlAt view [] s && recOk (RowW.records (OpenRow.toRowW (OpenLaw.row Challenge.rw_nt0544_01))) s) (kHook hd.heap_1 addrs addrs_eq).obs (kHook hd.heap_1 addrs addrs_eq).val 3128 :=
  LeftO.of_pieces (H₀ := boot_heap) (H₁ := endHeap) (gs₀ := Array.mk []) (gs₁ := Array.mk []) (d₀ := boot_drawn) (d₁ := {}) (k₀ := boot_toks) (k₁ := 525) (m₀ := 11) (ann := some (Value.ref 6)) (M := 3128)
    (boot_open (by kernel_rfl) (by decide) fun _ => rfl) l_size (fun w os => run_end w os) (by decide)
    fun w => funext fun os => pr_t (and_t (and_t (and_t (l_stat w) (l_names w)) (by kernel_rfl)) (l_laid w)) (pr_t (l_all w os) (l_hook w os))
theorem ok_q : (chainsOk view && opensWell Challenge.pw_nt0544_01 && (frees (OpenRow.toRowW (OpenLaw.row Challenge.rw_nt0544_01)) && (RowW.within (OpenRow.toRowW (OpenLaw.row Challenge.rw_nt0544_01))).isEmpty)) = true := by kernel_rfl
theorem hd2 {d : DefRec} {kwd : List (Str × Expr)} (hdef : defOf view (RowW.name (OpenRow.toRowW (OpenLaw.row Challenge.rw_nt0544_01))) = some (d, kwd)) (hp : Challenge.pw_nt0544_01.theDef (RowW.name (OpenRow.toRowW (OpenLaw.row Challenge.rw_nt0544_01))) = some (d.params, d.body, d.scope)) (hk : kwWritten? d.params.kwonlyargs d.params.kw_defaults = some kwd)
    (call : WalkO view [] (XL view []) (kHook hd.heap_1 addrs addrs_eq).says (OpenRow.toRowW (OpenLaw.row Challenge.rw_nt0544_01)) d kwd fun f vs => PySem.call f vs) : Challenge.rw_nt0544_01.Holds :=
  hd fun hw => holds_open (q := view) (loose := []) (Xt := (fun s => xlAt view [] s && recOk (RowW.records (OpenRow.toRowW (OpenLaw.row Challenge.rw_nt0544_01))) s)) (XP := XL view []) (Yf := (kHook hd.heap_1 addrs addrs_eq).obs) (Ya := (kHook hd.heap_1 addrs addrs_eq).val) (YP := (kHook hd.heap_1 addrs addrs_eq).says) (N := 3128) left (kHook hd.heap_1 addrs addrs_eq).of (kHook hd.heap_1 addrs addrs_eq).keeps (fun s e => xl_of s (Bool.and_eq_true_iff.mp e).1) XL.keeps hdef hp hk (fun s e => recFacts_of (Bool.and_eq_true_iff.mp e).2) (by rfl) (row_said l_law) ok_q ⟨rfl, rfl, rfl, rfl, rfl, by decide +kernel⟩ hw call

end Mcu
namespace Mcu
/-- a sort whose comparisons are decided by a number of each item -/
def kk (κ : Keyed → Nat) (xs : Array Keyed) (i : Nat) : Nat := match xs[i]? with
  | some p => κ p
  | none => 0
def Up (κ : Keyed → Nat) (xs : Array Keyed) (lo hi : Nat) : Prop := ∀ i j, lo ≤ i → i < j → j < hi → kk κ xs i < kk κ xs j
theorem kk_congr {κ : Keyed → Nat} {xs ys : Array Keyed} {i j : Nat} (h : xs[i]? = ys[j]?) : kk κ xs i = kk κ ys j := by unfold kk; rw [h]
theorem kk_bubble {κ : Keyed → Nat} {xs : Array Keyed} {src d : Nat} (hs : src < xs.size) (hd : d ≤ src) (k : Nat) :
    kk κ (bubble xs src d) k = if k = src - d then kk κ xs src else if src - d < k ∧ k ≤ src then kk κ xs (k - 1) else kk κ xs k := by
  have e := getElem?_bubble hs d hd k
  by_cases h1 : k = src - d
  · rw [if_pos h1] at e ⊢; exact kk_congr e
  · rw [if_neg h1] at e ⊢
    by_cases h2 : src - d < k ∧ k ≤ src
    · rw [if_pos h2] at e ⊢; exact kk_congr e
    · rw [if_neg h2] at e ⊢; exact kk_congr e
/-- the items' numbers differ -/
def Apart (κ : Keyed → Nat) (xs : Array Keyed) : Prop := (xs.toList.map κ).Nodup
theorem Apart.perm {κ : Keyed → Nat} {xs ys : Array Keyed} (h : Apart κ xs) (p : ys.Perm xs) : Apart κ ys :=
  ((Array.perm_iff_toList_perm.mp p).map κ).nodup_iff.mpr h
theorem kk_at {κ : Keyed → Nat} {xs : Array Keyed} {i : Nat} (hi : i < xs.size) : kk κ xs i = κ xs[i] := by unfold kk; rw [getElem?_pos xs i hi]
theorem Apart.ne {κ : Keyed → Nat} {xs : Array Keyed} (h : Apart κ xs) {i j : Nat} (hi : i < xs.size) (hj : j < xs.size) (e : kk κ xs i = kk κ xs j) : i = j := by
  have h' := List.pairwise_iff_getElem.mp h
  rcases Nat.lt_trichotomy i j with q | q | q
  · have := h' i j (by simpa using hi) (by simpa using hj) q
    rw [kk_at hi, kk_at hj] at e
    simp at this
    exact absurd e this
  · exact q
  · have := h' j i (by simpa using hj) (by simpa using hi) q
    rw [kk_at hi, kk_at hj] at e
    simp at this
    exact absurd e.symm this
section
variable {prog : Program} {w : World} {A : Around} {E : Value → Shared → Prop} {s : Shared} {κ : Keyed → Nat} {P : Keyed → Prop}
def Dec (prog : Program) (w : World) (A : Around) (s : Shared) (κ : Keyed → Nat) (P : Keyed → Prop) : Prop :=
  ∀ (E : Value → Shared → Prop) (x y : Keyed) (Q : Bool → Shared → Prop), P x → P y → Q (decide (κ x < κ y)) s → wpAny (model prog w) A (oneLt' true x.1 y.1) Q E s
theorem lt_S {st : SortSt} {x y : Keyed} {Q : Option Bool → SortSt → Prop} (D : Dec prog w A s κ P) (hx : P x) (hy : P y) (hk : kindOf st = oneType') (h : Q (some (decide (κ x < κ y))) st) : wpS (model prog w) A E s (lt' x y) Q st := by
  rw [lt'_eq]
  refine wpS_bind (wpS_get ?_)
  rw [hk, keyLt'_oneType]
  refine wpS_bind (wpS_lift (wpAny_attempt (D _ x y _ hx hy ⟨rfl, ?_⟩)))
  exact wpS_pure h
theorem elem_S {st : SortSt} {arr : Array Keyed} {i : Nat} {Q : Keyed → SortSt → Prop} (hi : i < arr.size) (h : Q arr[i] st) : wpS (model prog w) A E s (elem' arr i) Q st := by
  rw [elem'_eq, getElem?_pos arr i hi]
  exact wpS_pure h
def AllP (P : Keyed → Prop) (xs : Array Keyed) : Prop := ∀ p ∈ xs.toList, P p
theorem AllP.perm {xs ys : Array Keyed} (h : AllP P xs) (p : ys.Perm xs) : AllP P ys := fun x hx => h x ((Array.perm_iff_toList_perm.mp p).mem_iff.mp hx)
theorem AllP.at {xs : Array Keyed} (h : AllP P xs) {i : Nat} (hi : i < xs.size) : P xs[i] := h _ (by simp)
theorem ltAt_S {st : SortSt} {i j : Nat} {Q : Option Bool → SortSt → Prop} (D : Dec prog w A s κ P) (hP : AllP P (arrOf st)) (hi : i < (arrOf st).size) (hj : j < (arrOf st).size) (hk : kindOf st = oneType')
    (h : Q (some (decide (kk κ (arrOf st) i < kk κ (arrOf st) j))) st) : wpS (model prog w) A E s (ltAt' i j) Q st := by
  rw [ltAt'_eq]
  refine wpS_bind (wpS_get ?_)
  show wpS _ _ _ _ (do let x ← elem' (arrOf st) i; let y ← elem' (arrOf st) j; lt' x y) Q st
  refine wpS_bind (elem_S hi (wpS_bind (elem_S hj (lt_S D (hP.at hi) (hP.at hj) hk ?_))))
  rw [kk_at hi, kk_at hj] at h
  exact h
theorem countRun_S {st : SortSt} {lo nrem : Nat} {Q : Option Nat → SortSt → Prop} (D : Dec prog w A s κ P) (hP : AllP P (arrOf st)) (hA : Apart κ (arrOf st)) (hk : kindOf st = oneType') (hn : lo + nrem ≤ (arrOf st).size) (h1 : 1 ≤ nrem)
    (hasc : 2 ≤ nrem → kk κ (arrOf st) lo < kk κ (arrOf st) (lo + 1))
    (h : ∀ m, 1 ≤ m → m ≤ nrem → Up κ (arrOf st) lo (lo + m) → Q (some m) st) : wpS (model prog w) A E s (countRun' lo nrem) Q st := by
  rw [countRun'_eq]
  refine wpS_bind (wpS_mono (wpS_forRange (I := fun x c st' => st' = st ∧ c = (none, x) ∧ Up κ (arrOf st) lo (lo + x))
    (Q := fun c st' => st' = st ∧ ∃ x, c = (none, x) ∧ 1 ≤ x ∧ x ≤ nrem ∧ Up κ (arrOf st) lo (lo + x) ∧ (x = nrem ∨ 2 ≤ x)) ?step ?fin ⟨rfl, rfl, ?init⟩) ?post)
  case init => intro i j h1 h2 h3; lia
  case fin =>
    rintro c st' ⟨rfl, rfl, hu⟩
    rw [show max 1 nrem = nrem by lia] at hu ⊢
    exact ⟨rfl, nrem, rfl, h1, Nat.le_refl _, hu, .inl rfl⟩
  case step =>
    rintro x c st' hx1 hxn ⟨rfl, rfl, hu⟩
    dsimp only
    refine wpS_bind (ltAt_S D hP (by lia) (by lia) hk ?_)
    dsimp only
    cases hb : decide (kk κ (arrOf st') (lo + x) < kk κ (arrOf st') (lo + x - 1)) with
    | true =>
      simp only [if_true]
      have hlt := of_decide_eq_true hb
      refine wpS_pure ⟨rfl, x, rfl, hx1, Nat.le_of_lt hxn, hu, .inr ?_⟩
      rcases Nat.lt_or_ge 1 x with q | q
      · exact q
      · obtain rfl : x = 1 := by lia
        have := hasc (by lia)
        rw [show lo + 1 - 1 = lo by lia] at hlt
        lia
    | false =>
      simp only [Bool.false_eq_true, if_false]
      have hge := of_decide_eq_false hb
      refine wpS_pure ⟨rfl, rfl, fun i j hi hij hj => ?_⟩
      have hstep : kk κ (arrOf st') (lo + x - 1) < kk κ (arrOf st') (lo + x) := by
        rcases Nat.lt_or_ge (kk κ (arrOf st') (lo + x - 1)) (kk κ (arrOf st') (lo + x)) with q | q
        · exact q
        · have := hA.ne (i := lo + x - 1) (j := lo + x) (by lia) (by lia) (by lia)
          lia
      by_cases hj' : j < lo + x
      · exact hu i j hi hij hj'
      · obtain rfl : j = lo + x := by lia
        by_cases hi' : i = lo + x - 1
        · subst hi'; exact hstep
        · exact Nat.lt_trans (hu i (lo + x - 1) hi (by lia) (by lia)) hstep
  case post =>
    rintro c st' ⟨rfl, x, rfl, hx1, hxn, hu, hx2⟩
    dsimp only
    by_cases e : (x == nrem) = true
    · rw [if_pos e]
      exact wpS_pure (h x hx1 hxn hu)
    · rw [if_neg e]
      have hx : 2 ≤ x := by
        rcases hx2 with q | q
        · rw [q] at e; simp at e
        · exact q
      rw [if_pos (by lia)]
      refine wpS_bind (ltAt_S D hP (by lia) (by lia) hk ?_)
      dsimp only
      rw [decide_eq_true (hu lo (lo + x - 1) (Nat.le_refl _) (by lia) (by lia))]
      simp only [if_true]
      exact wpS_pure (h x hx1 hxn hu)
theorem place_S {st : SortSt} {lo k : Nat} {Q : Option Bool × Nat × Nat → SortSt → Prop} {f : Nat → Option Bool × Nat × Nat → StateT SortSt Sem (ForInStep (Option Bool × Nat × Nat))} (hA : Apart κ (arrOf st)) (hk : lo + k < (arrOf st).size) (hu : Up κ (arrOf st) lo (lo + k))
    (hf : ∀ t l r (Q' : ForInStep (Option Bool × Nat × Nat) → SortSt → Prop), r ≤ k → (l ≥ r → Q' (.done (none, l, r)) st) →
      (l < r → Q' (.yield (none, if kk κ (arrOf st) (lo + k) < kk κ (arrOf st) (lo + (l + r) / 2) then (l, (l + r) / 2) else ((l + r) / 2 + 1, r))) st) → wpS (model prog w) A E s (f t (none, l, r)) Q' st)
    (h : ∀ l, l ≤ k → (∀ i, i < l → kk κ (arrOf st) (lo + i) < kk κ (arrOf st) (lo + k)) → (∀ i, l ≤ i → i < k → kk κ (arrOf st) (lo + k) < kk κ (arrOf st) (lo + i)) → ∀ r, Q (none, l, r) st) :
    wpS (model prog w) A E s (forIn [0:k] ((none, 0, k) : Option Bool × Nat × Nat) f) Q st := by
  refine wpS_forRange (I := fun t c st' => st' = st ∧ ∃ l r, c = (none, l, r) ∧ l ≤ r ∧ r ≤ k ∧ r - l ≤ k - t ∧ (∀ i, i < l → kk κ (arrOf st) (lo + i) < kk κ (arrOf st) (lo + k)) ∧ (∀ i, r ≤ i → i < k → kk κ (arrOf st) (lo + k) < kk κ (arrOf st) (lo + i))) ?step ?fin
    ⟨rfl, 0, k, rfl, Nat.zero_le _, Nat.le_refl _, Nat.le_refl _, fun i hi => by lia, fun i h1 h2 => by lia⟩
  case fin =>
    rintro c st' ⟨rfl, l, r, rfl, h1, h2, h3, h4, h5⟩
    obtain rfl : l = r := by lia
    exact h l h2 h4 h5 l
  case step =>
    rintro t c st' _ htk ⟨rfl, l, r, rfl, h1, h2, h3, h4, h5⟩
    refine hf t l r _ h2 (fun hge => ?_) (fun hlt => ?_)
    · obtain rfl : l = r := by lia
      exact h l h2 h4 h5 l
    · by_cases hc : kk κ (arrOf st') (lo + k) < kk κ (arrOf st') (lo + (l + r) / 2)
      · rw [if_pos hc]
        refine ⟨rfl, l, (l + r) / 2, rfl, by lia, by lia, by lia, h4, fun i hi hik => ?_⟩
        by_cases e : i = (l + r) / 2
        · subst e; exact hc
        · exact Nat.lt_trans hc (hu _ _ (by lia) (by lia) (by lia))
      · rw [if_neg hc]
        refine ⟨rfl, (l + r) / 2 + 1, r, rfl, by lia, h2, by lia, fun i hi => ?_, h5⟩
        have hm : kk κ (arrOf st') (lo + (l + r) / 2) < kk κ (arrOf st') (lo + k) := by
          rcases Nat.lt_or_ge (kk κ (arrOf st') (lo + (l + r) / 2)) (kk κ (arrOf st') (lo + k)) with q | q
          · exact q
          · have := hA.ne (i := lo + (l + r) / 2) (j := lo + k) (by lia) hk (by lia)
            lia
        by_cases e : i = (l + r) / 2
        · subst e; exact hm
        · exact Nat.lt_trans (hu _ _ (by lia) (by lia) (by lia)) hm
theorem binary_S {st : SortSt} {lo n ok : Nat} {Q : Bool → SortSt → Prop} (D : Dec prog w A s κ P) (hP : AllP P (arrOf st)) (hA : Apart κ (arrOf st)) (hk : kindOf st = oneType') (hn : lo + n ≤ (arrOf st).size) (hok1 : 1 ≤ ok) (hok : ok ≤ n)
    (hu : Up κ (arrOf st) lo (lo + ok))
    (h : ∀ xs : Array Keyed, xs.Perm (arrOf st) → Up κ xs lo (lo + n) → (∀ i, i < lo ∨ lo + n ≤ i → xs[i]? = (arrOf st)[i]?) → Q true (setArr st xs)) : wpS (model prog w) A E s (binarySort' lo n ok) Q st := by
  rw [binarySort'_eq]
  refine wpS_bind (wpS_mono (wpS_forRange (I := fun k c st' => c = (none, ()) ∧ ∃ xs : Array Keyed, st' = setArr st xs ∧ xs.Perm (arrOf st) ∧ Up κ xs lo (lo + k) ∧ ∀ i, i < lo ∨ lo + n ≤ i → xs[i]? = (arrOf st)[i]?)
    (Q := fun c st' => c = (none, ()) ∧ ∃ xs : Array Keyed, st' = setArr st xs ∧ xs.Perm (arrOf st) ∧ Up κ xs lo (lo + n) ∧ ∀ i, i < lo ∨ lo + n ≤ i → xs[i]? = (arrOf st)[i]?) ?step ?fin ?init) ?post)
  case init => exact ⟨rfl, arrOf st, rfl, Array.Perm.refl _, by rw [show max ok 1 = ok by lia]; exact hu, fun _ _ => rfl⟩
  case fin =>
    rintro c st' ⟨rfl, xs, rfl, hp, hu', ho⟩
    rw [show max (max ok 1) n = n by lia] at hu'
    exact ⟨rfl, xs, rfl, hp, hu', ho⟩
  case post =>
    rintro c st' ⟨rfl, xs, rfl, hp, hu', ho⟩
    exact wpS_pure (h xs hp hu' ho)
  case step =>
    rintro k c st' hk1 hkn ⟨rfl, xs, rfl, hp, hu', ho⟩
    have hz : xs.size = (arrOf st).size := hp.size_eq
    dsimp only
    refine wpS_bind (place_S (st := setArr st xs) (lo := lo) (k := k) (κ := κ) (hA.perm hp) (by show lo + k < xs.size; lia) hu' (fun t l r Q' hr h1 h2 => ?_) (fun l hl hlo hhi r => ?_))
    · dsimp only
      by_cases hge : l ≥ r
      · rw [if_pos hge]
        exact wpS_pure (h1 hge)
      · rw [if_neg hge]
        have h2' := h2 (by lia)
        refine wpS_bind (ltAt_S D (hP.perm hp) (by show lo + k < xs.size; lia) (by show lo + (l + r) / 2 < xs.size; lia) hk ?_)
        dsimp only
        by_cases hc : kk κ (arrOf (setArr st xs)) (lo + k) < kk κ (arrOf (setArr st xs)) (lo + (l + r) / 2)
        · rw [if_pos hc] at h2'
          rw [decide_eq_true hc]
          simp only [if_true]
          exact wpS_pure h2'
        · rw [if_neg hc] at h2'
          rw [decide_eq_false hc]
          simp only [Bool.false_eq_true, if_false]
          exact wpS_pure h2'
    · dsimp only
      rw [moveDown'_eq]
      refine wpS_bind (wpS_modify (wpS_pure ⟨rfl, bubble xs (lo + k) (lo + k - (lo + l)), rfl, (bubble_perm _ _ _).trans hp, ?_, fun i hi => ?_⟩))
      · intro i j hi hij hj
        rw [show lo + k - (lo + l) = k - l by lia, kk_bubble (by lia) (by lia), kk_bubble (by lia) (by lia)]
        have hlo' : ∀ i, lo ≤ i → i < lo + l → kk κ xs i < kk κ xs (lo + k) := fun i a b => by
          have := hlo (i - lo) (by lia)
          rwa [show lo + (i - lo) = i by lia] at this
        have hhi' : ∀ i, lo + l ≤ i → i < lo + k → kk κ xs (lo + k) < kk κ xs i := fun i a b => by
          have := hhi (i - lo) (by lia) (by lia)
          rwa [show lo + (i - lo) = i by lia] at this
        repeat' split
        all_goals first
          | lia
          | exact hhi' _ (by lia) (by lia)
          | exact hlo' _ (by lia) (by lia)
          | exact hu' _ _ (by lia) (by lia) (by lia)
      · rw [← ho i hi, getElem?_bubble (by lia) _ (by lia)]
        rw [if_neg (by lia), if_neg (by lia)]
end
end Mcu
namespace Mcu
def gallop' : Bool → Keyed → Array Keyed → Nat → Nat → Nat → StateT SortSt Sem (Option Nat) := sortPriv% PySem.Builtin.gallop
section
variable {prog : Program} {w : World} {A : Around} {E : Value → Shared → Prop} {s : Shared} {κ : Keyed → Nat} {P : Keyed → Prop}
theorem beyond_S {st : SortSt} {left : Bool} {key : Keyed} {arr : Array Keyed} {base i : Nat} {Q : Option Bool → SortSt → Prop} (D : Dec prog w A s κ P) (hP : AllP P arr) (hkey : P key) (hk : kindOf st = oneType') (hi : base + i < arr.size) (hne : kk κ arr (base + i) ≠ κ key)
    (h : Q (some (decide (kk κ arr (base + i) < κ key))) st) : wpS (model prog w) A E s (do
        let x ← elem' arr (base + i)
        if left = true then lt' x key
          else do
            let __do_lift ← lt' key x
            pure (Option.map (fun x => !x) __do_lift)) Q st := by
  refine wpS_bind (elem_S hi ?_)
  rw [kk_at hi] at h hne
  cases left with
  | true =>
    rw [if_pos rfl]
    exact lt_S D (hP.at hi) hkey hk h
  | false =>
    rw [if_neg (by simp)]
    refine wpS_bind (lt_S D hkey (hP.at hi) hk (wpS_pure ?_))
    show Q (some (!decide (κ key < κ arr[base + i]))) st
    rw [show (!decide (κ key < κ arr[base + i])) = decide (κ arr[base + i] < κ key) by
      rw [Bool.eq_iff_iff]; simp; omega]
    exact h
theorem halves_S {st : SortSt} {n : Nat} {p : Nat → Prop} [DecidablePred p] {Q : Option (Option Nat) × Nat × Nat → SortSt → Prop} {f : Nat → Option (Option Nat) × Nat × Nat → StateT SortSt Sem (ForInStep (Option (Option Nat) × Nat × Nat))} {lo hi : Nat} (hmono : ∀ i j, i ≤ j → p j → p i)
    (hlh : lo ≤ hi) (hhn : hi ≤ n) (h1 : ∀ i, i < lo → p i) (h2 : ∀ i, hi ≤ i → i < n → ¬ p i)
    (hf : ∀ t lo hi (Q' : ForInStep (Option (Option Nat) × Nat × Nat) → SortSt → Prop), hi ≤ n → (lo ≥ hi → Q' (.done (none, lo, hi)) st) →
      (lo < hi → Q' (.yield (none, if p (lo + (hi - lo) / 2) then (lo + (hi - lo) / 2 + 1, hi) else (lo, lo + (hi - lo) / 2))) st) → wpS (model prog w) A E s (f t (none, lo, hi)) Q' st)
    (h : ∀ k, k ≤ n → (∀ i, i < k → p i) → (∀ i, k ≤ i → i < n → ¬ p i) → Q (none, k, k) st) :
    wpS (model prog w) A E s (forIn [0:n] ((none, lo, hi) : Option (Option Nat) × Nat × Nat) f) Q st := by
  refine wpS_forRange (I := fun t c st' => st' = st ∧ ∃ l r, c = (none, l, r) ∧ l ≤ r ∧ r ≤ n ∧ r - l ≤ n - t ∧ (∀ i, i < l → p i) ∧ (∀ i, r ≤ i → i < n → ¬ p i)) ?step ?fin
    ⟨rfl, lo, hi, rfl, hlh, hhn, by omega, h1, h2⟩
  case fin =>
    rintro c st' ⟨rfl, l, r, rfl, a1, a2, a3, a4, a5⟩
    obtain rfl : l = r := by omega
    exact h l a2 a4 a5
  case step =>
    rintro t c st' _ htk ⟨rfl, l, r, rfl, a1, a2, a3, a4, a5⟩
    refine hf t l r _ a2 (fun hge => ?_) (fun hlt => ?_)
    · obtain rfl : l = r := by omega
      exact h l a2 a4 a5
    · by_cases hc : p (l + (r - l) / 2)
      · rw [if_pos hc]
        exact ⟨rfl, _, _, rfl, by omega, a2, by omega, fun i hi => hmono _ _ (by omega) hc, a5⟩
      · rw [if_neg hc]
        exact ⟨rfl, _, _, rfl, by omega, by omega, by omega, a4, fun i hi hin hp => hc (hmono _ _ hi hp)⟩
theorem gallop_S {st : SortSt} {left : Bool} {key : Keyed} {arr : Array Keyed} {base n hint : Nat} {Q : Option Nat → SortSt → Prop} (D : Dec prog w A s κ P) (hP : AllP P arr) (hkey : P key) (hk : kindOf st = oneType') (hn : base + n ≤ arr.size) (hh : hint < n)
    (hne : ∀ i, i < n → kk κ arr (base + i) ≠ κ key) (hu : Up κ arr base (base + n))
    (h : ∀ k, k ≤ n → (∀ i, i < k → kk κ arr (base + i) < κ key) → (∀ i, k ≤ i → i < n → κ key < kk κ arr (base + i)) → Q (some k) st) : wpS (model prog w) A E s (gallop' left key arr base n hint) Q st := by
  have hq : ∀ k, k ≤ n → (∀ i, i < k → i < n ∧ kk κ arr (base + i) < κ key) → (∀ i, k ≤ i → i < n → ¬ (i < n ∧ kk κ arr (base + i) < κ key)) → Q (some k) st := fun k h1 h2 h3 =>
    h k h1 (fun i hi => (h2 i hi).2) fun i h4 h5 => by
      have := h3 i h4 h5
      have := hne i h5
      omega
  have hmono : ∀ i j, i ≤ j → (j < n ∧ kk κ arr (base + j) < κ key) → (i < n ∧ kk κ arr (base + i) < κ key) := fun i j hij hj => by
    by_cases e : i = j
    · subst e; exact hj
    · exact ⟨by omega, Nat.lt_trans (hu (base + i) (base + j) (by omega) (by omega) (by omega)) hj.2⟩
  have bey : ∀ i (Q' : Option Bool → SortSt → Prop), i < n → Q' (some (decide (kk κ arr (base + i) < κ key))) st → wpS (model prog w) A E s (do
        let x ← elem' arr (base + i)
        if left = true then lt' x key
          else do
            let __do_lift ← lt' key x
            pure (Option.map (fun x => !x) __do_lift)) Q' st := fun i Q' hi hq => beyond_S D hP hkey hk (by omega) (hne i hi) hq
  refine wpS_bind (bey hint _ hh ?_)
  dsimp only
  by_cases hc : kk κ arr (base + hint) < κ key
  · rw [decide_eq_true hc]
    simp only [if_true]
    refine wpS_bind (wpS_mono (wpS_forRange (I := fun t c st' => st' = st ∧ ∃ l o, c = (none, l, o) ∧ l < o ∧ t + 1 ≤ o ∧ hint + l < n ∧ kk κ arr (base + (hint + l)) < κ key)
      (Q := fun c st' => st' = st ∧ ∃ l o, c = (none, l, o) ∧ l < o ∧ hint + l < n ∧ kk κ arr (base + (hint + l)) < κ key ∧ (n - hint ≤ o ∨ (hint + o < n ∧ ¬ kk κ arr (base + (hint + o)) < κ key))) ?step ?fin ⟨rfl, 0, 1, rfl, by omega, by omega, by omega, hc⟩) ?post)
    case fin =>
      rintro c st' ⟨rfl, l, o, rfl, a1, a2, a3, a4⟩
      exact ⟨rfl, l, o, rfl, a1, a3, a4, .inl (by omega)⟩
    case step =>
      rintro t c st' _ htn ⟨rfl, l, o, rfl, a1, a2, a3, a4⟩
      dsimp only
      by_cases ho : o ≥ n - hint
      · rw [if_pos ho]; exact wpS_pure ⟨rfl, l, o, rfl, a1, a3, a4, .inl ho⟩
      · rw [if_neg ho]
        refine wpS_bind (bey (hint + o) _ (by omega) ?_)
        dsimp only
        by_cases hc2 : kk κ arr (base + (hint + o)) < κ key
        · rw [decide_eq_true hc2]
          simp only [Bool.not_true, Bool.false_eq_true, if_false]
          exact wpS_pure ⟨rfl, o, 2 * o + 1, rfl, by omega, by omega, by omega, hc2⟩
        · rw [decide_eq_false hc2]
          simp only [Bool.not_false, if_true]
          exact wpS_pure ⟨rfl, l, o, rfl, a1, a3, a4, .inr ⟨by omega, hc2⟩⟩
    case post =>
      rintro c st' ⟨rfl, l, o, rfl, a1, a3, a4, a5⟩
      dsimp only
      refine wpS_bind (halves_S (p := fun i => i < n ∧ kk κ arr (base + i) < κ key) hmono (by omega) (by omega) ?lowT ?highT (fun t l r Q' hr g1 g2 => ?_) (fun k k1 k2 k3 => wpS_pure (hq k k1 k2 k3)))
      case lowT =>
        exact fun i hi => hmono i (hint + l) (by omega) ⟨a3, a4⟩
      case highT =>
        intro i h1 h2 h3
        rcases a5 with q | ⟨q1, q2⟩
        · omega
        · exact q2 (hmono (hint + o) i (by omega) h3).2
      dsimp only
      by_cases hge : l ≥ r
      · rw [if_pos hge]; exact wpS_pure (g1 hge)
      · rw [if_neg hge]
        have g2' := g2 (by omega)
        refine wpS_bind (bey _ _ (by omega) ?_)
        dsimp only
        by_cases hc' : kk κ arr (base + (l + (r - l) / 2)) < κ key
        · rw [if_pos ⟨by omega, hc'⟩] at g2'
          rw [decide_eq_true hc']; simp only [if_true]; exact wpS_pure g2'
        · rw [if_neg (fun q => hc' q.2)] at g2'
          rw [decide_eq_false hc']; simp only [Bool.false_eq_true, if_false]; exact wpS_pure g2'
  · rw [decide_eq_false hc]
    simp only [Bool.false_eq_true, if_false]
    refine wpS_bind (wpS_mono (wpS_forRange (I := fun t c st' => st' = st ∧ ∃ l o, c = (none, l, o) ∧ l < o ∧ t + 1 ≤ o ∧ l ≤ hint ∧ ¬ kk κ arr (base + (hint - l)) < κ key)
      (Q := fun c st' => st' = st ∧ ∃ l o, c = (none, l, o) ∧ l < o ∧ l ≤ hint ∧ ¬ kk κ arr (base + (hint - l)) < κ key ∧ (hint + 1 ≤ o ∨ (o ≤ hint ∧ kk κ arr (base + (hint - o)) < κ key))) ?step2 ?fin2 ⟨rfl, 0, 1, rfl, by omega, by omega, by omega, hc⟩) ?post2)
    case fin2 =>
      rintro c st' ⟨rfl, l, o, rfl, a1, a2, a3, a4⟩
      exact ⟨rfl, l, o, rfl, a1, a3, a4, .inl (by omega)⟩
    case step2 =>
      rintro t c st' _ htn ⟨rfl, l, o, rfl, a1, a2, a3, a4⟩
      dsimp only
      by_cases ho : o ≥ hint + 1
      · rw [if_pos ho]; exact wpS_pure ⟨rfl, l, o, rfl, a1, a3, a4, .inl ho⟩
      · rw [if_neg ho]
        refine wpS_bind (bey (hint - o) _ (by omega) ?_)
        dsimp only
        by_cases hc2 : kk κ arr (base + (hint - o)) < κ key
        · rw [decide_eq_true hc2]
          simp only [if_true]
          exact wpS_pure ⟨rfl, l, o, rfl, a1, a3, a4, .inr ⟨by omega, hc2⟩⟩
        · rw [decide_eq_false hc2]
          simp only [Bool.false_eq_true, if_false]
          exact wpS_pure ⟨rfl, o, 2 * o + 1, rfl, by omega, by omega, by omega, hc2⟩
    case post2 =>
      rintro c st' ⟨rfl, l, o, rfl, a1, a3, a4, a5⟩
      dsimp only
      refine wpS_bind (halves_S (p := fun i => i < n ∧ kk κ arr (base + i) < κ key) hmono (by omega) (by omega) ?lowT ?highT (fun t l r Q' hr g1 g2 => ?_) (fun k k1 k2 k3 => wpS_pure (hq k k1 k2 k3)))
      case lowT =>
        intro i hi
        rcases a5 with q | ⟨q1, q2⟩
        · omega
        · exact hmono i (hint - o) (by omega) ⟨by omega, q2⟩
      case highT =>
        exact fun i h1 h2 h3 => a4 (hmono (hint - l) i h1 h3).2
      dsimp only
      by_cases hge : l ≥ r
      · rw [if_pos hge]; exact wpS_pure (g1 hge)
      · rw [if_neg hge]
        have g2' := g2 (by omega)
        refine wpS_bind (bey _ _ (by omega) ?_)
        dsimp only
        by_cases hc' : kk κ arr (base + (l + (r - l) / 2)) < κ key
        · rw [if_pos ⟨by omega, hc'⟩] at g2'
          rw [decide_eq_true hc']; simp only [if_true]; exact wpS_pure g2'
        · rw [if_neg (fun q => hc' q.2)] at g2'
          rw [decide_eq_false hc']; simp only [Bool.false_eq_true, if_false]; exact wpS_pure g2'
end
end Mcu
namespace Mcu
section
variable {α : Type} {κ : α → Nat}
/-- two sorted lists that are being merged -/
def Mg (κ : α → Nat) (la lb out : List α) (ia ib : Nat) : Prop :=
  out.Perm (la.take ia ++ lb.take ib) ∧ (out.map κ).Pairwise (· < ·) ∧ ∀ x ∈ out, ∀ y ∈ la.drop ia ++ lb.drop ib, κ x < κ y
def Fin' (κ : α → Nat) (la lb r : List α) : Prop := r.Perm (la ++ lb) ∧ (r.map κ).Pairwise (· < ·)
theorem pw_append {l r : List α} : ((l ++ r).map κ).Pairwise (· < ·) ↔ (l.map κ).Pairwise (· < ·) ∧ (r.map κ).Pairwise (· < ·) ∧ ∀ x ∈ l, ∀ y ∈ r, κ x < κ y := by
  rw [List.map_append, List.pairwise_append]
  constructor
  · rintro ⟨h1, h2, h3⟩
    exact ⟨h1, h2, fun x hx y hy => h3 _ (List.mem_map_of_mem hx) _ (List.mem_map_of_mem hy)⟩
  · rintro ⟨h1, h2, h3⟩
    refine ⟨h1, h2, fun a ha b hb => ?_⟩
    obtain ⟨x, hx, rfl⟩ := List.mem_map.mp ha
    obtain ⟨y, hy, rfl⟩ := List.mem_map.mp hb
    exact h3 x hx y hy
theorem pw_drop {l : List α} (h : (l.map κ).Pairwise (· < ·)) (i : Nat) : ((l.drop i).map κ).Pairwise (· < ·) := by
  rw [List.map_drop]; exact h.sublist (List.drop_sublist _ _)
theorem Mg.doneA {la lb out : List α} {ia : Nat} (h : Mg κ la lb out ia lb.length) (ha : (la.map κ).Pairwise (· < ·)) : Fin' κ la lb (out ++ la.drop ia) := by
  obtain ⟨h1, h2, h3⟩ := h
  rw [List.take_length] at h1
  refine ⟨?_, pw_append.mpr ⟨h2, pw_drop ha ia, fun x hx y hy => h3 x hx y (List.mem_append_left _ hy)⟩⟩
  have : (out ++ la.drop ia).Perm (la.take ia ++ lb ++ la.drop ia) := h1.append_right _
  refine this.trans ?_
  rw [List.append_assoc]
  refine (List.Perm.append_left _ List.perm_append_comm).trans ?_
  rw [← List.append_assoc, List.take_append_drop]
theorem Mg.doneB {la lb out : List α} {ib : Nat} (h : Mg κ la lb out la.length ib) (hb : (lb.map κ).Pairwise (· < ·)) : Fin' κ la lb (out ++ lb.drop ib) := by
  obtain ⟨h1, h2, h3⟩ := h
  rw [List.take_length] at h1
  refine ⟨?_, pw_append.mpr ⟨h2, pw_drop hb ib, fun x hx y hy => h3 x hx y (List.mem_append_right _ hy)⟩⟩
  refine (h1.append_right _).trans ?_
  rw [List.append_assoc, List.take_append_drop]
theorem Mg.both {la lb out : List α} {ia ib : Nat} (h : Mg κ la lb out ia ib) (ha : (la.map κ).Pairwise (· < ·)) (hb : (lb.map κ).Pairwise (· < ·)) (hlt : ∀ x ∈ lb.drop ib, ∀ y ∈ la.drop ia, κ x < κ y) :
    Fin' κ la lb (out ++ lb.drop ib ++ la.drop ia) := by
  obtain ⟨h1, h2, h3⟩ := h
  refine ⟨?_, pw_append.mpr ⟨pw_append.mpr ⟨h2, pw_drop hb ib, fun x hx y hy => h3 x hx y (List.mem_append_right _ hy)⟩, pw_drop ha ia, fun x hx y hy => ?_⟩⟩
  · refine ((h1.append_right _).append_right _).trans ?_
    rw [List.append_assoc (la.take ia), List.take_append_drop, List.append_assoc]
    refine (List.Perm.append_left _ List.perm_append_comm).trans ?_
    rw [← List.append_assoc, List.take_append_drop]
  · rcases List.mem_append.mp hx with hx | hx
    · exact h3 x hx y (List.mem_append_left _ hy)
    · exact hlt x hx y hy
theorem Mg.stepA {la lb out : List α} {ia ib : Nat} {x : α} (h : Mg κ la lb out ia ib) (ha : (la.map κ).Pairwise (· < ·)) (hx : la[ia]? = some x) (hlt : ∀ y ∈ lb.drop ib, κ x < κ y) : Mg κ la lb (out ++ [x]) (ia + 1) ib := by
  obtain ⟨h1, h2, h3⟩ := h
  have hlen : ia < la.length := (List.getElem?_eq_some_iff.mp hx).1
  have hd : la.drop ia = x :: la.drop (ia + 1) := by
    rw [List.drop_eq_getElem_cons hlen]
    congr 1
    exact (List.getElem?_eq_some_iff.mp hx).2
  have hs := pw_drop ha ia
  rw [hd, List.map_cons, List.pairwise_cons] at hs
  refine ⟨?_, pw_append.mpr ⟨h2, by simp, fun y hy z hz => ?_⟩, fun y hy z hz => ?_⟩
  · rw [List.take_add_one, hx]
    refine (h1.append_right [x]).trans ?_
    rw [List.append_assoc, List.append_assoc]
    exact List.Perm.append_left _ List.perm_append_comm
  · obtain rfl := List.mem_singleton.mp hz
    exact h3 y hy z (List.mem_append_left _ (hd ▸ List.mem_cons_self ..))
  · rcases List.mem_append.mp hy with hy | hy
    · refine h3 y hy z ?_
      rcases List.mem_append.mp hz with hz | hz
      · exact List.mem_append_left _ (hd ▸ List.mem_cons_of_mem _ hz)
      · exact List.mem_append_right _ hz
    · obtain rfl := List.mem_singleton.mp hy
      rcases List.mem_append.mp hz with hz | hz
      · exact hs.1 _ (List.mem_map_of_mem hz)
      · exact hlt z hz
theorem Mg.swap {la lb out : List α} {ia ib : Nat} (h : Mg κ la lb out ia ib) : Mg κ lb la out ib ia :=
  ⟨h.1.trans List.perm_append_comm, h.2.1, fun x hx y hy => h.2.2 x hx y ((List.mem_append.mp hy).elim (List.mem_append_right _) (List.mem_append_left _))⟩
theorem Mg.stepB {la lb out : List α} {ia ib : Nat} {x : α} (h : Mg κ la lb out ia ib) (hb : (lb.map κ).Pairwise (· < ·)) (hx : lb[ib]? = some x) (hlt : ∀ y ∈ la.drop ia, κ x < κ y) : Mg κ la lb (out ++ [x]) ia (ib + 1) :=
  (h.swap.stepA hb hx hlt).swap
theorem Mg.blockA {la lb : List α} {ib : Nat} (ha : (la.map κ).Pairwise (· < ·)) : ∀ (k : Nat) {out : List α} {ia : Nat}, Mg κ la lb out ia ib → ia + k ≤ la.length → (∀ i x, ia ≤ i → i < ia + k → la[i]? = some x → ∀ y ∈ lb.drop ib, κ x < κ y) →
    Mg κ la lb (out ++ (la.drop ia).take k) (ia + k) ib
  | 0, out, ia, h, _, _ => by simpa using h
  | k + 1, out, ia, h, hk, hlt => by
    have hia : ia < la.length := by lia
    have hx : la[ia]? = some la[ia] := List.getElem?_eq_getElem hia
    have h1 := h.stepA ha hx (hlt ia _ (Nat.le_refl _) (by lia) hx)
    have h2 := Mg.blockA ha k h1 (by lia) fun i x h1 h2 hx => hlt i x (by lia) (by lia) hx
    rw [show ia + 1 + k = ia + (k + 1) by lia] at h2
    rw [List.drop_eq_getElem_cons hia, List.take_succ_cons]
    simpa using h2
theorem Mg.blockB {la lb : List α} {ia : Nat} (hb : (lb.map κ).Pairwise (· < ·)) (k : Nat) {out : List α} {ib : Nat} (h : Mg κ la lb out ia ib) (hk : ib + k ≤ lb.length) (hlt : ∀ i x, ib ≤ i → i < ib + k → lb[i]? = some x → ∀ y ∈ la.drop ia, κ x < κ y) :
    Mg κ la lb (out ++ (lb.drop ib).take k) ia (ib + k) := (Mg.blockA hb k h.swap hk hlt).swap
/-- what stands before all of a list's rest -/
theorem lt_drop {l : List α} (h : (l.map κ).Pairwise (· < ·)) {i z : Nat} (hz : i < l.length) (hlt : z < κ l[i]) : ∀ y ∈ l.drop i, z < κ y := by
  rw [List.drop_eq_getElem_cons hz]
  have hs := pw_drop h i
  rw [List.drop_eq_getElem_cons hz, List.map_cons, List.pairwise_cons] at hs
  intro y hy
  rcases List.mem_cons.mp hy with rfl | hy
  · exact hlt
  · exact Nat.lt_trans hlt (hs.1 _ (List.mem_map_of_mem hy))
end
end Mcu
namespace Mcu
def mergeLo' : Array Keyed → Array Keyed → StateT SortSt Sem (Array Keyed) := sortPriv% PySem.Builtin.mergeLo
abbrev setG (st : SortSt) (g : Nat) : SortSt := SortSt.mk' (kindOf st) (arrOf st) (pendingOf st) g (failedOf st)
theorem up_of {κ : Keyed → Nat} {xs : Array Keyed} (h : (xs.toList.map κ).Pairwise (· < ·)) (lo hi : Nat) (hh : hi ≤ xs.size) : Up κ xs lo hi := fun i j _ hij hj => by
  rw [kk_at (by lia), kk_at (by lia)]
  have := List.pairwise_iff_getElem.mp h i j (by simpa using (by lia : i < xs.size)) (by simpa using (by lia : j < xs.size)) hij
  simpa using this
abbrev OA := Option (Array Keyed)
inductive LoO (κ : Keyed → Nat) (a b : Array Keyed) (st : SortSt) (t : Nat) : OA × Array Keyed × Nat × Nat × Nat → SortSt → Prop
  | mk (out : Array Keyed) (ia ib mg g : Nat) (hm : Mg κ a.toList b.toList out.toList ia ib) (h1 : ia + 1 < a.size) (h2 : ib < b.size) (h5 : t + 1 ≤ ia + ib) : LoO κ a b st t (none, out, ia, ib, mg) (setG st g)
inductive LoE (κ : Keyed → Nat) (a b : Array Keyed) (st : SortSt) : OA × Array Keyed × Nat × Nat × Nat → SortSt → Prop
  | mk (r : Array Keyed) (rest : Array Keyed × Nat × Nat × Nat) (g : Nat) (hf : Fin' κ a.toList b.toList r.toList) : LoE κ a b st (some r, rest) (setG st g)
inductive Lo1 (κ : Keyed → Nat) (a b : Array Keyed) (st : SortSt) (L t : Nat) : OA × Array Keyed × Nat × Nat × Nat × Nat → SortSt → Prop
  | mk (out : Array Keyed) (ia ib ac bc : Nat) (hm : Mg κ a.toList b.toList out.toList ia ib) (h1 : ia + 1 < a.size) (h2 : ib < b.size) (h5 : L + t ≤ ia + ib) : Lo1 κ a b st L t (none, out, ia, ib, ac, bc) st
inductive Lo1Q (κ : Keyed → Nat) (a b : Array Keyed) (st : SortSt) (L : Nat) : OA × Array Keyed × Nat × Nat × Nat × Nat → SortSt → Prop
  | out (r : Array Keyed) (rest : Array Keyed × Nat × Nat × Nat × Nat) (hf : Fin' κ a.toList b.toList r.toList) : Lo1Q κ a b st L (some r, rest) st
  | on (out : Array Keyed) (ia ib ac bc : Nat) (hm : Mg κ a.toList b.toList out.toList ia ib) (h1 : ia + 1 < a.size) (h2 : ib < b.size) (h5 : L + 1 ≤ ia + ib) : Lo1Q κ a b st L (none, out, ia, ib, ac, bc) st
inductive Lo2 (κ : Keyed → Nat) (a b : Array Keyed) (st : SortSt) (L : Nat) : OA × Array Keyed × Nat × Nat × Nat × Nat × Nat → SortSt → Prop
  | mk (out : Array Keyed) (ia ib mg ac bc g : Nat) (hm : Mg κ a.toList b.toList out.toList ia ib) (h1 : ia + 1 < a.size) (h2 : ib < b.size) (h5 : L + 1 ≤ ia + ib) : Lo2 κ a b st L (none, out, ia, ib, mg, ac, bc) (setG st g)
inductive Lo2Q (κ : Keyed → Nat) (a b : Array Keyed) (st : SortSt) (L : Nat) : OA × Array Keyed × Nat × Nat × Nat × Nat × Nat → SortSt → Prop
  | out (r : Array Keyed) (rest : Array Keyed × Nat × Nat × Nat × Nat × Nat) (g : Nat) (hf : Fin' κ a.toList b.toList r.toList) : Lo2Q κ a b st L (some r, rest) (setG st g)
  | on (out : Array Keyed) (ia ib mg ac bc g : Nat) (hm : Mg κ a.toList b.toList out.toList ia ib) (h1 : ia + 1 < a.size) (h2 : ib < b.size) (h5 : L + 1 ≤ ia + ib) : Lo2Q κ a b st L (none, out, ia, ib, mg, ac, bc) (setG st g)
section
variable {prog : Program} {w : World} {A : Around} {E : Value → Shared → Prop} {s : Shared} {κ : Keyed → Nat} {P : Keyed → Prop}
theorem wpS_ite {M : Model} {σ α : Type} {c : Prop} [Decidable c] {m₁ m₂ : StateT σ Sem α} {Q : α → σ → Prop} {st : σ} (h1 : c → wpS M A E s m₁ Q st) (h2 : ¬ c → wpS M A E s m₂ Q st) : wpS M A E s (if c then m₁ else m₂) Q st := by
  by_cases h : c
  · rw [if_pos h]; exact h1 h
  · rw [if_neg h]; exact h2 h
/-- two runs, sorted, apart, the first of b before all of a, the last of a behind all of b -/
structure Runs2 (κ : Keyed → Nat) (P : Keyed → Prop) (a b : Array Keyed) : Prop where
  pa : AllP P a
  pb : AllP P b
  sa : (a.toList.map κ).Pairwise (· < ·)
  sb : (b.toList.map κ).Pairwise (· < ·)
  ne : ∀ x ∈ a.toList, ∀ y ∈ b.toList, κ x ≠ κ y
  first : ∀ x, b[0]? = some x → ∀ y ∈ a.toList, κ x < κ y
  last : ∀ x, a[a.size - 1]? = some x → ∀ y ∈ b.toList, κ y < κ x
theorem all_jp {G T : Nat → Prop} (H : ∀ v, T v) (k : ∀ m, T m → T (m - 1) → G m) : ∀ m, G m := fun m => k m (H m) (H _)
theorem ext_from {α : Type} (xs : Array α) (i : Nat) : (xs.extract i).toList = xs.toList.drop i := by
  rw [Array.toList_extract, List.extract_eq_take_drop]
  exact List.take_of_length_le (by simp)
theorem ext_mid {α : Type} (xs : Array α) (i k : Nat) : (xs.extract i (i + k)).toList = (xs.toList.drop i).take k := by
  rw [Array.toList_extract, List.extract_eq_take_drop]
  congr 1
  lia
theorem Runs2.out {a b : Array Keyed} {out : Array Keyed} {ia ib : Nat} (r : Runs2 κ P a b) (h : Mg κ a.toList b.toList out.toList ia ib) (hib : ib = b.size) : Fin' κ a.toList b.toList (out ++ a.extract ia ++ b.extract ib).toList := by
  subst hib
  have h1 := Mg.doneA (by rw [Array.length_toList]; exact h) r.sa
  rw [Array.toList_append, Array.toList_append, ext_from, ext_from, List.drop_of_length_le (l := b.toList) (by simp), List.append_nil]
  exact h1
theorem Runs2.outL {a b : Array Keyed} {out : Array Keyed} {ia ib : Nat} (r : Runs2 κ P a b) (h : Mg κ a.toList b.toList out.toList ia ib) (hia : ia + 1 = a.size) : Fin' κ a.toList b.toList (out ++ b.extract ib ++ a.extract ia).toList := by
  have hl : a[a.size - 1]? = some a[a.size - 1] := getElem?_pos a _ (by lia)
  have h1 := h.both r.sa r.sb (fun x hx y hy => by
    have hd : a.toList.drop ia = [a[a.size - 1]] := by
      rw [List.drop_eq_getElem_cons (by simpa using (by lia : ia < a.size)), List.drop_of_length_le (by simp; lia)]
      simp [show a.size - 1 = ia by lia]
    rw [hd] at hy
    obtain rfl := List.mem_singleton.mp hy
    exact r.last _ hl x (List.mem_of_mem_drop hx))
  rw [Array.toList_append, Array.toList_append, ext_from, ext_from]
  exact h1
theorem Runs2.ltB {a b : Array Keyed} (r : Runs2 κ P a b) {ia ib : Nat} (ha : ia < a.size) (hb : ib < b.size) (hlt : κ b[ib] < κ a[ia]) : ∀ y ∈ a.toList.drop ia, κ b[ib] < κ y :=
  lt_drop r.sa (by simpa using ha) (by simpa using hlt)
theorem Runs2.ltA {a b : Array Keyed} (r : Runs2 κ P a b) {ia ib : Nat} (ha : ia < a.size) (hb : ib < b.size) (hlt : κ a[ia] < κ b[ib]) : ∀ y ∈ b.toList.drop ib, κ a[ia] < κ y :=
  lt_drop r.sb (by simpa using hb) (by simpa using hlt)
theorem Runs2.tot {a b : Array Keyed} (r : Runs2 κ P a b) {ia ib : Nat} (ha : ia < a.size) (hb : ib < b.size) (hlt : ¬ κ b[ib] < κ a[ia]) : κ a[ia] < κ b[ib] := by
  have := r.ne a[ia] (by simp) b[ib] (by simp)
  lia
theorem mergeLo_S {st : SortSt} {a b : Array Keyed} {Q : Array Keyed → SortSt → Prop} (D : Dec prog w A s κ P) (hk : kindOf st = oneType') (r2 : Runs2 κ P a b) (hna : 1 ≤ a.size) (hnb : 1 ≤ b.size)
    (h : ∀ r g, Fin' κ a.toList b.toList r.toList → Q r (setG st g)) : wpS (model prog w) A E s (mergeLo' a b) Q st := by
  refine wpS_bind (wpS_lift (wpAny_rule ⟨rfl, ?_⟩))
  refine wpS_bind (elem_S (i := 0) (arr := b) (by lia) ?_)
  have hb0 : b[0]? = some b[0] := getElem?_pos b 0 (by lia)
  have m1 : Mg κ a.toList b.toList (#[b[0]] : Array Keyed).toList 0 1 := by
    have m0 : Mg κ a.toList b.toList [] 0 0 := ⟨by simp, by simp, fun _ hx => nomatch hx⟩
    exact m0.stepB r2.sb (by simpa using hb0) (by simpa using r2.first _ hb0)
  refine wpS_ite (fun e => ?_) (fun e => ?_)
  · exact wpS_pure (h _ (gallopOf st) (r2.out m1 (beq_iff_eq.mp e)))
  refine wpS_ite (fun e2 => ?_) (fun e2 => ?_)
  · have e' : 0 + 1 = a.size := beq_iff_eq.mp e2
    exact wpS_pure (h _ (gallopOf st) (r2.outL m1 e'))
  refine wpS_bind (wpS_get ?_)
  have hbs : 1 < b.size := by have : ¬ 1 = b.size := fun q => e (beq_iff_eq.mpr q); lia
  have has : 1 < a.size := by have : ¬ 0 + 1 = a.size := fun q => e2 (beq_iff_eq.mpr q); lia
  refine wpS_bind (wpS_mono (wpS_forRange (I := LoO κ a b st)
    (Q := LoE κ a b st) ?step ?fin ⟨_, _, _, _, gallopOf st, m1, by lia, by lia, by lia⟩) ?post)
  case post =>
    rintro c st' ⟨r, rest, g, hf⟩
    exact wpS_pure (h r g hf)
  case fin =>
    rintro c st' ⟨out, ia, ib, mg, g, hm, h1, h2, h3⟩
    lia
  case step =>
    rintro t c _ _ ht ⟨out, ia, ib, mg, g, hm, h1, h2, h3⟩
    refine wpS_bind (wpS_mono (wpS_forRange (I := Lo1 κ a b (setG st g) (ia + ib))
      (Q := Lo1Q κ a b (setG st g) (ia + ib)) ?step1 ?fin1 ⟨out, ia, ib, 0, 0, hm, h1, h2, by lia⟩) ?post1)
    case fin1 =>
      rintro c st' ⟨out, ia', ib', ac, bc, hm', g1, g2, g3⟩
      exact (Lo1Q.on out ia' ib' ac bc hm' g1 g2 (by lia))
    case step1 =>
      rintro t' c _ _ _ ⟨out, ia', ib', ac, bc, hm', g1, g2, g3⟩
      have g1' : ia' < a.size := by lia
      refine wpS_bind (elem_S g2 ?_)
      refine wpS_bind (elem_S g1' ?_)
      refine wpS_bind (lt_S D (r2.pb.at g2) (r2.pa.at g1') hk ?_)
      have hbx : b.toList[ib']? = some b[ib'] := by simp [g2]
      have hax : a.toList[ia']? = some a[ia'] := by simp [g1']
      refine wpS_ite (fun hw => ?_) (fun hw => ?_)
      · have hw' := of_decide_eq_true hw
        have hm2 : Mg κ a.toList b.toList (out.push b[ib']).toList ia' (ib' + 1) := by
          rw [Array.toList_push]
          exact hm'.stepB r2.sb hbx (r2.ltB g1' g2 hw')
        refine wpS_bind (elem_S g2 ?_)
        refine wpS_ite (fun e3 => ?_) (fun e3 => ?_)
        · exact wpS_pure (Lo1Q.out _ _ (r2.out hm2 (beq_iff_eq.mp e3)))
        · have hne : ib' + 1 < b.size := by have : ¬ ib' + 1 = b.size := fun q => e3 (beq_iff_eq.mpr q); lia
          refine wpS_ite (fun _ => ?_) (fun _ => ?_)
          · exact wpS_pure (Lo1Q.on _ _ _ _ _ hm2 g1 hne (show ia + ib + 1 ≤ ia' + (ib' + 1) by lia))
          · exact wpS_pure ⟨_, _, _, _, _, hm2, g1, hne, (show ia + ib + (t' + 1) ≤ ia' + (ib' + 1) by lia)⟩
      · have hw' := r2.tot g1' g2 (fun q => hw (decide_eq_true q))
        have hm2 : Mg κ a.toList b.toList (out.push a[ia']).toList (ia' + 1) ib' := by
          rw [Array.toList_push]
          exact hm'.stepA r2.sa hax (r2.ltA g1' g2 hw')
        refine wpS_bind (elem_S g1' ?_)
        refine wpS_ite (fun e3 => ?_) (fun e3 => ?_)
        · exact wpS_pure (Lo1Q.out _ _ (r2.outL hm2 (beq_iff_eq.mp e3)))
        · have hne : ia' + 1 + 1 < a.size := by have : ¬ ia' + 1 + 1 = a.size := fun q => e3 (beq_iff_eq.mpr q); lia
          refine wpS_ite (fun _ => ?_) (fun _ => ?_)
          · exact wpS_pure (Lo1Q.on _ _ _ _ _ hm2 hne g2 (show ia + ib + 1 ≤ ia' + 1 + ib' by lia))
          · exact wpS_pure ⟨_, _, _, _, _, hm2, hne, g2, (show ia + ib + (t' + 1) ≤ ia' + 1 + ib' by lia)⟩
    case post1 =>
      rintro c st' (⟨r, rest, hf⟩ | ⟨out1, ia1, ib1, ac1, bc1, hm1, k1, k2, k3⟩)
      · exact wpS_pure ⟨_, _, g, hf⟩
      refine wpS_bind (wpS_lift (wpAny_rule ⟨rfl, ?_⟩))
      refine wpS_bind (wpS_mono (wpS_forRange (I := fun _ => Lo2 κ a b st (ia + ib))
        (Q := Lo2Q κ a b st (ia + ib)) ?step2 ?fin2
        ⟨out1, ia1, ib1, _, ac1, bc1, g, hm1, k1, k2, k3⟩) ?post2)
      case fin2 =>
        rintro c st' ⟨out, ia', ib', mg', ac, bc, g', hm', g1, g2, g3⟩
        exact Lo2Q.on out ia' ib' mg' ac bc g' hm' g1 g2 g3
      case post2 =>
        rintro c st' (⟨r, rest, g', hf⟩ | ⟨out, ia', ib', mg', ac, bc, g', hm', g1, g2, g3⟩)
        · exact wpS_pure ⟨_, _, g', hf⟩
        · refine wpS_bind (wpS_modify (wpS_pure ⟨out, ia', ib', mg' + 1, mg' + 1, hm', g1, g2, (show t + 1 + 1 ≤ ia' + ib' by lia)⟩))
      case step2 =>
        rintro t' c _ _ _ ⟨out, ia', ib', mg', ac, bc, g', hm', g1, g2, g3⟩
        have g1' : ia' < a.size := by lia
        dsimp only
        revert mg'
        refine' all_jp ?H ?k
        case k =>
          intro mg' h1 h2
          refine wpS_ite (fun _ => ?_) (fun _ => h1)
          exact h2
        case H =>
          intro mgv
          refine wpS_bind (wpS_modify ?_)
          refine wpS_bind (elem_S g2 ?_)
          refine wpS_bind (gallop_S (base := ia') (n := a.size - ia') (hint := 0) (key := b[ib']) D r2.pa (r2.pb.at g2) hk (by lia) (by lia) (fun i hi => ?_) (up_of r2.sa _ _ (by lia)) (fun k k1 k2 k3 => ?_))
          · rw [kk_at (show ia' + i < a.size by lia)]
            exact r2.ne _ (by simp) _ (by simp)
          have hka : ia' + k < a.size := by
            rcases Nat.lt_or_ge (ia' + k) a.size with q | q
            · exact q
            · have q2 := k2 (a.size - 1 - ia') (by lia)
              have hz : a.size - 1 < a.size := by lia
              rw [show ia' + (a.size - 1 - ia') = a.size - 1 by lia, kk_at hz] at q2
              have q3 := r2.last _ (getElem?_pos a _ hz) b[ib'] (by simp)
              lia
          have hlX : κ b[ib'] < κ a[ia' + k] := by
            have q := k3 k (Nat.le_refl _) (by lia)
            rwa [kk_at hka] at q
          refine wpS_ite (fun hk0 => ?_) (fun hk0 => ?_)
          · have hmX : Mg κ a.toList b.toList (out ++ a.extract ia' (ia' + k)).toList (ia' + k) ib' := by
              rw [Array.toList_append, ext_mid]
              refine hm'.blockA r2.sa k (by simp; lia) (fun i x h1 h2 hx => ?_)
              have hi : i < a.size := by lia
              have q := k2 (i - ia') (by lia)
              rw [show ia' + (i - ia') = i by lia, kk_at hi] at q
              obtain rfl : a[i] = x := by simpa [hi] using hx
              exact r2.ltA hi g2 q
            refine wpS_ite (fun e1 => ?_) (fun e1 => ?_)
            · exact wpS_pure (Lo2Q.out _ _ _ (r2.outL hmX (beq_iff_eq.mp e1)))
            have hk9 : ia' + k + 1 < a.size := by have : ¬ ia' + k + 1 = a.size := fun q => e1 (beq_iff_eq.mpr q); lia
            refine wpS_ite (fun e2 => ?_) (fun e2 => ?_)
            · exact absurd (beq_iff_eq.mp e2) (by show ¬ ia' + k = a.size; lia)
            have hiaX : ia' + k < a.size := hka
            have hm3 : Mg κ a.toList b.toList ((out ++ a.extract ia' (ia' + k)).push b[ib']).toList ((ia' + k)) (ib' + 1) := by
              rw [Array.toList_push]
              exact hmX.stepB r2.sb (by simp [g2]) (r2.ltB hiaX g2 hlX)
            refine wpS_bind (elem_S g2 ?_)
            refine wpS_ite (fun e3 => ?_) (fun e3 => ?_)
            · exact wpS_pure (Lo2Q.out _ _ _ (r2.out hm3 (beq_iff_eq.mp e3)))
            have hb1 : ib' + 1 < b.size := by have : ¬ ib' + 1 = b.size := fun q => e3 (beq_iff_eq.mpr q); lia
            refine wpS_bind (elem_S hiaX ?_)
            refine wpS_bind (gallop_S (base := ib' + 1) (n := b.size - (ib' + 1)) (hint := 0) (key := a[(ia' + k)]'hiaX) D r2.pb (r2.pa.at hiaX) hk (by lia) (by lia) (fun i hi => ?_) (up_of r2.sb _ _ (by lia)) (fun k' l1 l2 l3 => ?_))
            · rw [kk_at (show ib' + 1 + i < b.size by lia)]
              exact fun q => r2.ne _ (by simp) _ (by simp) q.symm
            refine wpS_ite (fun hk' => ?_) (fun hk' => ?_)
            · have hm4 : Mg κ a.toList b.toList ((out ++ a.extract ia' (ia' + k)).push b[ib'] ++ b.extract (ib' + 1) (ib' + 1 + k')).toList ((ia' + k)) (ib' + 1 + k') := by
                rw [Array.toList_append, ext_mid]
                refine hm3.blockB r2.sb k' (by simp; lia) (fun i x h1 h2 hx => ?_)
                have hi : i < b.size := by lia
                have q := l2 (i - (ib' + 1)) (by lia)
                rw [show ib' + 1 + (i - (ib' + 1)) = i by lia, kk_at hi] at q
                obtain rfl : b[i] = x := by simpa [hi] using hx
                exact r2.ltB hiaX hi q
              refine wpS_ite (fun e5 => ?_) (fun e5 => ?_)
              · exact wpS_pure (Lo2Q.out _ _ _ (r2.out hm4 (beq_iff_eq.mp e5)))
              have hb2 : ib' + 1 + k' < b.size := by have : ¬ ib' + 1 + k' = b.size := fun q => e5 (beq_iff_eq.mpr q); lia
              have hl2 : κ (a[(ia' + k)]'hiaX) < κ b[ib' + 1 + k'] := by
                have q := l3 k' (Nat.le_refl _) (by lia)
                rwa [kk_at hb2] at q
              have hm5 : Mg κ a.toList b.toList (((out ++ a.extract ia' (ia' + k)).push b[ib'] ++ b.extract (ib' + 1) (ib' + 1 + k')).push (a[((ia' + k))]'hiaX)).toList (((ia' + k)) + 1) (ib' + 1 + k') := by
                rw [Array.toList_push]
                exact hm4.stepA r2.sa (by simp [hiaX]) (r2.ltA hiaX hb2 hl2)
              refine wpS_bind (elem_S hiaX ?_)
              refine wpS_ite (fun e6 => ?_) (fun e6 => ?_)
              · exact wpS_pure (Lo2Q.out _ _ _ (r2.outL hm5 (beq_iff_eq.mp e6)))
              have ha2 : ((ia' + k)) + 1 + 1 < a.size := by have : ¬ ((ia' + k)) + 1 + 1 = a.size := fun q => e6 (beq_iff_eq.mpr q); lia
              refine wpS_ite (fun _ => ?_) (fun _ => ?_)
              · exact wpS_pure (Lo2Q.on _ _ _ _ _ _ _ hm5 ha2 hb2 (show ia + ib + 1 ≤ ((ia' + k)) + 1 + ((ib' + 1 + k')) by lia))
              · exact wpS_pure ⟨_, _, _, _, _, _, _, hm5, ha2, hb2, (show ia + ib + 1 ≤ ((ia' + k)) + 1 + ((ib' + 1 + k')) by lia)⟩
            · have hk0 : k' = 0 := by lia
              have hl2 : κ (a[(ia' + k)]'hiaX) < κ b[ib' + 1] := by
                have q := l3 0 (by lia) (by lia)
                rwa [show ib' + 1 + 0 = ib' + 1 by lia, kk_at hb1] at q
              have hm5 : Mg κ a.toList b.toList (((out ++ a.extract ia' (ia' + k)).push b[ib']).push (a[((ia' + k))]'hiaX)).toList (((ia' + k)) + 1) (ib' + 1) := by
                rw [Array.toList_push]
                exact hm3.stepA r2.sa (by simp [hiaX]) (r2.ltA hiaX hb1 hl2)
              refine wpS_bind (elem_S hiaX ?_)
              refine wpS_ite (fun e6 => ?_) (fun e6 => ?_)
              · exact wpS_pure (Lo2Q.out _ _ _ (r2.outL hm5 (beq_iff_eq.mp e6)))
              have ha2 : ((ia' + k)) + 1 + 1 < a.size := by have : ¬ ((ia' + k)) + 1 + 1 = a.size := fun q => e6 (beq_iff_eq.mpr q); lia
              refine wpS_ite (fun _ => ?_) (fun _ => ?_)
              · exact wpS_pure (Lo2Q.on _ _ _ _ _ _ _ hm5 ha2 hb1 (show ia + ib + 1 ≤ ((ia' + k)) + 1 + ((ib' + 1)) by lia))
              · exact wpS_pure ⟨_, _, _, _, _, _, _, hm5, ha2, hb1, (show ia + ib + 1 ≤ ((ia' + k)) + 1 + ((ib' + 1)) by lia)⟩
          · obtain rfl : k = 0 := by lia
            have hiaX : ia' < a.size := g1'
            have hlX' : κ b[ib'] < κ a[ia'] := hlX
            have hm3 : Mg κ a.toList b.toList (out.push b[ib']).toList (ia') (ib' + 1) := by
              rw [Array.toList_push]
              exact hm'.stepB r2.sb (by simp [g2]) (r2.ltB hiaX g2 hlX')
            refine wpS_bind (elem_S g2 ?_)
            refine wpS_ite (fun e3 => ?_) (fun e3 => ?_)
            · exact wpS_pure (Lo2Q.out _ _ _ (r2.out hm3 (beq_iff_eq.mp e3)))
            have hb1 : ib' + 1 < b.size := by have : ¬ ib' + 1 = b.size := fun q => e3 (beq_iff_eq.mpr q); lia
            refine wpS_bind (elem_S hiaX ?_)
            refine wpS_bind (gallop_S (base := ib' + 1) (n := b.size - (ib' + 1)) (hint := 0) (key := a[ia']'hiaX) D r2.pb (r2.pa.at hiaX) hk (by lia) (by lia) (fun i hi => ?_) (up_of r2.sb _ _ (by lia)) (fun k' l1 l2 l3 => ?_))
            · rw [kk_at (show ib' + 1 + i < b.size by lia)]
              exact fun q => r2.ne _ (by simp) _ (by simp) q.symm
            refine wpS_ite (fun hk' => ?_) (fun hk' => ?_)
            · have hm4 : Mg κ a.toList b.toList (out.push b[ib'] ++ b.extract (ib' + 1) (ib' + 1 + k')).toList (ia') (ib' + 1 + k') := by
                rw [Array.toList_append, ext_mid]
                refine hm3.blockB r2.sb k' (by simp; lia) (fun i x h1 h2 hx => ?_)
                have hi : i < b.size := by lia
                have q := l2 (i - (ib' + 1)) (by lia)
                rw [show ib' + 1 + (i - (ib' + 1)) = i by lia, kk_at hi] at q
                obtain rfl : b[i] = x := by simpa [hi] using hx
                exact r2.ltB hiaX hi q
              refine wpS_ite (fun e5 => ?_) (fun e5 => ?_)
              · exact wpS_pure (Lo2Q.out _ _ _ (r2.out hm4 (beq_iff_eq.mp e5)))
              have hb2 : ib' + 1 + k' < b.size := by have : ¬ ib' + 1 + k' = b.size := fun q => e5 (beq_iff_eq.mpr q); lia
              have hl2 : κ (a[ia']'hiaX) < κ b[ib' + 1 + k'] := by
                have q := l3 k' (Nat.le_refl _) (by lia)
                rwa [kk_at hb2] at q
              have hm5 : Mg κ a.toList b.toList ((out.push b[ib'] ++ b.extract (ib' + 1) (ib' + 1 + k')).push (a[(ia')]'hiaX)).toList ((ia') + 1) (ib' + 1 + k') := by
                rw [Array.toList_push]
                exact hm4.stepA r2.sa (by simp [hiaX]) (r2.ltA hiaX hb2 hl2)
              refine wpS_bind (elem_S hiaX ?_)
              refine wpS_ite (fun e6 => ?_) (fun e6 => ?_)
              · exact wpS_pure (Lo2Q.out _ _ _ (r2.outL hm5 (beq_iff_eq.mp e6)))
              have ha2 : (ia') + 1 + 1 < a.size := by have : ¬ (ia') + 1 + 1 = a.size := fun q => e6 (beq_iff_eq.mpr q); lia
              refine wpS_ite (fun _ => ?_) (fun _ => ?_)
              · exact wpS_pure (Lo2Q.on _ _ _ _ _ _ _ hm5 ha2 hb2 (show ia + ib + 1 ≤ (ia') + 1 + ((ib' + 1 + k')) by lia))
              · exact wpS_pure ⟨_, _, _, _, _, _, _, hm5, ha2, hb2, (show ia + ib + 1 ≤ (ia') + 1 + ((ib' + 1 + k')) by lia)⟩
            · have hk0 : k' = 0 := by lia
              have hl2 : κ (a[ia']'hiaX) < κ b[ib' + 1] := by
                have q := l3 0 (by lia) (by lia)
                rwa [show ib' + 1 + 0 = ib' + 1 by lia, kk_at hb1] at q
              have hm5 : Mg κ a.toList b.toList ((out.push b[ib']).push (a[(ia')]'hiaX)).toList ((ia') + 1) (ib' + 1) := by
                rw [Array.toList_push]
                exact hm3.stepA r2.sa (by simp [hiaX]) (r2.ltA hiaX hb1 hl2)
              refine wpS_bind (elem_S hiaX ?_)
              refine wpS_ite (fun e6 => ?_) (fun e6 => ?_)
              · exact wpS_pure (Lo2Q.out _ _ _ (r2.outL hm5 (beq_iff_eq.mp e6)))
              have ha2 : (ia') + 1 + 1 < a.size := by have : ¬ (ia') + 1 + 1 = a.size := fun q => e6 (beq_iff_eq.mpr q); lia
              refine wpS_ite (fun _ => ?_) (fun _ => ?_)
              · exact wpS_pure (Lo2Q.on _ _ _ _ _ _ _ hm5 ha2 hb1 (show ia + ib + 1 ≤ (ia') + 1 + ((ib' + 1)) by lia))
              · exact wpS_pure ⟨_, _, _, _, _, _, _, hm5, ha2, hb1, (show ia + ib + 1 ≤ (ia') + 1 + ((ib' + 1)) by lia)⟩
end
end Mcu
namespace Mcu
section
variable {α : Type} {κ : α → Nat}
/-- two sorted lists that are being merged from behind -/
def Mh (κ : α → Nat) (la lb ro : List α) (na nb : Nat) : Prop :=
  ro.Perm (la.drop na ++ lb.drop nb) ∧ (ro.map κ).Pairwise (· < ·) ∧ ∀ x ∈ ro, ∀ y ∈ la.take na ++ lb.take nb, κ y < κ x
theorem pw_take {l : List α} (h : (l.map κ).Pairwise (· < ·)) (i : Nat) : ((l.take i).map κ).Pairwise (· < ·) := by
  rw [List.map_take]; exact h.sublist (List.take_sublist _ _)
theorem Mh.swap {la lb ro : List α} {na nb : Nat} (h : Mh κ la lb ro na nb) : Mh κ lb la ro nb na :=
  ⟨h.1.trans List.perm_append_comm, h.2.1, fun x hx y hy => h.2.2 x hx y ((List.mem_append.mp hy).elim (List.mem_append_right _) (List.mem_append_left _))⟩
theorem Mh.done {la lb ro : List α} {nb : Nat} (h : Mh κ la lb ro 0 nb) (hb : (lb.map κ).Pairwise (· < ·)) : Fin' κ la lb (lb.take nb ++ ro) := by
  obtain ⟨h1, h2, h3⟩ := h
  rw [List.drop_zero] at h1
  refine ⟨?_, pw_append.mpr ⟨pw_take hb nb, h2, fun x hx y hy => h3 y hy x (List.mem_append_right _ hx)⟩⟩
  refine (h1.append_left (lb.take nb)).trans ?_
  rw [← List.append_assoc]
  refine (List.Perm.append_right _ List.perm_append_comm).trans ?_
  rw [List.append_assoc, List.take_append_drop]
theorem Mh.both {la lb ro : List α} {na nb : Nat} (h : Mh κ la lb ro na nb) (ha : (la.map κ).Pairwise (· < ·)) (hb : (lb.map κ).Pairwise (· < ·)) (hlt : ∀ x ∈ lb.take nb, ∀ y ∈ la.take na, κ x < κ y) :
    Fin' κ la lb (lb.take nb ++ la.take na ++ ro) := by
  obtain ⟨h1, h2, h3⟩ := h
  refine ⟨?_, pw_append.mpr ⟨pw_append.mpr ⟨pw_take hb nb, pw_take ha na, hlt⟩, h2, fun x hx y hy => ?_⟩⟩
  · refine (h1.append_left _).trans ?_
    rw [List.append_assoc, ← List.append_assoc (la.take na), List.take_append_drop]
    refine (List.perm_append_comm).trans ?_
    rw [List.append_assoc]
    refine List.Perm.append_left _ (List.perm_append_comm.trans ?_)
    rw [List.take_append_drop]
  · rcases List.mem_append.mp hx with hx | hx
    · exact h3 y hy x (List.mem_append_right _ hx)
    · exact h3 y hy x (List.mem_append_left _ hx)
theorem Mh.stepA {la lb ro : List α} {i nb : Nat} {x : α} (h : Mh κ la lb ro (i + 1) nb) (ha : (la.map κ).Pairwise (· < ·)) (hx : la[i]? = some x) (hlt : ∀ y ∈ lb.take nb, κ y < κ x) : Mh κ la lb (x :: ro) i nb := by
  obtain ⟨h1, h2, h3⟩ := h
  have hlen : i < la.length := (List.getElem?_eq_some_iff.mp hx).1
  have hd : la.drop i = x :: la.drop (i + 1) := by
    rw [List.drop_eq_getElem_cons hlen]
    congr 1
    exact (List.getElem?_eq_some_iff.mp hx).2
  have ht : la.take (i + 1) = la.take i ++ [x] := by rw [List.take_add_one, hx]; rfl
  have hs := pw_take ha (i + 1)
  rw [ht] at hs
  obtain ⟨-, -, hs⟩ := pw_append.mp hs
  refine ⟨?_, ?_, fun y hy z hz => ?_⟩
  · rw [hd]; exact h1.cons x
  · rw [List.map_cons, List.pairwise_cons]
    refine ⟨fun y hy => ?_, h2⟩
    obtain ⟨z, hz, rfl⟩ := List.mem_map.mp hy
    exact h3 z hz x (List.mem_append_left _ (ht ▸ List.mem_append_right _ (List.mem_singleton.mpr rfl)))
  · rcases List.mem_cons.mp hy with rfl | hy
    · rcases List.mem_append.mp hz with hz | hz
      · exact hs z hz y (List.mem_singleton.mpr rfl)
      · exact hlt z hz
    · refine h3 y hy z ?_
      rcases List.mem_append.mp hz with hz | hz
      · exact List.mem_append_left _ (ht ▸ List.mem_append_left _ hz)
      · exact List.mem_append_right _ hz
theorem Mh.stepB {la lb ro : List α} {na i : Nat} {x : α} (h : Mh κ la lb ro na (i + 1)) (hb : (lb.map κ).Pairwise (· < ·)) (hx : lb[i]? = some x) (hlt : ∀ y ∈ la.take na, κ y < κ x) : Mh κ la lb (x :: ro) na i :=
  (h.swap.stepA hb hx hlt).swap
theorem Mh.blockA {la lb : List α} {nb i : Nat} (ha : (la.map κ).Pairwise (· < ·)) : ∀ (k : Nat) {ro : List α}, Mh κ la lb ro (i + k) nb → i + k ≤ la.length → (∀ j x, i ≤ j → j < i + k → la[j]? = some x → ∀ y ∈ lb.take nb, κ y < κ x) →
    Mh κ la lb ((la.drop i).take k ++ ro) i nb
  | 0, ro, h, _, _ => by simpa using h
  | k + 1, ro, h, hk, hlt => by
    have hia : i + k < la.length := by lia
    have hx : la[i + k]? = some la[i + k] := List.getElem?_eq_getElem hia
    have h1 := Mh.stepA (i := i + k) h ha hx (hlt (i + k) _ (by lia) (by lia) hx)
    have h2 := Mh.blockA ha k h1 (by lia) fun j x h1 h2 hx => hlt j x h1 (by lia) hx
    rw [List.take_add_one, List.getElem?_drop, hx, List.append_assoc]
    exact h2
theorem Mh.blockB {la lb : List α} {na i : Nat} (hb : (lb.map κ).Pairwise (· < ·)) (k : Nat) {ro : List α} (h : Mh κ la lb ro na (i + k)) (hk : i + k ≤ lb.length) (hlt : ∀ j x, i ≤ j → j < i + k → lb[j]? = some x → ∀ y ∈ la.take na, κ y < κ x) :
    Mh κ la lb ((lb.drop i).take k ++ ro) na i := (Mh.blockA hb k h.swap hk hlt).swap
theorem lt_take {l : List α} (h : (l.map κ).Pairwise (· < ·)) {i z : Nat} (hz : i < l.length) (hlt : κ l[i] < z) : ∀ y ∈ l.take (i + 1), κ y < z := by
  intro y hy
  have ht : l.take (i + 1) = l.take i ++ [l[i]] := by rw [List.take_add_one, List.getElem?_eq_getElem hz]; rfl
  have hs := pw_take h (i + 1)
  rw [ht] at hs hy
  obtain ⟨-, -, hs⟩ := pw_append.mp hs
  rcases List.mem_append.mp hy with hy | hy
  · exact Nat.lt_trans (hs y hy _ (List.mem_singleton.mpr rfl)) hlt
  · rw [List.mem_singleton.mp hy]; exact hlt
end
end Mcu
namespace Mcu
def mergeHi' : Array Keyed → Array Keyed → StateT SortSt Sem (Array Keyed) := sortPriv% PySem.Builtin.mergeHi
theorem ext_to {α : Type} (xs : Array α) (i : Nat) : (xs.extract 0 i).toList = xs.toList.take i := by
  rw [Array.toList_extract, List.extract_eq_take_drop]
  simp
inductive HiO (κ : Keyed → Nat) (a b : Array Keyed) (st : SortSt) (t : Nat) : OA × Nat × Nat × Array Keyed × Nat → SortSt → Prop
  | mk (out : Array Keyed) (na nb mg g : Nat) (hm : Mh κ a.toList b.toList out.toList.reverse na nb) (h1 : 1 ≤ na) (h2 : na < a.size) (h3 : 2 ≤ nb) (h4 : nb ≤ b.size) (h5 : t + 1 + na + nb ≤ a.size + b.size) : HiO κ a b st t (none, na, nb, out, mg) (setG st g)
inductive HiE (κ : Keyed → Nat) (a b : Array Keyed) (st : SortSt) : OA × Nat × Nat × Array Keyed × Nat → SortSt → Prop
  | mk (r : Array Keyed) (rest : Nat × Nat × Array Keyed × Nat) (g : Nat) (hf : Fin' κ a.toList b.toList r.toList) : HiE κ a b st (some r, rest) (setG st g)
inductive Hi1 (κ : Keyed → Nat) (a b : Array Keyed) (st : SortSt) (L t : Nat) : OA × Nat × Nat × Array Keyed × Nat × Nat → SortSt → Prop
  | mk (out : Array Keyed) (na nb ac bc : Nat) (hm : Mh κ a.toList b.toList out.toList.reverse na nb) (h1 : 1 ≤ na) (h2 : na < a.size) (h3 : 2 ≤ nb) (h4 : nb ≤ b.size) (h5 : na + nb + t ≤ L) : Hi1 κ a b st L t (none, na, nb, out, ac, bc) st
inductive Hi1Q (κ : Keyed → Nat) (a b : Array Keyed) (st : SortSt) (L : Nat) : OA × Nat × Nat × Array Keyed × Nat × Nat → SortSt → Prop
  | out (r : Array Keyed) (rest : Nat × Nat × Array Keyed × Nat × Nat) (hf : Fin' κ a.toList b.toList r.toList) : Hi1Q κ a b st L (some r, rest) st
  | on (out : Array Keyed) (na nb ac bc : Nat) (hm : Mh κ a.toList b.toList out.toList.reverse na nb) (h1 : 1 ≤ na) (h2 : na < a.size) (h3 : 2 ≤ nb) (h4 : nb ≤ b.size) (h5 : na + nb + 1 ≤ L) : Hi1Q κ a b st L (none, na, nb, out, ac, bc) st
inductive Hi2 (κ : Keyed → Nat) (a b : Array Keyed) (st : SortSt) (L : Nat) : OA × Nat × Nat × Array Keyed × Nat × Nat × Nat → SortSt → Prop
  | mk (out : Array Keyed) (na nb mg ac bc g : Nat) (hm : Mh κ a.toList b.toList out.toList.reverse na nb) (h1 : 1 ≤ na) (h2 : na < a.size) (h3 : 2 ≤ nb) (h4 : nb ≤ b.size) (h5 : na + nb + 1 ≤ L) : Hi2 κ a b st L (none, na, nb, out, mg, ac, bc) (setG st g)
inductive Hi2Q (κ : Keyed → Nat) (a b : Array Keyed) (st : SortSt) (L : Nat) : OA × Nat × Nat × Array Keyed × Nat × Nat × Nat → SortSt → Prop
  | out (r : Array Keyed) (rest : Nat × Nat × Array Keyed × Nat × Nat × Nat) (g : Nat) (hf : Fin' κ a.toList b.toList r.toList) : Hi2Q κ a b st L (some r, rest) (setG st g)
  | on (out : Array Keyed) (na nb mg ac bc g : Nat) (hm : Mh κ a.toList b.toList out.toList.reverse na nb) (h1 : 1 ≤ na) (h2 : na < a.size) (h3 : 2 ≤ nb) (h4 : nb ≤ b.size) (h5 : na + nb + 1 ≤ L) : Hi2Q κ a b st L (none, na, nb, out, mg, ac, bc) (setG st g)
section
variable {prog : Program} {w : World} {A : Around} {E : Value → Shared → Prop} {s : Shared} {κ : Keyed → Nat} {P : Keyed → Prop}
theorem Runs2.ho {a b : Array Keyed} {out : Array Keyed} {na nb : Nat} (r : Runs2 κ P a b) (h : Mh κ a.toList b.toList out.toList.reverse na nb) (hna : na = 0) : Fin' κ a.toList b.toList (a.extract 0 na ++ b.extract 0 nb ++ out.reverse).toList := by
  subst hna
  have h1 := Mh.done h r.sb
  rw [Array.toList_append, Array.toList_append, ext_to, ext_to, Array.toList_reverse, List.take_zero, List.nil_append]
  exact h1
theorem Runs2.hf {a b : Array Keyed} {out : Array Keyed} {na nb : Nat} (r : Runs2 κ P a b) (h : Mh κ a.toList b.toList out.toList.reverse na nb) (hnb : nb = 1) (hb : 1 ≤ b.size) : Fin' κ a.toList b.toList (b.extract 0 nb ++ a.extract 0 na ++ out.reverse).toList := by
  subst hnb
  have hl : b[0]? = some b[0] := getElem?_pos b _ (by lia)
  have h1 := h.both r.sa r.sb (fun x hx y hy => by
    have hd : b.toList.take 1 = [b[0]] := by
      rw [List.take_add_one]
      simp [hl]
    rw [hd] at hx
    obtain rfl := List.mem_singleton.mp hx
    exact r.first _ hl y (List.mem_of_mem_take hy))
  rw [Array.toList_append, Array.toList_append, ext_to, ext_to, Array.toList_reverse]
  exact h1
theorem Runs2.gtB {a b : Array Keyed} (r : Runs2 κ P a b) {ia ib : Nat} (ha : ia < a.size) (hb : ib < b.size) (hlt : κ a[ia] < κ b[ib]) : ∀ y ∈ a.toList.take (ia + 1), κ y < κ b[ib] :=
  lt_take r.sa (by simpa using ha) (by simpa using hlt)
theorem Runs2.gtA {a b : Array Keyed} (r : Runs2 κ P a b) {ia ib : Nat} (ha : ia < a.size) (hb : ib < b.size) (hlt : κ b[ib] < κ a[ia]) : ∀ y ∈ b.toList.take (ib + 1), κ y < κ a[ia] :=
  lt_take r.sb (by simpa using hb) (by simpa using hlt)
theorem mergeHi_S {st : SortSt} {a b : Array Keyed} {Q : Array Keyed → SortSt → Prop} (D : Dec prog w A s κ P) (hk : kindOf st = oneType') (r2 : Runs2 κ P a b) (hna : 1 ≤ a.size) (hnb : 1 ≤ b.size)
    (h : ∀ r g, Fin' κ a.toList b.toList r.toList → Q r (setG st g)) : wpS (model prog w) A E s (mergeHi' a b) Q st := by
  refine wpS_bind (wpS_lift (wpAny_rule ⟨rfl, ?_⟩))
  have hz : a.size - 1 < a.size := by lia
  refine wpS_bind (elem_S (i := a.size - 1) (arr := a) hz ?_)
  have m1 : Mh κ a.toList b.toList (#[a[a.size - 1]] : Array Keyed).toList.reverse (a.size - 1) b.size := by
    have m0 : Mh κ a.toList b.toList [] (a.size - 1 + 1) b.size := ⟨by rw [List.drop_of_length_le (by simp; lia), List.drop_of_length_le (by simp)]; simp, by simp, fun _ hx => nomatch hx⟩
    exact m0.stepA r2.sa (by simp [hz]) (fun y hy => r2.last _ (getElem?_pos a _ hz) y (List.mem_of_mem_take hy))
  refine wpS_ite (fun e => ?_) (fun e => ?_)
  · exact wpS_pure (h _ (gallopOf st) (r2.ho m1 (beq_iff_eq.mp e)))
  refine wpS_ite (fun e2 => ?_) (fun e2 => ?_)
  · exact wpS_pure (h _ (gallopOf st) (r2.hf m1 (beq_iff_eq.mp e2) hnb))
  refine wpS_bind (wpS_get ?_)
  have has : 1 ≤ a.size - 1 := by have : ¬ a.size - 1 = 0 := fun q => e (beq_iff_eq.mpr q); lia
  have hbs : 2 ≤ b.size := by have : ¬ b.size = 1 := fun q => e2 (beq_iff_eq.mpr q); lia
  refine wpS_bind (wpS_mono (wpS_forRange (I := HiO κ a b st)
    (Q := HiE κ a b st) ?step ?fin ⟨_, _, _, _, gallopOf st, m1, has, hz, hbs, Nat.le_refl _, by lia⟩) ?post)
  case post =>
    rintro c st' ⟨r, rest, g, hf⟩
    exact wpS_pure (h r g hf)
  case fin =>
    rintro c st' ⟨out, na, nb, mg, g, hm, h1, h2, h3, h4, h5⟩
    lia
  case step =>
    rintro t c _ _ ht ⟨out, na, nb, mg, g, hm, h1, h2, h3, h4, h5⟩
    refine wpS_bind (wpS_mono (wpS_forRange (I := Hi1 κ a b (setG st g) (na + nb))
      (Q := Hi1Q κ a b (setG st g) (na + nb)) ?step1 ?fin1 ⟨out, na, nb, 0, 0, hm, h1, h2, h3, h4, by lia⟩) ?post1)
    case fin1 =>
      rintro c st' ⟨out, na', nb', ac, bc, hm', g1, g2, g3, g4, g5⟩
      exact (Hi1Q.on out na' nb' ac bc hm' g1 g2 g3 g4 (by lia))
    case step1 =>
      rintro t' c _ _ _ ⟨out, na', nb', ac, bc, hm', g1, g2, g3, g4, g5⟩
      obtain ⟨x, rfl⟩ : ∃ x, na' = x + 1 := ⟨na' - 1, by lia⟩
      obtain ⟨y, rfl⟩ : ∃ y, nb' = y + 1 := ⟨nb' - 1, by lia⟩
      have hx : x < a.size := by lia
      have hy : y < b.size := by lia
      refine wpS_bind (elem_S (i := y) hy ?_)
      refine wpS_bind (elem_S (i := x) hx ?_)
      refine wpS_bind (lt_S D (r2.pb.at hy) (r2.pa.at hx) hk ?_)
      refine wpS_ite (fun hw => ?_) (fun hw => ?_)
      · have hw' := of_decide_eq_true hw
        have hm2 : Mh κ a.toList b.toList (out.push a[x]).toList.reverse x (y + 1) := by
          rw [Array.toList_push, List.reverse_append]
          exact hm'.stepA r2.sa (by simp [hx]) (r2.gtA hx hy hw')
        refine wpS_bind (elem_S (i := x) hx ?_)
        refine wpS_ite (fun e3 => ?_) (fun e3 => ?_)
        · exact wpS_pure (Hi1Q.out _ _ (r2.ho hm2 (beq_iff_eq.mp e3)))
        · have hne : 1 ≤ x := by have : ¬ x = 0 := fun q => e3 (beq_iff_eq.mpr q); lia
          refine wpS_ite (fun _ => ?_) (fun _ => ?_)
          · exact wpS_pure (Hi1Q.on _ _ _ _ _ hm2 hne hx g3 g4 (show x + (y + 1) + 1 ≤ na + nb by lia))
          · exact wpS_pure ⟨_, _, _, _, _, hm2, hne, hx, g3, g4, (show x + (y + 1) + (t' + 1) ≤ na + nb by lia)⟩
      · have hw' := r2.tot hx hy (fun q => hw (decide_eq_true q))
        have hm2 : Mh κ a.toList b.toList (out.push b[y]).toList.reverse (x + 1) y := by
          rw [Array.toList_push, List.reverse_append]
          exact hm'.stepB r2.sb (by simp [hy]) (r2.gtB hx hy hw')
        refine wpS_bind (elem_S (i := y) hy ?_)
        refine wpS_ite (fun e3 => ?_) (fun e3 => ?_)
        · exact wpS_pure (Hi1Q.out _ _ (r2.hf hm2 (beq_iff_eq.mp e3) hnb))
        · have hne : 2 ≤ y := by have : ¬ y = 1 := fun q => e3 (beq_iff_eq.mpr q); lia
          refine wpS_ite (fun _ => ?_) (fun _ => ?_)
          · exact wpS_pure (Hi1Q.on _ _ _ _ _ hm2 g1 g2 hne (show y ≤ b.size by lia) (show x + 1 + y + 1 ≤ na + nb by lia))
          · exact wpS_pure ⟨_, _, _, _, _, hm2, g1, g2, hne, (show y ≤ b.size by lia), (show x + 1 + y + (t' + 1) ≤ na + nb by lia)⟩
    case post1 =>
      rintro c st' (⟨r, rest, hf⟩ | ⟨out1, na1, nb1, ac1, bc1, hm1, k1, k2, k3, k4, k5⟩)
      · exact wpS_pure ⟨_, _, g, hf⟩
      refine wpS_bind (wpS_lift (wpAny_rule ⟨rfl, ?_⟩))
      refine wpS_bind (wpS_mono (wpS_forRange (I := fun _ => Hi2 κ a b st (na + nb))
        (Q := Hi2Q κ a b st (na + nb)) ?step2 ?fin2
        ⟨out1, na1, nb1, _, ac1, bc1, g, hm1, k1, k2, k3, k4, k5⟩) ?post2)
      case fin2 =>
        rintro c st' ⟨out, na', nb', mg', ac, bc, g', hm', g1, g2, g3, g4, g5⟩
        exact Hi2Q.on out na' nb' mg' ac bc g' hm' g1 g2 g3 g4 g5
      case post2 =>
        rintro c st' (⟨r, rest, g', hf⟩ | ⟨out, na', nb', mg', ac, bc, g', hm', g1, g2, g3, g4, g5⟩)
        · exact wpS_pure ⟨_, _, g', hf⟩
        · refine wpS_bind (wpS_modify (wpS_pure ⟨out, na', nb', mg' + 1, mg' + 1, hm', g1, g2, g3, g4, (show t + 1 + 1 + na' + nb' ≤ a.size + b.size by lia)⟩))
      case step2 =>
        rintro t' c _ _ _ ⟨out, na', nb', mg', ac, bc, g', hm', g1, g2, g3, g4, g5⟩
        obtain ⟨y, rfl⟩ : ∃ y, nb' = y + 1 := ⟨nb' - 1, by lia⟩
        have hy : y < b.size := by lia
        dsimp only
        revert mg'
        refine' all_jp ?H ?k
        case k =>
          intro mg' h1 h2
          refine wpS_ite (fun _ => ?_) (fun _ => h1)
          exact h2
        case H =>
          intro mgv
          refine wpS_bind (wpS_modify ?_)
          refine wpS_bind (elem_S (i := y) hy ?_)
          refine wpS_bind (gallop_S (base := 0) (n := na') (hint := na' - 1) (key := b[y]) D r2.pa (r2.pb.at hy) hk (by lia) (by lia) (fun i hi => ?_) (up_of r2.sa _ _ (by lia)) (fun at0 k1 k2 k3 => ?_))
          · rw [kk_at (show 0 + i < a.size by lia)]
            exact r2.ne _ (by simp) _ (by simp)
          refine wpS_ite (fun hk0 => ?_) (fun hk0 => ?_)
          · have hmX : Mh κ a.toList b.toList (out ++ (a.extract at0 na').reverse).toList.reverse at0 (y + 1) := by
              have hext : a.extract at0 na' = a.extract at0 (at0 + (na' - at0)) := by congr 1; lia
              rw [Array.toList_append, List.reverse_append, Array.toList_reverse, List.reverse_reverse, hext, ext_mid]
              refine Mh.blockA r2.sa (na' - at0) (by rw [show at0 + (na' - at0) = na' by lia]; exact hm') (by simp; lia) (fun i z h1 h2 hz => ?_)
              have hi : i < a.size := by lia
              have q := k3 i h1 (by lia)
              rw [Nat.zero_add, kk_at hi] at q
              obtain rfl : a[i] = z := by simpa [hi] using hz
              exact r2.gtA hi hy q
            refine wpS_ite (fun e1 => ?_) (fun e1 => ?_)
            · exact wpS_pure (Hi2Q.out _ _ _ (r2.ho hmX (beq_iff_eq.mp e1)))
            have hat1 : 1 ≤ at0 := by have : ¬ at0 = 0 := fun q => e1 (beq_iff_eq.mpr q); lia
            obtain ⟨x, rfl⟩ : ∃ x, at0 = x + 1 := ⟨at0 - 1, by lia⟩
            have hx : x < a.size := by lia
            have hlX : ∀ z ∈ a.toList.take (x + 1), κ z < κ b[y] := r2.gtB hx hy (by have q := k2 x (by lia); rwa [Nat.zero_add, kk_at hx] at q)
            have hm3 : Mh κ a.toList b.toList ((out ++ (a.extract (x + 1) na').reverse).push b[y]).toList.reverse (x + 1) y := by
              rw [Array.toList_push, List.reverse_append]
              exact hmX.stepB r2.sb (by simp [hy]) hlX
            refine wpS_bind (elem_S (i := y) hy ?_)
            refine wpS_ite (fun e3 => ?_) (fun e3 => ?_)
            · exact wpS_pure (Hi2Q.out _ _ _ (r2.hf hm3 (beq_iff_eq.mp e3) hnb))
            have hy2 : 2 ≤ y := by have : ¬ y = 1 := fun q => e3 (beq_iff_eq.mpr q); lia
            refine wpS_bind (elem_S (i := x) hx ?_)
            refine wpS_bind (gallop_S (base := 0) (n := y) (hint := y - 1) (key := a[x]) D r2.pb (r2.pa.at hx) hk (by lia) (by lia) (fun i hi => ?_) (up_of r2.sb _ _ (by lia)) (fun at1 l1 l2 l3 => ?_))
            · rw [kk_at (show 0 + i < b.size by lia)]
              exact fun q => r2.ne _ (by simp) _ (by simp) q.symm
            have ha1 : 1 ≤ at1 := by
              rcases Nat.lt_or_ge 0 at1 with q | q
              · exact q
              · have q2 := l3 0 (by lia) (by lia)
                have hz0 : 0 + 0 < b.size := by lia
                rw [kk_at hz0] at q2
                have q3 := r2.first b[0 + 0] (by simp) a[x] (by simp)
                lia
            have hbelow : ∀ z ∈ b.toList.take at1, κ z < κ a[x] := by
              obtain ⟨v, rfl⟩ : ∃ v, at1 = v + 1 := ⟨at1 - 1, by lia⟩
              have hv : v < b.size := by lia
              refine r2.gtA hx hv ?_
              have q := l2 v (by lia)
              rwa [Nat.zero_add, kk_at hv] at q
            refine wpS_ite (fun hk' => ?_) (fun hk' => ?_)
            · have hm4 : Mh κ a.toList b.toList ((out ++ (a.extract (x + 1) na').reverse).push b[y] ++ (b.extract at1 y).reverse).toList.reverse (x + 1) at1 := by
                have hext : b.extract at1 y = b.extract at1 (at1 + (y - at1)) := by congr 1; lia
                rw [Array.toList_append, List.reverse_append, Array.toList_reverse, List.reverse_reverse, hext, ext_mid]
                refine Mh.blockB r2.sb (y - at1) (by rw [show at1 + (y - at1) = y by lia]; exact hm3) (by simp; lia) (fun i z h1 h2 hz => ?_)
                have hi : i < b.size := by lia
                have q := l3 i h1 (by lia)
                rw [Nat.zero_add, kk_at hi] at q
                obtain rfl : b[i] = z := by simpa [hi] using hz
                exact r2.gtB hx hi q
              refine wpS_ite (fun e5 => ?_) (fun e5 => ?_)
              · exact wpS_pure (Hi2Q.out _ _ _ (r2.hf hm4 (beq_iff_eq.mp e5) hnb))
              have hat2 : 2 ≤ at1 := by have : ¬ at1 = 1 := fun q => e5 (beq_iff_eq.mpr q); lia
              refine wpS_ite (fun e7 => ?_) (fun e7 => ?_)
              · exact absurd (beq_iff_eq.mp e7) (by show ¬ at1 = 0; lia)
              have hm5 : Mh κ a.toList b.toList (((out ++ (a.extract (x + 1) na').reverse).push b[y] ++ (b.extract at1 y).reverse).push a[x]).toList.reverse x (at1) := by
                rw [Array.toList_push, List.reverse_append]
                exact hm4.stepA r2.sa (by simp [hx]) hbelow
              refine wpS_bind (elem_S (i := x) hx ?_)
              refine wpS_ite (fun e6 => ?_) (fun e6 => ?_)
              · exact wpS_pure (Hi2Q.out _ _ _ (r2.ho hm5 (beq_iff_eq.mp e6)))
              have hx1 : 1 ≤ x := by have : ¬ x = 0 := fun q => e6 (beq_iff_eq.mpr q); lia
              refine wpS_ite (fun _ => ?_) (fun _ => ?_)
              · exact wpS_pure (Hi2Q.on _ _ _ _ _ _ _ hm5 hx1 hx (show 2 ≤ at1 by lia) (show at1 ≤ b.size by lia) (show x + (at1) + 1 ≤ na + nb by lia))
              · exact wpS_pure ⟨_, _, _, _, _, _, _, hm5, hx1, hx, (show 2 ≤ at1 by lia), (show at1 ≤ b.size by lia), (show x + (at1) + 1 ≤ na + nb by lia)⟩
            · have hk9 : ¬ y - at1 > 0 := hk'
              obtain rfl : at1 = y := by lia
              have hm5 : Mh κ a.toList b.toList (((out ++ (a.extract (x + 1) na').reverse).push b[at1]).push a[x]).toList.reverse x (at1) := by
                rw [Array.toList_push, List.reverse_append]
                exact hm3.stepA r2.sa (by simp [hx]) hbelow
              refine wpS_bind (elem_S (i := x) hx ?_)
              refine wpS_ite (fun e6 => ?_) (fun e6 => ?_)
              · exact wpS_pure (Hi2Q.out _ _ _ (r2.ho hm5 (beq_iff_eq.mp e6)))
              have hx1 : 1 ≤ x := by have : ¬ x = 0 := fun q => e6 (beq_iff_eq.mpr q); lia
              refine wpS_ite (fun _ => ?_) (fun _ => ?_)
              · exact wpS_pure (Hi2Q.on _ _ _ _ _ _ _ hm5 hx1 hx (show 2 ≤ at1 by lia) (show at1 ≤ b.size by lia) (show x + (at1) + 1 ≤ na + nb by lia))
              · exact wpS_pure ⟨_, _, _, _, _, _, _, hm5, hx1, hx, (show 2 ≤ at1 by lia), (show at1 ≤ b.size by lia), (show x + (at1) + 1 ≤ na + nb by lia)⟩
          · have hk9 : ¬ na' - at0 > 0 := hk0
            obtain rfl : at0 = na' := by lia
            obtain ⟨x, rfl⟩ : ∃ x, at0 = x + 1 := ⟨at0 - 1, by lia⟩
            have hx : x < a.size := by lia
            have hlX : ∀ z ∈ a.toList.take (x + 1), κ z < κ b[y] := r2.gtB hx hy (by have q := k2 x (by lia); rwa [Nat.zero_add, kk_at hx] at q)
            have hm3 : Mh κ a.toList b.toList (out.push b[y]).toList.reverse (x + 1) y := by
              rw [Array.toList_push, List.reverse_append]
              exact hm'.stepB r2.sb (by simp [hy]) hlX
            refine wpS_bind (elem_S (i := y) hy ?_)
            refine wpS_ite (fun e3 => ?_) (fun e3 => ?_)
            · exact wpS_pure (Hi2Q.out _ _ _ (r2.hf hm3 (beq_iff_eq.mp e3) hnb))
            have hy2 : 2 ≤ y := by have : ¬ y = 1 := fun q => e3 (beq_iff_eq.mpr q); lia
            refine wpS_bind (elem_S (i := x) hx ?_)
            refine wpS_bind (gallop_S (base := 0) (n := y) (hint := y - 1) (key := a[x]) D r2.pb (r2.pa.at hx) hk (by lia) (by lia) (fun i hi => ?_) (up_of r2.sb _ _ (by lia)) (fun at1 l1 l2 l3 => ?_))
            · rw [kk_at (show 0 + i < b.size by lia)]
              exact fun q => r2.ne _ (by simp) _ (by simp) q.symm
            have ha1 : 1 ≤ at1 := by
              rcases Nat.lt_or_ge 0 at1 with q | q
              · exact q
              · have q2 := l3 0 (by lia) (by lia)
                have hz0 : 0 + 0 < b.size := by lia
                rw [kk_at hz0] at q2
                have q3 := r2.first b[0 + 0] (by simp) a[x] (by simp)
                lia
            have hbelow : ∀ z ∈ b.toList.take at1, κ z < κ a[x] := by
              obtain ⟨v, rfl⟩ : ∃ v, at1 = v + 1 := ⟨at1 - 1, by lia⟩
              have hv : v < b.size := by lia
              refine r2.gtA hx hv ?_
              have q := l2 v (by lia)
              rwa [Nat.zero_add, kk_at hv] at q
            refine wpS_ite (fun hk' => ?_) (fun hk' => ?_)
            · have hm4 : Mh κ a.toList b.toList (out.push b[y] ++ (b.extract at1 y).reverse).toList.reverse (x + 1) at1 := by
                have hext : b.extract at1 y = b.extract at1 (at1 + (y - at1)) := by congr 1; lia
                rw [Array.toList_append, List.reverse_append, Array.toList_reverse, List.reverse_reverse, hext, ext_mid]
                refine Mh.blockB r2.sb (y - at1) (by rw [show at1 + (y - at1) = y by lia]; exact hm3) (by simp; lia) (fun i z h1 h2 hz => ?_)
                have hi : i < b.size := by lia
                have q := l3 i h1 (by lia)
                rw [Nat.zero_add, kk_at hi] at q
                obtain rfl : b[i] = z := by simpa [hi] using hz
                exact r2.gtB hx hi q
              refine wpS_ite (fun e5 => ?_) (fun e5 => ?_)
              · exact wpS_pure (Hi2Q.out _ _ _ (r2.hf hm4 (beq_iff_eq.mp e5) hnb))
              have hat2 : 2 ≤ at1 := by have : ¬ at1 = 1 := fun q => e5 (beq_iff_eq.mpr q); lia
              refine wpS_ite (fun e7 => ?_) (fun e7 => ?_)
              · exact absurd (beq_iff_eq.mp e7) (by show ¬ at1 = 0; lia)
              have hm5 : Mh κ a.toList b.toList ((out.push b[y] ++ (b.extract at1 y).reverse).push a[x]).toList.reverse x (at1) := by
                rw [Array.toList_push, List.reverse_append]
                exact hm4.stepA r2.sa (by simp [hx]) hbelow
              refine wpS_bind (elem_S (i := x) hx ?_)
              refine wpS_ite (fun e6 => ?_) (fun e6 => ?_)
              · exact wpS_pure (Hi2Q.out _ _ _ (r2.ho hm5 (beq_iff_eq.mp e6)))
              have hx1 : 1 ≤ x := by have : ¬ x = 0 := fun q => e6 (beq_iff_eq.mpr q); lia
              refine wpS_ite (fun _ => ?_) (fun _ => ?_)
              · exact wpS_pure (Hi2Q.on _ _ _ _ _ _ _ hm5 hx1 hx (show 2 ≤ at1 by lia) (show at1 ≤ b.size by lia) (show x + (at1) + 1 ≤ na + nb by lia))
              · exact wpS_pure ⟨_, _, _, _, _, _, _, hm5, hx1, hx, (show 2 ≤ at1 by lia), (show at1 ≤ b.size by lia), (show x + (at1) + 1 ≤ na + nb by lia)⟩
            · have hk9 : ¬ y - at1 > 0 := hk'
              obtain rfl : at1 = y := by lia
              have hm5 : Mh κ a.toList b.toList ((out.push b[at1]).push a[x]).toList.reverse x (at1) := by
                rw [Array.toList_push, List.reverse_append]
                exact hm3.stepA r2.sa (by simp [hx]) hbelow
              refine wpS_bind (elem_S (i := x) hx ?_)
              refine wpS_ite (fun e6 => ?_) (fun e6 => ?_)
              · exact wpS_pure (Hi2Q.out _ _ _ (r2.ho hm5 (beq_iff_eq.mp e6)))
              have hx1 : 1 ≤ x := by have : ¬ x = 0 := fun q => e6 (beq_iff_eq.mpr q); lia
              refine wpS_ite (fun _ => ?_) (fun _ => ?_)
              · exact wpS_pure (Hi2Q.on _ _ _ _ _ _ _ hm5 hx1 hx (show 2 ≤ at1 by lia) (show at1 ≤ b.size by lia) (show x + (at1) + 1 ≤ na + nb by lia))
              · exact wpS_pure ⟨_, _, _, _, _, _, _, hm5, hx1, hx, (show 2 ≤ at1 by lia), (show at1 ≤ b.size by lia), (show x + (at1) + 1 ≤ na + nb by lia)⟩
end
end Mcu
namespace Mcu
section
variable {α : Type} {κ : α → Nat}
/-- items laid into an array from a place on -/
theorem lay_from : ∀ (l : List α) (j : Nat) (xs : Array α) (sa : Nat), sa + j + l.length ≤ xs.size →
    ((l.zipIdx j).foldl (fun a p => a.setIfInBounds (sa + p.2) p.1) xs).toList = xs.toList.take (sa + j) ++ l ++ xs.toList.drop (sa + j + l.length)
  | [], j, xs, sa, _ => by simp
  | x :: l, j, xs, sa, h => by
    rw [List.zipIdx_cons, List.foldl_cons, lay_from l (j + 1) _ sa (by rw [Array.size_setIfInBounds]; simp at h; lia)]
    have hlt : sa + j < xs.size := by simp at h; lia
    rw [Array.toList_setIfInBounds]
    have e1 : (xs.toList.set (sa + j) x).take (sa + (j + 1)) = xs.toList.take (sa + j) ++ [x] := by
      rw [show sa + (j + 1) = sa + j + 1 by lia, List.take_add_one, List.take_set_of_le (Nat.le_refl _)]
      simp [hlt]
    have e2 : (xs.toList.set (sa + j) x).drop (sa + (j + 1) + l.length) = xs.toList.drop (sa + j + (x :: l).length) := by
      rw [List.drop_set_of_lt (by lia)]
      congr 1
      simp; lia
    rw [e1, e2]
    simp
/-- four parts: what two runs hold when they are trimmed -/
theorem four {A1 A2 B1 B2 mm : List α} (sA : ((A1 ++ A2).map κ).Pairwise (· < ·)) (sB : ((B1 ++ B2).map κ).Pairwise (· < ·)) (h1 : ∀ x ∈ A1, ∀ y ∈ B1 ++ B2, κ x < κ y) (h2 : ∀ x ∈ A2, ∀ y ∈ B2, κ x < κ y)
    (hm : Fin' κ A2 B1 mm) : Fin' κ (A1 ++ A2) (B1 ++ B2) (A1 ++ mm ++ B2) := by
  obtain ⟨a1, a2, a3⟩ := pw_append.mp sA
  obtain ⟨b1, b2, b3⟩ := pw_append.mp sB
  obtain ⟨p, s⟩ := hm
  refine ⟨?_, pw_append.mpr ⟨pw_append.mpr ⟨a1, s, fun x hx y hy => ?_⟩, b2, fun x hx y hy => ?_⟩⟩
  · refine ((List.Perm.append_left A1 p).append_right B2).trans ?_
    simp
  · rcases List.mem_append.mp (p.mem_iff.mp hy) with hy | hy
    · exact a3 x hx y hy
    · exact h1 x hx y (List.mem_append_left _ hy)
  · rcases List.mem_append.mp hx with hx | hx
    · exact h1 x hx y (List.mem_append_right _ hy)
    · rcases List.mem_append.mp (p.mem_iff.mp hx) with hx | hx
      · exact h2 x hx y hy
      · exact b3 x hx y hy
end
theorem pw_of_up {κ : Keyed → Nat} {xs : Array Keyed} {lo hi : Nat} (h : Up κ xs lo hi) (hh : hi ≤ xs.size) : ((xs.extract lo hi).toList.map κ).Pairwise (· < ·) := by
  rw [List.pairwise_iff_getElem]
  intro i j hi' hj' hij
  have hj2 : j < hi - lo := by
    have q : j < min (hi - lo) (xs.size - lo) := by simpa using hj'
    lia
  have := h (lo + i) (lo + j) (by lia) (by lia) (by lia)
  rw [kk_at (by lia), kk_at (by lia)] at this
  simpa using this
section
variable {prog : Program} {w : World} {A : Around} {E : Value → Shared → Prop} {s : Shared} {κ : Keyed → Nat} {P : Keyed → Prop}
theorem mem_ext {xs : Array Keyed} {lo hi : Nat} {x : Keyed} (h : x ∈ (xs.extract lo hi).toList) : ∃ i, ∃ h : i < xs.size, lo ≤ i ∧ i < hi ∧ x = xs[i] := by
  obtain ⟨i, hi', rfl⟩ := List.mem_iff_getElem.mp h
  have hj2 : i < min hi xs.size - lo := by
    have q := hi'
    simp at q
    lia
  exact ⟨lo + i, by lia, by lia, by lia, by simp⟩
theorem pend2 (n1 n2 pw q : Nat) : ((#[(0, n1, pw), (n1, n2, q)] : Array (Nat × Nat × Nat)).setIfInBounds 0 (0, n1 + n2, pw)).eraseIdxIfInBounds 1 = #[(0, n1 + n2, pw)] := by
  simp [Array.eraseIdxIfInBounds, Array.setIfInBounds]
theorem wpS_set {M : Model} {σ : Type} {x : σ} {Q : PUnit → σ → Prop} {st : σ} (h : Q ⟨⟩ x) : wpS M A E s (set x : StateT σ Sem PUnit) Q st := by
  unfold wpS
  rw [StateT.run_set]
  exact wpAny_pure ⟨rfl, h⟩
theorem mergeAt_S {st : SortSt} {n1 n2 pw q : Nat} {Q : Bool → SortSt → Prop} (D : Dec prog w A s κ P) (hP : AllP P (arrOf st)) (hA : Apart κ (arrOf st)) (hk : kindOf st = oneType') (hf : failedOf st = none) (hp : pendingOf st = #[(0, n1, pw), (n1, n2, q)])
    (h1 : 1 ≤ n1) (h2 : 1 ≤ n2) (hz : n1 + n2 = (arrOf st).size) (hu1 : Up κ (arrOf st) 0 n1) (hu2 : Up κ (arrOf st) n1 (n1 + n2))
    (h : ∀ st', (arrOf st').Perm (arrOf st) → ((arrOf st').toList.map κ).Pairwise (· < ·) → failedOf st' = none → pendingOf st' = #[(0, n1 + n2, pw)] → Q true st') : wpS (model prog w) A E s (mergeAt' 0) Q st := by
  obtain ⟨kd, xs, pd, g, fl⟩ := st
  change AllP P xs at hP
  change Apart κ xs at hA
  change kd = oneType' at hk
  change fl = none at hf
  change pd = _ at hp
  change n1 + n2 = xs.size at hz
  change Up κ xs 0 n1 at hu1
  change Up κ xs n1 (n1 + n2) at hu2
  replace h : ∀ st', (arrOf st').Perm xs → ((arrOf st').toList.map κ).Pairwise (· < ·) → failedOf st' = none → pendingOf st' = #[(0, n1 + n2, pw)] → Q true st' := h
  subst hp hf
  have hn1 : n1 < xs.size := by lia
  refine wpS_bind (wpS_get ?_)
  refine wpS_bind (wpS_set ?_)
  refine wpS_bind (elem_S hn1 ?_)
  refine wpS_bind (gallop_S (arr := xs) (base := 0) (n := n1) (hint := 0) (key := xs[n1]) D hP (hP.at hn1) hk (by lia) (by lia) (fun i hi => ?_) (by simpa using hu1) (fun k k1 k2 k3 => ?_))
  · rw [← kk_at (κ := κ) hn1]
    exact fun e => by have := hA.ne (i := 0 + i) (j := n1) (by lia) hn1 e; lia
  have sA : ((xs.extract 0 n1).toList.map κ).Pairwise (· < ·) := pw_of_up hu1 (by lia)
  have sB : ((xs.extract n1 (n1 + n2)).toList.map κ).Pairwise (· < ·) := pw_of_up hu2 (by lia)
  have eB : (xs.extract n1 (n1 + n2)).toList = xs.toList.drop n1 := by rw [hz]; exact ext_from xs n1
  rw [ext_to] at sA
  rw [eB] at sB
  have hall : xs.toList = xs.toList.take n1 ++ xs.toList.drop n1 := (List.take_append_drop n1 xs.toList).symm
  have hB1 : ∀ y ∈ xs.toList.drop n1, κ xs[n1] ≤ κ y := fun y hy => by
    rw [List.drop_eq_getElem_cons (by simpa using hn1)] at hy
    rcases List.mem_cons.mp hy with e | hy
    · rw [e]; simp
    · have q := sB
      rw [List.drop_eq_getElem_cons (by simpa using hn1), List.map_cons, List.pairwise_cons] at q
      have := q.1 _ (List.mem_map_of_mem hy)
      simp at this
      lia
  refine wpS_ite (fun e => ?_) (fun e => ?_)
  · have hk1 : k = n1 := by have := beq_iff_eq.mp e; lia
    refine wpS_pure (h _ (Array.Perm.refl _) ?_ rfl (pend2 ..))
    show (xs.toList.map κ).Pairwise (· < ·)
    rw [hall]
    refine pw_append.mpr ⟨sA, sB, fun x hx y hy => ?_⟩
    obtain ⟨i, hi, rfl⟩ := List.mem_iff_getElem.mp hx
    have hi1 : i < n1 := by have q : i < min n1 xs.size := by simpa using hi
                            lia
    have q := k2 i (by lia)
    rw [Nat.zero_add, kk_at (by lia)] at q
    have q2 := hB1 y hy
    simp
    lia
  have hkn : k < n1 := by have q : ¬ n1 - k = 0 := fun q => e (beq_iff_eq.mpr q)
                          lia
  have hl1 : n1 - 1 < xs.size := by lia
  have hl0 : 0 + k + (n1 - k) - 1 = n1 - 1 := by lia
  have hl2 : 0 + k + (n1 - k) - 1 < xs.size := by lia
  refine wpS_bind (elem_S hl2 ?_)
  refine wpS_bind (gallop_S (arr := xs) (base := n1) (n := n2) (hint := n2 - 1) (key := xs[0 + k + (n1 - k) - 1]) D hP (hP.at hl2) hk (by lia) (by lia) (fun i hi => ?_) hu2 (fun m m1 m2 m3 => ?_))
  · rw [← kk_at (κ := κ) hl2]
    exact fun e => by have := hA.ne (i := n1 + i) (j := 0 + k + (n1 - k) - 1) (by lia) hl2 e; lia
  have hm0 : 1 ≤ m := by
    rcases Nat.lt_or_ge 0 m with q | q
    · exact q
    · have q1 := m3 0 (by lia) (by lia)
      have q2 := k3 k (Nat.le_refl _) hkn
      rw [Nat.add_zero, kk_at hn1, ← kk_at (κ := κ) hl2, hl0] at q1
      rw [Nat.zero_add] at q2
      rcases Nat.lt_or_ge k (n1 - 1) with q3 | q3
      · have := hu1 k (n1 - 1) (Nat.zero_le _) q3 (by lia)
        lia
      · rw [show k = n1 - 1 by lia] at q2
        lia
  refine wpS_ite (fun e => absurd (beq_iff_eq.mp e) (by show ¬ m = 0; lia)) (fun _ => ?_)
  have hmz : n1 + m ≤ xs.size := by lia
  have sx : (xs.extract (0 + k) n1).size = n1 - k := by simp; lia
  have sy : (xs.extract n1 (n1 + m)).size = m := by simp; lia
  have r2 : Runs2 κ P (xs.extract (0 + k) n1) (xs.extract n1 (n1 + m)) := by
    refine ⟨fun x hx => ?_, fun x hx => ?_, pw_of_up (fun i j a b c => hu1 i j (by lia) b c) (by lia), pw_of_up (fun i j a b c => hu2 i j a b (by lia)) hmz, fun x hx y hy e => ?_, fun x hx y hy => ?_, fun x hx y hy => ?_⟩
    · obtain ⟨i, hi, -, -, rfl⟩ := mem_ext hx
      exact hP.at hi
    · obtain ⟨i, hi, -, -, rfl⟩ := mem_ext hx
      exact hP.at hi
    · obtain ⟨i, hi, -, q1, rfl⟩ := mem_ext hx
      obtain ⟨j, hj, q2, -, rfl⟩ := mem_ext hy
      have := hA.ne hi hj (by rw [kk_at hi, kk_at hj]; exact e)
      lia
    · have e : xs[n1] = x := by
        rw [Array.getElem?_extract] at hx
        simpa [show 0 < min (n1 + m) xs.size - n1 by lia, hn1] using hx
      subst e
      obtain ⟨j, hj, q1, q2, rfl⟩ := mem_ext hy
      have q := k3 j (by lia) q2
      rwa [Nat.zero_add, kk_at hj] at q
    · have e : xs[n1 - 1] = x := by
        rw [sx, Array.getElem?_extract, if_pos (by lia), show 0 + k + (n1 - k - 1) = n1 - 1 by lia, getElem?_pos xs (n1 - 1) hl1] at hx
        exact Option.some.inj hx
      subst e
      obtain ⟨j, hj, q1, q2, rfl⟩ := mem_ext hy
      have q := m2 (j - n1) (by lia)
      rw [show n1 + (j - n1) = j by lia, kk_at hj, ← kk_at (κ := κ) hl2, hl0, kk_at hl1] at q
      exact q
  have fin : ∀ (r : Array Keyed) (g : Nat), Fin' κ (xs.extract (0 + k) n1).toList (xs.extract n1 (n1 + m)).toList r.toList →
      ∀ st', arrOf st' = (r.toList.zipIdx 0).foldl (fun a p => a.setIfInBounds (0 + k + p.2) p.1) xs → failedOf st' = none → pendingOf st' = #[(0, n1 + n2, pw)] → Q true st' := by
    intro r g hr st' e1 e2 e3
    have hlen : r.toList.length = n1 - k + m := by
      have := hr.1.length_eq
      simp only [List.length_append, Array.length_toList, sx, sy] at this
      rw [Array.length_toList]
      exact this
    have e4 : (arrOf st').toList = xs.toList.take k ++ r.toList ++ xs.toList.drop (n1 + m) := by
      rw [e1, lay_from _ _ _ _ (by lia), hlen]
      congr 2
      · congr 1
        · congr 1; lia
      · lia
    have eA : xs.toList.take n1 = xs.toList.take k ++ (xs.extract (0 + k) n1).toList := by
      have e9 : (xs.extract (0 + k) n1).toList = (xs.toList.drop k).take (n1 - k) := by
        have q := ext_mid xs k (n1 - k)
        rw [show k + (n1 - k) = n1 by lia] at q
        rw [Nat.zero_add]
        exact q
      rw [e9, ← List.take_add, show k + (n1 - k) = n1 by lia]
    have eB2 : xs.toList.drop n1 = (xs.extract n1 (n1 + m)).toList ++ xs.toList.drop (n1 + m) := by
      rw [ext_mid, ← List.drop_drop, List.take_append_drop]
    rw [eA] at sA
    rw [eB2] at sB
    have hf := four sA sB (fun x hx y hy => ?_) (fun x hx y hy => ?_) hr
    · refine h st' ?_ ?_ e2 e3
      · refine Array.perm_iff_toList_perm.mpr ?_
        rw [e4]
        refine hf.1.trans ?_
        rw [← eA, ← eB2, List.take_append_drop]
      · rw [e4]; exact hf.2
    · rw [← eB2] at hy
      have q2 := hB1 y hy
      obtain ⟨i, hi, rfl⟩ := List.mem_iff_getElem.mp hx
      have hi1 : i < k := by
        have q := hi
        simp at q
        lia
      have q := k2 i hi1
      rw [Nat.zero_add, kk_at (by lia)] at q
      simp
      lia
    · obtain ⟨i, hi, q1, q2, rfl⟩ := mem_ext hx
      obtain ⟨j, hj, rfl⟩ := List.mem_iff_getElem.mp hy
      have hj1 : n1 + m + j < xs.size := by
        have q := hj
        simp at q
        lia
      have q := m3 (m + j) (by lia) (by lia)
      rw [← Nat.add_assoc, kk_at hj1, ← kk_at (κ := κ) hl2, hl0] at q
      have q3 : kk κ xs i ≤ kk κ xs (n1 - 1) := by
        rcases Nat.lt_or_ge i (n1 - 1) with z | z
        · exact Nat.le_of_lt (hu1 i (n1 - 1) (Nat.zero_le _) z (by lia))
        · rw [show i = n1 - 1 by lia]; exact Nat.le_refl _
      rw [kk_at hi] at q3
      simp
      lia
  refine wpS_ite (fun _ => ?_) (fun _ => ?_)
  · refine wpS_bind (mergeLo_S D hk r2 (by rw [sx]; lia) (by rw [sy]; lia) (fun r g' hr => ?_))
    refine wpS_bind (wpS_modify (wpS_bind (wpS_get (wpS_pure ?_))))
    exact fin r g' hr _ rfl rfl (pend2 ..)
  · refine wpS_bind (mergeHi_S D hk r2 (by rw [sx]; lia) (by rw [sy]; lia) (fun r g' hr => ?_))
    refine wpS_bind (wpS_modify (wpS_bind (wpS_get (wpS_pure ?_))))
    exact fin r g' hr _ rfl rfl (pend2 ..)
end
end Mcu
namespace Mcu
theorem pend1 (mr pw : Nat) : ((#[(0, mr, 0)] : Array (Nat × Nat × Nat)).modify ((#[(0, mr, 0)] : Array (Nat × Nat × Nat)).size - 1) fun x => (x.1, x.2.1, pw)).push (mr, mr, 0) = #[(0, mr, pw), (mr, mr, 0)] := by
  apply Array.ext_getElem?
  intro i
  rw [Array.getElem?_push, Array.getElem?_modify]
  rcases i with _ | _ | i <;> simp
theorem pw_all {κ : Keyed → Nat} {xs : Array Keyed} (h : Up κ xs 0 xs.size) : (xs.toList.map κ).Pairwise (· < ·) := by
  have := pw_of_up h (Nat.le_refl _)
  rw [ext_to] at this
  rwa [List.take_of_length_le (by simp)] at this
section
variable {prog : Program} {w : World} {A : Around} {E : Value → Shared → Prop} {s : Shared} {κ : Keyed → Nat} {P : Keyed → Prop}
theorem one_S {st : SortSt} {Q : Unit → SortSt → Prop} (D : Dec prog w A s κ P) (hP : AllP P (arrOf st)) (hA : Apart κ (arrOf st)) (hk : kindOf st = oneType') (hf : failedOf st = none) (hp : pendingOf st = #[]) (h2 : 2 ≤ (arrOf st).size) (h64 : (arrOf st).size < 64)
    (hasc : kk κ (arrOf st) 0 < kk κ (arrOf st) 1) (h : ∀ st', (arrOf st').Perm (arrOf st) → ((arrOf st').toList.map κ).Pairwise (· < ·) → failedOf st' = none → Q () st') : wpS (model prog w) A E s sortRuns' Q st := by
  rw [sortRuns'_eq]
  refine wpS_bind (wpS_get ?_)
  dsimp only
  have hmr : minRun' (arrOf st).size (arrOf st).size 0 = (arrOf st).size := by
    obtain ⟨f, hf'⟩ : ∃ f, (arrOf st).size = f + 1 := ⟨(arrOf st).size - 1, by lia⟩
    have : minRun' (f + 1) (arrOf st).size 0 = (arrOf st).size := by rw [minRun'_succ, if_pos h64]; rfl
    rwa [← hf'] at this
  rw [hmr]
  refine wpS_bind (wpS_mono (wpS_forRange
    (I := fun x c st' => (x = 0 ∧ c = (none, 0) ∧ st' = st) ∨ (1 ≤ x ∧ c = (none, (arrOf st).size) ∧ ∃ xs : Array Keyed, st' = setPending (setArr st xs) #[(0, (arrOf st).size, 0)] ∧ xs.Perm (arrOf st) ∧ Up κ xs 0 xs.size))
    (Q := fun c st' => c = (none, (arrOf st).size) ∧ ∃ xs : Array Keyed, st' = setPending (setArr st xs) #[(0, (arrOf st).size, 0)] ∧ xs.Perm (arrOf st) ∧ Up κ xs 0 xs.size) ?step ?fin (.inl ⟨rfl, rfl, rfl⟩)) ?post)
  case fin =>
    rintro c st' (⟨hx, _, _⟩ | ⟨_, hc, hD⟩)
    · lia
    · exact ⟨hc, hD⟩
  case step =>
    rintro x c st' _ hx (⟨rfl, rfl, rfl⟩ | ⟨hx1, rfl, hD⟩)
    · dsimp only
      rw [if_neg (by lia)]
      simp only [Nat.sub_zero, Nat.min_self, Nat.zero_add]
      have fin : ∀ xs : Array Keyed, xs.Perm (arrOf st') → Up κ xs 0 (arrOf st').size → setPending (setArr st' xs) ((pendingOf (setArr st' xs)).push (0, (arrOf st').size, 0)) = setPending (setArr st' xs) #[(0, (arrOf st').size, 0)] ∧ xs.Perm (arrOf st') ∧ Up κ xs 0 xs.size := fun xs h1 h2 => by
        refine ⟨?_, h1, by rw [h1.size_eq]; exact h2⟩
        show setPending (setArr st' xs) ((pendingOf st').push _) = _
        rw [hp]; rfl
      refine wpS_bind (countRun_S D hP hA hk (by lia) (by lia) (fun _ => hasc) fun m hm1 hm2 hu => ?_)
      dsimp only
      rw [Nat.zero_add] at hu
      by_cases hlt : m < (arrOf st').size
      · rw [if_pos hlt]
        refine wpS_bind (wpS_lift (wpAny_rule ⟨rfl, ?_⟩))
        refine wpS_bind (binary_S D hP hA hk (by lia) hm1 hm2 (by rw [Nat.zero_add]; exact hu) fun xs hx hu2 _ => ?_)
        rw [Nat.zero_add] at hu2
        simp only [Bool.not_true, Bool.false_eq_true, if_false]
        refine wpS_bind (wpS_get ?_)
        have hb : (pendingOf (setArr st' xs)).back? = none := by show (pendingOf st').back? = none; rw [hp]; rfl
        rw [hb]
        dsimp only
        exact wpS_bind (wpS_modify (wpS_pure (.inr ⟨by lia, rfl, xs, fin xs hx hu2⟩)))
      · rw [if_neg hlt]
        have hm : m = (arrOf st').size := by lia
        subst hm
        refine wpS_bind (wpS_get ?_)
        have hb : (pendingOf st').back? = none := by rw [hp]; rfl
        rw [hb]
        dsimp only
        exact wpS_bind (wpS_modify (wpS_pure (.inr ⟨by lia, rfl, arrOf st', fin (arrOf st') (Array.Perm.refl _) hu⟩)))
    · dsimp only
      rw [if_pos (Nat.le_refl _)]
      exact wpS_pure ⟨rfl, hD⟩
  case post =>
    rintro c st' ⟨rfl, xs, rfl, hperm, hu⟩
    dsimp only
    refine wpS_bind (wpS_mono (wpS_forRange (I := fun _ c st'' => st'' = setPending (setArr st xs) #[(0, (arrOf st).size, 0)] ∧ c = (none, ())) (Q := fun c st'' => st'' = setPending (setArr st xs) #[(0, (arrOf st).size, 0)] ∧ c = (none, ())) ?_ (fun _ _ hh => hh) ⟨rfl, rfl⟩) ?_)
    · rintro x c st'' _ _ ⟨rfl, rfl⟩
      refine wpS_bind (wpS_get ?_)
      rw [if_pos (show (#[(0, (arrOf st).size, 0)] : Array (Nat × Nat × Nat)).size ≤ 1 from Nat.le_refl 1)]
      exact wpS_pure ⟨rfl, rfl⟩
    · rintro c st'' ⟨rfl, rfl⟩
      exact wpS_pure (h _ hperm (pw_all hu) hf)
theorem two_S {st : SortSt} {mr : Nat} {Q : Unit → SortSt → Prop} (D : Dec prog w A s κ P) (hP : AllP P (arrOf st)) (hA : Apart κ (arrOf st)) (hk : kindOf st = oneType') (hf : failedOf st = none) (hp : pendingOf st = #[])
    (hmr : minRun' (arrOf st).size (arrOf st).size 0 = mr) (hm2 : 2 ≤ mr) (hsz : (arrOf st).size = mr + mr) (hasc : kk κ (arrOf st) 0 < kk κ (arrOf st) 1) (hdesc : ∃ j, j + 1 < mr ∧ kk κ (arrOf st) (j + 1) < kk κ (arrOf st) j) (hasc2 : kk κ (arrOf st) mr < kk κ (arrOf st) (mr + 1))
    (h : ∀ st', (arrOf st').Perm (arrOf st) → ((arrOf st').toList.map κ).Pairwise (· < ·) → failedOf st' = none → Q () st') : wpS (model prog w) A E s sortRuns' Q st := by
  rw [sortRuns'_eq]
  refine wpS_bind (wpS_get ?_)
  dsimp only
  rw [hmr]
  refine wpS_bind (wpS_mono (wpS_forRange
    (I := fun x c st' => (x = 0 ∧ c = (none, 0) ∧ st' = st) ∨ (x = 1 ∧ c = (none, mr) ∧ ∃ xs : Array Keyed, st' = setPending (setArr st xs) #[(0, mr, 0)] ∧ xs.Perm (arrOf st) ∧ Up κ xs 0 mr ∧ ∀ i, mr ≤ i → xs[i]? = (arrOf st)[i]?) ∨
      (2 ≤ x ∧ c = (none, mr + mr) ∧ ∃ (xs : Array Keyed) (pw : Nat), st' = setPending (setArr st xs) #[(0, mr, pw), (mr, mr, 0)] ∧ xs.Perm (arrOf st) ∧ Up κ xs 0 mr ∧ Up κ xs mr (mr + mr)))
    (Q := fun c st' => c = (none, mr + mr) ∧ ∃ (xs : Array Keyed) (pw : Nat), st' = setPending (setArr st xs) #[(0, mr, pw), (mr, mr, 0)] ∧ xs.Perm (arrOf st) ∧ Up κ xs 0 mr ∧ Up κ xs mr (mr + mr)) ?step ?fin (.inl ⟨rfl, rfl, rfl⟩)) ?post)
  case fin =>
    rintro c st' (⟨hx, _, _⟩ | ⟨hx, _, _⟩ | ⟨_, hc, hD⟩)
    · lia
    · lia
    · exact ⟨hc, hD⟩
  case step =>
    rintro x c st' _ hx (⟨rfl, rfl, rfl⟩ | ⟨rfl, rfl, xs, rfl, hperm, hu, ho⟩ | ⟨hx1, rfl, hD⟩)
    · dsimp only
      rw [if_neg (by lia)]
      simp only [Nat.sub_zero, Nat.zero_add]
      refine wpS_bind (countRun_S D hP hA hk (by lia) (by lia) (fun _ => hasc) fun m hm1 hmn hu => ?_)
      dsimp only
      rw [Nat.zero_add] at hu
      have hlt : m < mr := by
        obtain ⟨j, hj1, hj2⟩ := hdesc
        rcases Nat.lt_or_ge m mr with q | q
        · exact q
        · have := hu j (j + 1) (Nat.zero_le _) (Nat.lt_succ_self _) (by lia)
          lia
      rw [if_pos hlt]
      refine wpS_bind (wpS_lift (wpAny_rule ⟨rfl, ?_⟩))
      have emin : min (arrOf st').size mr = mr := by lia
      simp only [emin]
      refine wpS_bind (binary_S D hP hA hk (by lia) hm1 (Nat.le_of_lt hlt) (by rw [Nat.zero_add]; exact hu) fun xs hx hu2 ho => ?_)
      rw [Nat.zero_add] at hu2 ho
      simp only [Bool.not_true, Bool.false_eq_true, if_false]
      refine wpS_bind (wpS_get ?_)
      have hb : (pendingOf (setArr st' xs)).back? = none := by show (pendingOf st').back? = none; rw [hp]; rfl
      rw [hb]
      dsimp only
      refine wpS_bind (wpS_modify (wpS_pure (.inr (.inl ⟨by simp, rfl, xs, ?_, hx, hu2, fun i hi => ho i (.inr hi)⟩))))
      show setPending (setArr st' xs) ((pendingOf st').push _) = _
      rw [hp]; rfl
    · have hz : xs.size = mr + mr := hperm.size_eq.trans hsz
      dsimp only
      rw [if_neg (by lia)]
      rw [show (arrOf st).size - mr = mr by lia]
      have hA' := hA.perm hperm
      have hP' := hP.perm hperm
      have e1 : kk κ xs mr = kk κ (arrOf st) mr := kk_congr (ho _ (Nat.le_refl _))
      have e2 : kk κ xs (mr + 1) = kk κ (arrOf st) (mr + 1) := kk_congr (ho _ (by lia))
      have fin2 : ∀ ys : Array Keyed, ys.Perm xs → Up κ ys mr (mr + mr) → (∀ i, i < mr → ys[i]? = xs[i]?) → Up κ ys 0 mr := fun ys _ _ h3 i j a b c => by
        rw [kk_congr (h3 i (by lia)), kk_congr (h3 j c)]
        exact hu i j a b c
      have fin : ∀ ys : Array Keyed, ys.Perm xs → Up κ ys 0 mr → Up κ ys mr (mr + mr) → ∀ (pw : Nat),
          ∃ (zs : Array Keyed) (pw' : Nat), setPending (setArr st ys) (((#[(0, mr, 0)] : Array (Nat × Nat × Nat)).modify ((#[(0, mr, 0)] : Array (Nat × Nat × Nat)).size - 1) fun x => (x.1, x.2.1, pw)).push (mr, mr, 0)) = setPending (setArr st zs) #[(0, mr, pw'), (mr, mr, 0)] ∧ zs.Perm (arrOf st) ∧ Up κ zs 0 mr ∧ Up κ zs mr (mr + mr) := fun ys h1 h2 h3 pw =>
        ⟨ys, pw, congrArg (setPending (setArr st ys)) (pend1 mr pw), h1.trans hperm, h2, h3⟩
      refine wpS_bind (countRun_S D hP' hA' hk (by show mr + mr ≤ xs.size; lia) (by lia) (fun _ => by show kk κ xs mr < kk κ xs (mr + 1); lia) fun m hm1 hmn hu3 => ?_)
      dsimp only
      by_cases hlt : m < mr
      · rw [if_pos hlt]
        refine wpS_bind (wpS_lift (wpAny_rule ⟨rfl, ?_⟩))
        simp only [Nat.min_self]
        refine wpS_bind (binary_S D hP' hA' hk (by show mr + mr ≤ xs.size; lia) hm1 (Nat.le_of_lt hlt) hu3 fun ys hy hu4 ho4 => ?_)
        simp only [Bool.not_true, Bool.false_eq_true, if_false]
        refine wpS_bind (wpS_get ?_)
        have hb : (pendingOf (setArr (setPending (setArr st xs) #[(0, mr, 0)]) ys)).back? = some (0, mr, 0) := rfl
        rw [hb]
        dsimp only
        refine wpS_bind (wpS_mono (wpS_forRange (I := fun _ c st'' => st'' = (setArr (setPending (setArr st xs) #[(0, mr, 0)]) ys) ∧ c = (none, ())) (Q := fun c st'' => st'' = (setArr (setPending (setArr st xs) #[(0, mr, 0)]) ys) ∧ c = (none, ())) ?_ (fun _ _ hh => hh) ⟨rfl, rfl⟩) ?_)
        · rintro x c st'' _ _ ⟨rfl, rfl⟩
          refine wpS_bind (wpS_get ?_)
          rw [if_neg (show ¬ (#[(0, mr, 0)] : Array (Nat × Nat × Nat)).size > 1 by simp)]
          exact wpS_pure ⟨rfl, rfl⟩
        · rintro c st'' ⟨rfl, rfl⟩
          dsimp only
          exact wpS_bind (wpS_modify (wpS_bind (wpS_modify (wpS_pure (.inr (.inr ⟨Nat.le_refl _, rfl, fin ys hy (fin2 ys hy hu4 fun i hi => ho4 i (.inl hi)) hu4 _⟩))))))
      · rw [if_neg hlt]
        obtain rfl : m = mr := by lia
        refine wpS_bind (wpS_get ?_)
        have hb : (pendingOf (setPending (setArr st xs) #[(0, m, 0)])).back? = some (0, m, 0) := rfl
        rw [hb]
        dsimp only
        refine wpS_bind (wpS_mono (wpS_forRange (I := fun _ c st'' => st'' = (setPending (setArr st xs) #[(0, m, 0)]) ∧ c = (none, ())) (Q := fun c st'' => st'' = (setPending (setArr st xs) #[(0, m, 0)]) ∧ c = (none, ())) ?_ (fun _ _ hh => hh) ⟨rfl, rfl⟩) ?_)
        · rintro x c st'' _ _ ⟨rfl, rfl⟩
          refine wpS_bind (wpS_get ?_)
          rw [if_neg (show ¬ (#[(0, m, 0)] : Array (Nat × Nat × Nat)).size > 1 by simp)]
          exact wpS_pure ⟨rfl, rfl⟩
        · rintro c st'' ⟨rfl, rfl⟩
          dsimp only
          exact wpS_bind (wpS_modify (wpS_bind (wpS_modify (wpS_pure (.inr (.inr ⟨Nat.le_refl _, rfl, fin xs (Array.Perm.refl _) hu hu3 _⟩))))))
    · dsimp only
      rw [if_pos (by lia)]
      exact wpS_pure ⟨rfl, hD⟩
  case post =>
    rintro c st' ⟨rfl, xs, pw, rfl, hperm, hu1, hu2⟩
    have hz : xs.size = mr + mr := hperm.size_eq.trans hsz
    dsimp only
    refine wpS_bind (wpS_mono (wpS_forRange (I := fun x c st'' => c = (none, ()) ∧ ((x = 0 ∧ st'' = setPending (setArr st xs) #[(0, mr, pw), (mr, mr, 0)]) ∨ (1 ≤ x ∧ (arrOf st'').Perm (arrOf st) ∧ ((arrOf st'').toList.map κ).Pairwise (· < ·) ∧ failedOf st'' = none ∧ pendingOf st'' = #[(0, mr + mr, pw)])))
      (Q := fun c st'' => c = (none, ()) ∧ (arrOf st'').Perm (arrOf st) ∧ ((arrOf st'').toList.map κ).Pairwise (· < ·) ∧ failedOf st'' = none) ?_ ?_ ⟨rfl, .inl ⟨rfl, rfl⟩⟩) ?_)
    · rintro x c st'' _ _ ⟨rfl, ⟨rfl, rfl⟩ | ⟨hx, q1, q2, q3, q4⟩⟩
      · refine wpS_bind (wpS_get ?_)
        rw [if_neg (show ¬ (#[(0, mr, pw), (mr, mr, 0)] : Array (Nat × Nat × Nat)).size ≤ 1 by simp)]
        refine wpS_bind (mergeAt_S (st := setPending (setArr st xs) #[(0, mr, pw), (mr, mr, 0)]) D (hP.perm hperm) (hA.perm hperm) hk hf rfl (by lia) (by lia) hz.symm hu1 hu2 (fun st3 r1 r2 r3 r4 => ?_))
        exact wpS_pure ⟨rfl, .inr ⟨Nat.le_refl _, r1.trans hperm, r2, r3, r4⟩⟩
      · refine wpS_bind (wpS_get ?_)
        rw [q4, if_pos (show (#[(0, mr + mr, pw)] : Array (Nat × Nat × Nat)).size ≤ 1 from Nat.le_refl 1)]
        exact wpS_pure ⟨rfl, q1, q2, q3⟩
    · rintro c st'' ⟨rfl, ⟨q, _⟩ | ⟨_, q1, q2, q3, _⟩⟩
      · lia
      · exact ⟨rfl, q1, q2, q3⟩
    · rintro c st'' ⟨rfl, q1, q2, q3⟩
      exact wpS_pure (h _ q1 q2 q3)
end
end Mcu
namespace Mcu
section
variable {prog : Program} {w : World} {A : Around} {E : Value → Shared → Prop} {s : Shared} {κ : Keyed → Nat}
theorem list_sort_S {a : Addr} {vs : List Value} {n : Nat} {R : PySem.Fin → Shared → Prop} (ho : s.heap.get? a = some (seqObj "list" vs.toArray n)) (h2 : 2 ≤ vs.length) (hn : vs.length ≤ 1000)
    (hT : ∀ h' : Heap, (∀ b o, b ≠ a → s.heap.get? b = some o → h'.get? b = some o) → ∀ v ∈ vs, Looks (model prog w) h' (typeOf v) (.type "list"))
    (run : ∀ (s' : Shared) (Q' : Unit → SortSt → Prop), (∀ b o, b ≠ a → s.heap.get? b = some o → s'.heap.get? b = some o) →
      (∀ st', (arrOf st').Perm (pairsOf vs) → ((arrOf st').toList.map κ).Pairwise (· < ·) → failedOf st' = none → Q' () st') → wpS (model prog w) A E s' sortRuns' Q' (SortSt.mk' oneType' (pairsOf vs) #[] 7 none))
    (h : ∀ (r : Array Keyed) (h' : Heap) n', (∀ b o, b ≠ a → s.heap.get? b = some o → h'.get? b = some o) → r.Perm (pairsOf vs) → (r.toList.map κ).Pairwise (· < ·) → h'.get? a = some (seqObj "list" (r.map (·.2)) n') → R (.done (.ret .none)) { s with heap := h' }) :
    wpAny (model prog w) A (Builtin.«list.sort» ⟨[.ref a], []⟩) R E s := by
  have ha : a < s.heap.objs.size := Heap.lt_size ho
  have hsz : vs.length ≤ sizeLine := by rw [sizeLine_eq]; lia
  rw [list_sort_plain]
  refine wpAny_bind (listItems_at ho rfl ?_)
  refine wpAny_bind (listUpdate_at ho rfl ?_ (by rw [List.size_toArray]; exact hsz) (Nat.zero_le _))
  obtain ⟨e1, ho1⟩ : ∃ e1, (s.heap.update a (Obj.mapSeq fun _ => (#[] : Array Value))).get? a = some (seqObj "list" #[] e1) := ⟨_, get?_update_seq ho fun _ => #[]⟩
  refine wpAny_bind (seqEpoch_at ho1 rfl ?_)
  refine wpAny_bind (wpAny_newTuple ?_ (by show vs.length ≤ _; exact hsz))
  refine wpAny_bind (wpAny_newList ?_ (Nat.zero_le _))
  refine wpAny_holding ?_
  have s1 := Heap.SameBut.update s.heap a (Obj.mapSeq fun _ => (#[] : Array Value))
  generalize hH : ((s.heap.update a (Obj.mapSeq fun _ => (#[] : Array Value))).push (seqObj "tuple" vs.toArray 0)).push (seqObj "list" #[] 0) = H
  have up : ∀ b o, b ≠ a → s.heap.get? b = some o → H.get? b = some o := fun b o hb e => by
    rw [← hH]
    exact Heap.get?_push_of_some _ (Heap.get?_push_of_some _ ((s1.2 b hb).trans e))
  have hoH : H.get? a = some (seqObj "list" #[] e1) := by
    rw [← hH]
    exact Heap.get?_push_of_some _ (Heap.get?_push_of_some _ ho1)
  dsimp only
  have hn2 : ¬ vs.toArray.size < 2 := by rw [List.size_toArray]; lia
  rw [if_neg hn2, if_neg hn2]
  refine wpAny_bind (kas_kind h2 (hT H up) (by decide) (by decide) ?_)
  refine wpAny_bind (wpAny_mono (run { s with heap := H } (fun _ st' => (arrOf st').Perm (pairsOf vs) ∧ ((arrOf st').toList.map κ).Pairwise (· < ·) ∧ failedOf st' = none) up fun st' a1 a2 a3 => ⟨a1, a2, a3⟩) ?_ fun _ _ e => e)
  rintro ⟨⟨⟩, st'⟩ s' ⟨rfl, hp, hs, hf⟩
  dsimp only
  refine wpAny_bind (seqEpoch_at hoH rfl ?_)
  refine wpAny_bind (listUpdate_at hoH rfl ?_ (Nat.zero_le _) (by
    rw [Array.size_map, hp.size_eq, pairsOf_size, sizeLine_eq]; lia))
  rw [hf]
  simp only [bne_self_eq_false, Bool.false_eq_true, if_false]
  have s2 := Heap.SameBut.update H a (Obj.mapSeq fun _ => (arrOf st').map (·.2))
  exact wpAny_pure (h (arrOf st') _ _ (fun b o hb e => (s2.2 b hb).trans (up b o hb e)) hp hs (get?_update_seq hoH fun _ => (arrOf st').map (·.2)))
theorem sorted_S {l : Addr} {vs : List Value} {Q : Value → Shared → Prop} (hl : s.heap.IsList l vs.toArray) (h2 : 2 ≤ vs.length) (hn : vs.length ≤ 1000)
    (hT : ∀ h' : Heap, (∀ b o, s.heap.get? b = some o → h'.get? b = some o) → ∀ v ∈ vs, Looks (model prog w) h' (typeOf v) (.type "list"))
    (run : ∀ (s' : Shared) (Q' : Unit → SortSt → Prop), (∀ b o, s.heap.get? b = some o → s'.heap.get? b = some o) →
      (∀ st', (arrOf st').Perm (pairsOf vs) → ((arrOf st').toList.map κ).Pairwise (· < ·) → failedOf st' = none → Q' () st') → wpS (model prog w) A.in1.in1 E s' sortRuns' Q' (SortSt.mk' oneType' (pairsOf vs) #[] 7 none))
    (h : ∀ D (r : Array Keyed) (h' : Heap) n', (∀ b o, s.heap.get? b = some o → h'.get? b = some o) → s.heap.get? D = none → r.Perm (pairsOf vs) → (r.toList.map κ).Pairwise (· < ·) → h'.get? D = some (seqObj "list" (r.map (·.2)) n') → Q (.ref D) { s with heap := h' }) :
    wpAny (model prog w) A (call (.builtin "sorted") [.ref l]) Q E s := by
  have hsz : vs.length ≤ sizeLine := by rw [sizeLine_eq]; lia
  refine Calls.call_function_entry kind_sorted plain_sorted entry_sorted (args_sorted1 _) ?_
  unfold Builtin.«sorted»
  refine wpAny_bind (m := checkCount "sorted" 1 1 _) (wpAny_pure ?_)
  refine wpAny_bind (collect_list hl ?_ hsz)
  refine wpAny_bind (wpAny_newList ?_ hsz)
  generalize hH : ((s.heap.push (seqObj "list" #[] 0)).update s.heap.objs.size (Obj.mapSeq (· ++ vs.toArray))) = H
  have hz : H.objs.size = s.heap.objs.size + 1 := by rw [← hH, Heap.size_update, size_push']
  have up : ∀ b o, s.heap.get? b = some o → H.get? b = some o := fun b o e => by
    have hlt : b < s.heap.objs.size := Heap.lt_size e
    rw [← hH, Heap.get?_update_ne _ _ _ _ (Nat.ne_of_lt hlt), Heap.get?_push_ne _ _ _ (Nat.ne_of_lt hlt)]
    exact e
  have hoL : (H.push (seqObj "list" vs.toArray 0)).get? H.objs.size = some (seqObj "list" vs.toArray 0) := Heap.get?_push_size _ rfl
  have none_ : s.heap.get? H.objs.size = none := by
    cases e : s.heap.get? H.objs.size with
    | none => rfl
    | some o =>
      have q := Heap.lt_size e
      rw [hz] at q
      exact absurd q (Nat.not_lt.mpr (Nat.le_succ _))
  have back : ∀ h' : Heap, (∀ b o, b ≠ H.objs.size → (H.push (seqObj "list" vs.toArray 0)).get? b = some o → h'.get? b = some o) → ∀ b o, s.heap.get? b = some o → h'.get? b = some o := fun h' k b o e =>
    k b o (fun q => by rw [q, none_] at e; cases e) (Heap.get?_push_of_some _ (up b o e))
  refine wpAny_bind (wpAny_holding (wpAny_call_entry slot_list_sort ⟨_, hoL, rfl⟩ entry_list_sort ?body (args_list_sort _)))
  case body =>
    refine list_sort_S hoL h2 hn (fun h' k => hT h' (back h' k)) (fun s' Q' k hq => run s' Q' (back _ k) hq) (fun r h' n' k hp hs hg => ?_)
    exact ⟨_, rfl, wpAny_pure ⟨_, rfl, h _ r h' n' (back h' k) none_ hp hs hg⟩⟩
end
end Mcu
namespace Mcu
section
open PySem.SeqAt PySem.AutoSeq1 PySem.MeetsSeq PySem.MeetsSeq2 PySem.MeetsSeq3 PySem.SeqRoads2
def Same (s : Shared) (x y : Value) : Prop := ∀ A, EqAt A s x y true
def Ends (items items2 : Array Value) (m : Nat) (r : Bool) : Prop :=
  (items[m]? = none ∧ items2[m]? = none ∧ r = decide (items.size < items2.size)) ∨ (∃ a t b u, items[m]? = some (Value.int a t) ∧ items2[m]? = some (Value.int b u) ∧ a ≠ b ∧ r = decide (a < b))
theorem lt_loop (l b : Addr) (items items2 : Array Value) (n n2 : Nat) (dd dd2 : Option Addr) (sl sl2 : Array (Option Value)) (m : Nat) (r : Bool) (he : Ends items items2 m r) (k : Nat) :
    ∀ i : Nat, m - i = k → i ≤ m → Meets (Builtin.«list.__eq__.loop» ⟨[.ref l, .ref b, rawInt i, rawInt 0], []⟩)
      (fun _ R s => s.heap.get? l = some { cls := .type "list", dict := dd, data := .seq items n, slots := sl } ∧ s.heap.get? b = some { cls := .type "list", dict := dd2, data := .seq items2 n2, slots := sl2 } ∧
        (∀ j, j < m → ∃ x y, items[j]? = some x ∧ items2[j]? = some y ∧ Same s x y) ∧
        R (.ok (.ret (.bool r))) s) := by
  induction k with
  | zero =>
    intro i hk him prog w A R s h
    obtain ⟨hp, g, d, tk, os⟩ := s; obtain ⟨hl, hb, hs, h⟩ := h
    have e : i = m := by lia
    subst e
    rcases he with ⟨e1, e2, rfl⟩ | ⟨x, t, y, u, e1, e2, hne, rfl⟩
    · wp_walk using wpAny_loadPart' hl, wpAny_loadPart' hb
      have hi1 : items[((i : Nat) : Int).toNat]? = none := e1
      have hi2 : items2[((i : Nat) : Int).toNat]? = none := e2
      rw [hi1, hi2]
      wp_walk using wpAny_loadPart' hl, wpAny_loadPart' hb
      exact h
    · wp_walk using wpAny_loadPart' hl, wpAny_loadPart' hb
      have hi1 : items[((i : Nat) : Int).toNat]? = some (.int x t) := e1
      have hi2 : items2[((i : Nat) : Int).toNat]? = some (.int y u) := e2
      rw [hi1, hi2]
      refine wpAny_bind (wpAny_eqBool_int ?_)
      rw [show (x == y) = false from by simp [hne]]
      wp_walk using wpAny_loadPart' hl, wpAny_loadPart' hb
      rw [hi1, hi2]
      refine wpAny_bind (PySem.P.lt_int ?_)
      wp_walk
      exact h
  | succ k ih =>
    intro i hk him prog w A R s h
    obtain ⟨hp, g, d, tk, os⟩ := s; obtain ⟨hl, hb, hs, h⟩ := h
    wp_walk using wpAny_loadPart' hl, wpAny_loadPart' hb
    obtain ⟨x, y, e1, e2, hxy⟩ := hs i (by lia)
    have hi1 : items[((i : Nat) : Int).toNat]? = some x := e1
    have hi2 : items2[((i : Nat) : Int).toNat]? = some y := e2
    have hc : ((i : Int) + 1) = ((i + 1 : Nat) : Int) := by push_cast; rfl
    rw [hi1, hi2]
    refine wpAny_bind (hxy _ prog w _ _ ?_)
    wp_walk
    rw [hc]
    exact ⟨plainId_quiet plain_eq_loop _, codeAny_builtin entry_eq_loop (by
      rw [Around.under_plainId plain_eq_loop _]
      exact ih (i + 1) (by lia) (by lia) prog w A R _ ⟨hl, hb, hs, h⟩)⟩

theorem list_lt (l b : Addr) (items items2 : Array Value) (n n2 : Nat) (dd dd2 : Option Addr) (sl sl2 : Array (Option Value)) (m : Nat) (r : Bool) (he : Ends items items2 m r) :
    Meets (Builtin.«list.__lt__» ⟨[.ref l, .ref b], []⟩)
      (fun _ R s => s.heap.get? l = some { cls := .type "list", dict := dd, data := .seq items n, slots := sl } ∧ s.heap.get? b = some { cls := .type "list", dict := dd2, data := .seq items2 n2, slots := sl2 } ∧
        (∀ j, j < m → ∃ x y, items[j]? = some x ∧ items2[j]? = some y ∧ Same s x y) ∧
        R (.ok (.ret (.bool r))) s) := by
  intro prog w A R s h
  obtain ⟨hp, g, d, tk, os⟩ := s; obtain ⟨hl, hb, hs, h⟩ := h
  have f3 := AutoSeq1.sub_list_list
  wp_walk using wpAny_loadPart' hl, wpAny_loadPart' hb
  exact ⟨plainId_quiet plain_eq_loop _, codeAny_builtin entry_eq_loop (by
    rw [Around.under_plainId plain_eq_loop _]
    exact lt_loop l b items items2 n n2 dd dd2 sl sl2 m r he _ 0 rfl (Nat.zero_le _) prog w A R _ ⟨hl, hb, hs, h⟩)⟩

theorem oneLt_list {prog : Program} {w : World} {A : Around} {E : Value → Shared → Prop} {s : Shared} {l b : Addr} {items items2 : Array Value} {m : Nat} {r : Bool} {Q : Bool → Shared → Prop}
    (hl : s.heap.IsList l items) (hb : s.heap.IsList b items2) (hu : A.units < cLine) (he : Ends items items2 m r) (hs : ∀ j, j < m → ∃ x y, items[j]? = some x ∧ items2[j]? = some y ∧ Same s x y)
    (h : Q r s) : wpAny (model prog w) A (oneLt' true (.ref l) (.ref b)) Q E s := by
  obtain ⟨⟨cls, dd, data, sl⟩, ho, hc, n, hd⟩ := id hl
  obtain ⟨⟨cls2, dd2, data2, sl2⟩, ho2, hc2, n2, hd2⟩ := id hb
  simp only at hc hd hc2 hd2
  subst hc hd hc2 hd2
  rw [oneLt'_eq]
  simp only [if_true]
  refine wpAny_bind (wpAny_cRoomFor hu ?_)
  refine wpAny_bind (wpAny_callSpecialIfBound?_slot ⟨_, ho, rfl⟩ F.slot_list_lt (call_meets F.slot_list_lt ⟨_, ho, rfl⟩ F.entry_list_lt (F.args_list_lt_2 _ _) (list_lt l b items items2 n n2 dd dd2 sl sl2 m r he) ⟨ho, ho2, hs, ?_⟩))
  exact wpAny_truthy_bool h

def rkey (f : Nat → Nat) : Nat := (((f 0 * 128 + f 1) * 128 + f 2) * 128 + f 3) * 128 + f 4
def RowOf (h : Heap) (f : Nat → Nat) (l : Addr) : Prop := ∃ xs : Array Value, h.IsList l xs ∧ (∀ j, j < 5 → f j < 128 ∧ ∃ t, xs[j]? = some (.int (f j : Int) t)) ∧ xs.size = 6
theorem rkey_lt {f g : Nat → Nat} (hf : ∀ j, j < 5 → f j < 128) (hg : ∀ j, j < 5 → g j < 128) (hne : ∃ j, j < 5 ∧ f j ≠ g j) :
    ∃ m, m < 5 ∧ (∀ j, j < m → f j = g j) ∧ f m ≠ g m ∧ (rkey f < rkey g ↔ f m < g m) := by
  have F0 := hf 0 (by lia); have F1 := hf 1 (by lia); have F2 := hf 2 (by lia); have F3 := hf 3 (by lia); have F4 := hf 4 (by lia)
  have G0 := hg 0 (by lia); have G1 := hg 1 (by lia); have G2 := hg 2 (by lia); have G3 := hg 3 (by lia); have G4 := hg 4 (by lia)
  unfold rkey
  by_cases h0 : f 0 = g 0
  · by_cases h1 : f 1 = g 1
    · by_cases h2 : f 2 = g 2
      · by_cases h3 : f 3 = g 3
        · by_cases h4 : f 4 = g 4
          · obtain ⟨j, hj, hn⟩ := hne
            match j, hj with
            | 0, _ => exact absurd h0 hn
            | 1, _ => exact absurd h1 hn
            | 2, _ => exact absurd h2 hn
            | 3, _ => exact absurd h3 hn
            | 4, _ => exact absurd h4 hn
          · exact ⟨4, by lia, fun j hj => match j, hj with | 0, _ => h0 | 1, _ => h1 | 2, _ => h2 | 3, _ => h3, h4, by lia⟩
        · exact ⟨3, by lia, fun j hj => match j, hj with | 0, _ => h0 | 1, _ => h1 | 2, _ => h2, h3, by lia⟩
      · exact ⟨2, by lia, fun j hj => match j, hj with | 0, _ => h0 | 1, _ => h1, h2, by lia⟩
    · exact ⟨1, by lia, fun j hj => match j, hj with | 0, _ => h0, h1, by lia⟩
  · exact ⟨0, by lia, fun j hj => absurd hj (by lia), h0, by lia⟩

theorem dec_rows {prog : Program} {w : World} {A : Around} {s : Shared} {κ : Keyed → Nat} {P : Keyed → Prop} (hu : A.units < cLine)
    (hP : ∀ x, P x → ∃ l f, x.1 = .ref l ∧ RowOf s.heap f l ∧ κ x = rkey f)
    (inj : ∀ x y, P x → P y → κ x = κ y → x.1 = y.1) : Dec prog w A s κ P := by
  intro E x y Q hx hy h
  obtain ⟨l, f, e1, ⟨xs, hl, hf, sz⟩, k1⟩ := hP x hx
  obtain ⟨b, g, e2, ⟨ys, hb, hg, sz2⟩, k2⟩ := hP y hy
  by_cases hk : κ x = κ y
  · have q := inj x y hx hy hk
    rw [e1, e2] at q
    have q' : l = b := by injection q
    subst q'
    have q2 : ys = xs := by
      obtain ⟨o, ho, -, n, hd⟩ := hl
      obtain ⟨o', ho', -, n', hd'⟩ := hb
      rw [ho] at ho'
      cases ho'
      rw [hd] at hd'
      injection hd' with e _
      exact e.symm
    subst q2
    rw [e1, e2]
    refine oneLt_list hl hl hu (m := 6) (r := false) (.inl ⟨by simp [sz], by simp [sz], by simp⟩) (fun j hj => ?_) ?_
    · have hj' : j < ys.size := by lia
      exact ⟨ys[j], ys[j], by simp [hj'], by simp [hj'], fun A => EqAt.same _⟩
    · rw [hk] at h
      simpa using h
  · have hne : ∃ j, j < 5 ∧ f j ≠ g j := by
      by_cases a0 : f 0 = g 0
      · by_cases a1 : f 1 = g 1
        · by_cases a2 : f 2 = g 2
          · by_cases a3 : f 3 = g 3
            · by_cases a4 : f 4 = g 4
              · exact absurd (show κ x = κ y by rw [k1, k2]; unfold rkey; rw [a0, a1, a2, a3, a4]) hk
              · exact ⟨4, by lia, a4⟩
            · exact ⟨3, by lia, a3⟩
          · exact ⟨2, by lia, a2⟩
        · exact ⟨1, by lia, a1⟩
      · exact ⟨0, by lia, a0⟩
    obtain ⟨m, hm, heq, hm', hiff⟩ := rkey_lt (fun j hj => (hf j hj).1) (fun j hj => (hg j hj).1) hne
    obtain ⟨t, ht⟩ := (hf m hm).2
    obtain ⟨u, hu2⟩ := (hg m hm).2
    rw [e1, e2]
    refine oneLt_list hl hb hu (m := m) (r := decide (κ x < κ y)) (.inr ⟨_, t, _, u, ht, hu2, by lia, ?_⟩) (fun j hj => ?_) h
    · rw [k1, k2]
      exact decide_eq_decide.mpr (hiff.trans (by lia))
    · obtain ⟨t', ht'⟩ := (hf j (by lia)).2
      obtain ⟨u', hu'⟩ := (hg j (by lia)).2
      refine ⟨_, _, ht', hu', fun A prog w E Q hq => wpAny_eqBool_int ?_⟩
      rw [heq j hj]
      simpa using hq
end
end Mcu
namespace Mcu
abbrev R5 := Nat × Nat × Nat × Nat × Nat
def n5 (r : R5) : Nat := (((r.1 * 128 + r.2.1) * 128 + r.2.2.1) * 128 + r.2.2.2.1) * 128 + r.2.2.2.2
def rowAt (c : Nat → Nat × Nat) (at_ wide spot : Nat) : R5 := (spot / wide / (c at_).2, spot % wide / (c at_).1, at_, spot / wide % (c at_).2, spot % wide % (c at_).1)
def rowsAt (mx my : Nat) (c : Nat → Nat × Nat) (at_ : Nat) : List R5 := (List.range (mx * (c at_).1 * (my * (c at_).2))).map (rowAt c at_ (mx * (c at_).1))
def rowsL (mx my n : Nat) (c : Nat → Nat × Nat) : List R5 := (List.range n).flatMap (rowsAt mx my c)
def unitW (n : Nat) (c : Nat → Nat × Nat) (a b : Nat) : List R5 := (List.range n).flatMap fun at_ => (List.range (c at_).2).flatMap fun dy => (List.range (c at_).1).map fun dx => (a, b, at_, dy, dx)
def allW (mx my n : Nat) (c : Nat → Nat × Nat) : List R5 := (List.range (mx * my)).flatMap fun u => unitW n c (u / mx) (u % mx)
def In5 (mx my n : Nat) (c : Nat → Nat × Nat) (r : R5) : Prop := r.1 < my ∧ r.2.1 < mx ∧ r.2.2.1 < n ∧ r.2.2.2.1 < (c r.2.2.1).2 ∧ r.2.2.2.2 < (c r.2.2.1).1
theorem mem_unitW {n : Nat} {c : Nat → Nat × Nat} {a b : Nat} {r : R5} : r ∈ unitW n c a b ↔ r.1 = a ∧ r.2.1 = b ∧ r.2.2.1 < n ∧ r.2.2.2.1 < (c r.2.2.1).2 ∧ r.2.2.2.2 < (c r.2.2.1).1 := by
  unfold unitW
  simp only [List.mem_flatMap, List.mem_map, List.mem_range]
  constructor
  · rintro ⟨at_, h1, dy, h2, dx, h3, rfl⟩
    exact ⟨rfl, rfl, h1, h2, h3⟩
  · obtain ⟨r1, r2, r3, r4, r5⟩ := r
    rintro ⟨rfl, rfl, h1, h2, h3⟩
    exact ⟨r3, h1, r4, h2, r5, h3, rfl⟩
theorem mem_allW {mx my n : Nat} {c : Nat → Nat × Nat} (hm : 1 ≤ mx) {r : R5} : r ∈ allW mx my n c ↔ In5 mx my n c r := by
  unfold allW In5
  simp only [List.mem_flatMap, List.mem_range, mem_unitW]
  constructor
  · rintro ⟨u, hu, e1, e2, h⟩
    exact ⟨e1 ▸ Nat.div_lt_of_lt_mul hu, e2 ▸ Nat.mod_lt _ hm, h⟩
  · rintro ⟨h1, h2, h⟩
    refine ⟨mx * r.1 + r.2.1, ?_, ?_, ?_, h⟩
    · calc mx * r.1 + r.2.1 < mx * r.1 + mx := by lia
        _ = mx * (r.1 + 1) := (Nat.mul_succ ..).symm
        _ ≤ mx * my := Nat.mul_le_mul_left _ h1
    · rw [Nat.mul_add_div hm, Nat.div_eq_of_lt h2, Nat.add_zero]
    · rw [Nat.mul_add_mod, Nat.mod_eq_of_lt h2]
theorem mem_rowsL {mx my n : Nat} {c : Nat → Nat × Nat} (hm : 1 ≤ mx) (hc : ∀ i, i < n → 1 ≤ (c i).1 ∧ 1 ≤ (c i).2) {r : R5} : r ∈ rowsL mx my n c ↔ In5 mx my n c r := by
  unfold rowsL rowsAt In5
  simp only [List.mem_flatMap, List.mem_range, List.mem_map]
  constructor
  · rintro ⟨at_, ha, spot, hs, rfl⟩
    obtain ⟨h1, h2⟩ := hc at_ ha
    have hw : 0 < mx * (c at_).1 := Nat.mul_pos hm h1
    refine ⟨Nat.div_lt_of_lt_mul ?_, Nat.div_lt_of_lt_mul ?_, ha, Nat.mod_lt _ h2, Nat.mod_lt _ h1⟩
    · exact Nat.mul_comm my _ ▸ Nat.div_lt_of_lt_mul hs
    · have := Nat.mod_lt spot hw
      show spot % (mx * (c at_).1) < (c at_).1 * mx
      exact Nat.lt_of_lt_of_eq this (Nat.mul_comm ..)
  · obtain ⟨r1, r2, r3, r4, r5⟩ := r
    rintro ⟨h1, h2, h3, h4, h5⟩
    dsimp only at h1 h2 h3 h4 h5
    have hx : (c r3).1 * r2 + r5 < mx * (c r3).1 := calc (c r3).1 * r2 + r5 < (c r3).1 * r2 + (c r3).1 := by lia
      _ = (c r3).1 * (r2 + 1) := (Nat.mul_succ ..).symm
      _ ≤ (c r3).1 * mx := Nat.mul_le_mul_left _ h2
      _ = _ := Nat.mul_comm ..
    have hy : (c r3).2 * r1 + r4 < my * (c r3).2 := calc (c r3).2 * r1 + r4 < (c r3).2 * r1 + (c r3).2 := by lia
      _ = (c r3).2 * (r1 + 1) := (Nat.mul_succ ..).symm
      _ ≤ (c r3).2 * my := Nat.mul_le_mul_left _ h1
      _ = _ := Nat.mul_comm ..
    generalize hX : (c r3).1 * r2 + r5 = X at hx
    generalize hY : (c r3).2 * r1 + r4 = Y at hy
    generalize hW : mx * (c r3).1 = W at hx
    refine ⟨r3, h3, W * Y + X, ?_, ?_⟩
    · rw [hW]
      calc W * Y + X < W * Y + W := by lia
        _ = W * (Y + 1) := (Nat.mul_succ ..).symm
        _ ≤ _ := Nat.mul_le_mul_left _ hy
    · rw [hW]
      have hW0 : 0 < W := by lia
      have e1 : (W * Y + X) / W = Y := by rw [Nat.mul_add_div hW0, Nat.div_eq_of_lt hx, Nat.add_zero]
      have e2 : (W * Y + X) % W = X := by rw [Nat.mul_add_mod, Nat.mod_eq_of_lt hx]
      have p1 : 0 < (c r3).1 := by lia
      have p2 : 0 < (c r3).2 := by lia
      unfold rowAt
      rw [e1, e2, ← hX, ← hY, Nat.mul_add_div p2, Nat.mul_add_div p1, Nat.mul_add_mod, Nat.mul_add_mod, Nat.div_eq_of_lt h4, Nat.div_eq_of_lt h5, Nat.mod_eq_of_lt h4, Nat.mod_eq_of_lt h5, Nat.add_zero, Nat.add_zero]
def lt5 (a b : R5) : Prop := n5 a < n5 b
theorem sort_unique {α : Type} {k : α → Nat} : ∀ {a b : List α}, a.Pairwise (fun x y => k x < k y) → b.Pairwise (fun x y => k x < k y) → (∀ x, x ∈ a ↔ x ∈ b) → a = b
  | [], [], _, _, _ => rfl
  | [], y :: _, _, _, h => absurd ((h y).mpr (List.mem_cons_self ..)) List.not_mem_nil
  | x :: _, [], _, _, h => absurd ((h x).mp (List.mem_cons_self ..)) List.not_mem_nil
  | x :: a, y :: b, ha, hb, h => by
    rw [List.pairwise_cons] at ha hb
    have e : x = y := by
      rcases List.mem_cons.mp ((h x).mp (List.mem_cons_self ..)) with e | hx
      · exact e
      · rcases List.mem_cons.mp ((h y).mpr (List.mem_cons_self ..)) with e | hy
        · exact e.symm
        · have := ha.1 y hy
          have := hb.1 x hx
          lia
    subst e
    rw [sort_unique ha.2 hb.2 fun z => ?_]
    constructor
    · intro hz
      rcases List.mem_cons.mp ((h z).mp (List.mem_cons_of_mem _ hz)) with e | hz'
      · subst e; have := ha.1 z hz; lia
      · exact hz'
    · intro hz
      rcases List.mem_cons.mp ((h z).mpr (List.mem_cons_of_mem _ hz)) with e | hz'
      · subst e; have := hb.1 z hz; lia
      · exact hz'
theorem pw_range {n : Nat} : (List.range n).Pairwise (· < ·) := List.pairwise_lt_range
theorem unitW_sorted {n : Nat} {c : Nat → Nat × Nat} {a b : Nat} (hc : ∀ i, i < n → (c i).1 ≤ 100 ∧ (c i).2 ≤ 100) : (unitW n c a b).Pairwise lt5 := by
  unfold unitW
  rw [List.pairwise_flatMap]
  refine ⟨fun i hi => ?_, pw_range.imp_of_mem ?_⟩
  · have hi' := hc i (List.mem_range.mp hi)
    rw [List.pairwise_flatMap]
    refine ⟨fun dy _ => ?_, pw_range.imp_of_mem ?_⟩
    · rw [List.pairwise_map]
      exact pw_range.imp fun {x y} h => by unfold lt5 n5; dsimp only; lia
    · intro x y hx hy hlt r hr r' hr'
      obtain ⟨dx, h1, rfl⟩ := List.mem_map.mp hr
      obtain ⟨dx', h2, rfl⟩ := List.mem_map.mp hr'
      have := List.mem_range.mp h1
      have := List.mem_range.mp h2
      unfold lt5 n5; dsimp only; lia
  · intro x y hx hy hlt r hr r' hr'
    have hx' := hc x (List.mem_range.mp hx)
    simp only [List.mem_flatMap, List.mem_map, List.mem_range] at hr hr'
    obtain ⟨dy, h1, dx, h2, rfl⟩ := hr
    obtain ⟨dy', h1', dx', h2', rfl⟩ := hr'
    unfold lt5 n5; dsimp only; lia
theorem allW_sorted {mx my n : Nat} {c : Nat → Nat × Nat} (hm : 1 ≤ mx) (hm2 : mx ≤ 100) (hn : n ≤ 100) (hc : ∀ i, i < n → (c i).1 ≤ 100 ∧ (c i).2 ≤ 100) : (allW mx my n c).Pairwise lt5 := by
  unfold allW
  rw [List.pairwise_flatMap]
  refine ⟨fun u _ => unitW_sorted hc, pw_range.imp_of_mem ?_⟩
  intro u v hu hv hlt r hr r' hr'
  rw [mem_unitW] at hr hr'
  clear hu hv
  obtain ⟨r1, r2, r3, r4, r5⟩ := r
  obtain ⟨s1, s2, s3, s4, s5⟩ := r'
  dsimp only at hr hr'
  obtain ⟨rfl, rfl, a1, a2, a3⟩ := hr
  obtain ⟨rfl, rfl, b1, b2, b3⟩ := hr'
  have ca := hc _ a1
  have cb := hc _ b1
  have mu := Nat.mod_lt u hm
  have mv := Nat.mod_lt v hm
  have le := Nat.div_le_div_right (c := mx) (Nat.le_of_lt hlt)
  have du := Nat.div_add_mod u mx
  have dv := Nat.div_add_mod v mx
  unfold lt5 n5
  dsimp only
  rcases Nat.lt_or_ge (u / mx) (v / mx) with h | h
  · lia
  · have e : u / mx = v / mx := Nat.le_antisymm le h
    rw [e] at du ⊢
    have : u % mx < v % mx := by lia
    lia
/-- the rows in order are the units' rows one after the other -/
theorem sorted_rows {mx my n : Nat} {c : Nat → Nat × Nat} (hm : 1 ≤ mx) (hm2 : mx ≤ 100) (hn : n ≤ 100) (hc : ∀ i, i < n → 1 ≤ (c i).1 ∧ 1 ≤ (c i).2 ∧ (c i).1 ≤ 100 ∧ (c i).2 ≤ 100) {l : List R5} (hl : l.Perm (rowsL mx my n c)) (hs : l.Pairwise lt5) : l = allW mx my n c :=
  sort_unique (k := n5) hs (allW_sorted hm hm2 hn fun i hi => (hc i hi).2.2) fun _ => (hl.mem_iff).trans ((mem_rowsL hm fun i hi => ⟨(hc i hi).1, (hc i hi).2.1⟩).trans (mem_allW hm).symm)
end Mcu
namespace Mcu
def blkR (c : Nat → Nat × Nat) (q : Nat → Nat) (r : R5) : Nat × Nat × Nat × Nat := (r.2.2.1, q r.2.2.1, r.2.1 * (c r.2.2.1).1 + r.2.2.2.2, r.1 * (c r.2.2.1).2 + r.2.2.2.1)
abbrev Grp := (Nat × Nat) × List (Nat × Nat × Nat × Nat)
def grpStep (f : R5 → Nat × Nat × Nat × Nat) (G : List Grp) (r : R5) : List Grp :=
  match G.getLast? with
  | none => G ++ [((r.1, r.2.1), [f r])]
  | some g => if g.1 = (r.1, r.2.1) then G.dropLast ++ [(g.1, g.2 ++ [f r])] else G ++ [((r.1, r.2.1), [f r])]
variable {f : R5 → Nat × Nat × Nat × Nat}
theorem grpStep_nil {r : R5} : grpStep f [] r = [((r.1, r.2.1), [f r])] := rfl
theorem grpStep_eq {P : List Grp} {k : Nat × Nat} {b : List (Nat × Nat × Nat × Nat)} {r : R5} (e : k = (r.1, r.2.1)) : grpStep f (P ++ [(k, b)]) r = P ++ [(k, b ++ [f r])] := by
  unfold grpStep
  simp [List.getLast?_append, e]
theorem grpStep_ne {P : List Grp} {k : Nat × Nat} {b : List (Nat × Nat × Nat × Nat)} {r : R5} (e : k ≠ (r.1, r.2.1)) : grpStep f (P ++ [(k, b)]) r = P ++ [(k, b)] ++ [((r.1, r.2.1), [f r])] := by
  unfold grpStep
  simp [List.getLast?_append, e]
theorem grp_same {k : Nat × Nat} : ∀ {U : List R5} {P : List Grp} {b : List (Nat × Nat × Nat × Nat)}, (∀ r ∈ U, k = (r.1, r.2.1)) → U.foldl (grpStep f) (P ++ [(k, b)]) = P ++ [(k, b ++ U.map f)]
  | [], P, b, _ => by simp
  | r :: U, P, b, h => by
    rw [List.foldl_cons, grpStep_eq (h r (List.mem_cons_self ..)), grp_same fun x hx => h x (List.mem_cons_of_mem _ hx)]
    simp
theorem grp_unit {k : Nat × Nat} {U : List R5} {G : List Grp} (hU : U ≠ []) (hk : ∀ r ∈ U, k = (r.1, r.2.1)) (hG : ∀ g, G.getLast? = some g → g.1 ≠ k) : U.foldl (grpStep f) G = G ++ [(k, U.map f)] := by
  match U, hU with
  | r :: U, _ =>
    have e := hk r (List.mem_cons_self ..)
    rw [List.foldl_cons]
    have h1 : grpStep f G r = G ++ [(k, [f r])] := by
      unfold grpStep
      cases hg : G.getLast? with
      | none => rw [e]
      | some g =>
        dsimp only
        rw [if_neg (e ▸ hG g hg), e]
    rw [h1, grp_same fun x hx => hk x (List.mem_cons_of_mem _ hx)]
    simp
theorem grp_all {mx n : Nat} {c : Nat → Nat × Nat} (hn : 1 ≤ n) (hc : ∀ i, i < n → 1 ≤ (c i).1 ∧ 1 ≤ (c i).2) : ∀ N : Nat,
    ((List.range N).flatMap fun u => unitW n c (u / mx) (u % mx)).foldl (grpStep f) [] = (List.range N).map fun u => (((u / mx, u % mx), (unitW n c (u / mx) (u % mx)).map f) : Grp)
  | 0 => rfl
  | N + 1 => by
    rw [List.range_succ, List.flatMap_append, List.foldl_append, grp_all hn hc N, List.map_append]
    simp only [List.flatMap_cons, List.flatMap_nil, List.append_nil]
    rw [grp_unit (k := (N / mx, N % mx))]
    · rfl
    · intro e
      have : ((N / mx, N % mx, 0, 0, 0) : R5) ∈ unitW n c (N / mx) (N % mx) := mem_unitW.mpr ⟨rfl, rfl, hn, (hc 0 hn).2, (hc 0 hn).1⟩
      rw [e] at this
      cases this
    · intro r hr
      obtain ⟨e1, e2, _⟩ := mem_unitW.mp hr
      rw [e1, e2]
    · intro g hg
      match N with
      | 0 => cases hg
      | N + 1 =>
        rw [List.range_succ, List.map_append, List.getLast?_append] at hg
        simp only [List.map_cons, List.map_nil, List.getLast?_singleton, Option.some_or, Option.some.injEq] at hg
        subst hg
        intro e
        injection e with e1 e2
        have d1 := Nat.div_add_mod N mx
        have d2 := Nat.div_add_mod (N + 1) mx
        rw [← e1, ← e2] at d2
        lia
theorem unitW_map {n : Nat} {c : Nat → Nat × Nat} {q : Nat → Nat} {a b : Nat} : (unitW n c a b).map (blkR c q) = (List.range n).flatMap fun at_ => (List.range (c at_).2).flatMap fun dy => (List.range (c at_).1).map fun dx => (at_, q at_, b * (c at_).1 + dx, a * (c at_).2 + dy) := by
  unfold unitW
  simp only [List.map_flatMap, List.map_map]
  rfl
/-- the greatest scans: two runs of equal length -/
def twoOk (l : List R5) : Bool :=
  let n := l.length
  let k := fun i => n5 (l.getD i (0, 0, 0, 0, 0))
  n == 72 && k 6 < k 5 && k 36 < k 37 || n == 64 && ((k 6 < k 5) || (k 4 < k 3)) && k 32 < k 33
def opts : List (Nat × Nat) := [(1, 1), (1, 2), (2, 1), (2, 2), (3, 1), (3, 2)]
def fits (mx my : Nat) (x : Nat × Nat) : Bool := (mx - 1) * x.1 ≤ 3 && (my - 1) * x.2 ≤ 2
def big3 : Bool := [1, 2, 3, 4].all fun mx => [1, 2, 3].all fun my => opts.all fun a => opts.all fun b => opts.all fun e =>
  !(fits mx my a && fits mx my b && fits mx my e) || (let m := mx * my * (a.1 * a.2 + b.1 * b.2 + e.1 * e.2); m < 64 || twoOk (rowsL mx my 3 fun i => [a, b, e].getD i (1, 1)))
theorem big3_ok : big3 = true := by decide +kernel
end Mcu
namespace Mcu
theorem n5_inj {r s : R5} (hr : r.2.1 < 128 ∧ r.2.2.1 < 128 ∧ r.2.2.2.1 < 128 ∧ r.2.2.2.2 < 128) (hs : s.2.1 < 128 ∧ s.2.2.1 < 128 ∧ s.2.2.2.1 < 128 ∧ s.2.2.2.2 < 128) (e : n5 r = n5 s) : r = s := by
  obtain ⟨r1, r2, r3, r4, r5⟩ := r
  obtain ⟨s1, s2, s3, s4, s5⟩ := s
  unfold n5 at e
  dsimp only at hr hs e
  have a1 : r1 = s1 := by lia
  have a2 : r2 = s2 := by lia
  have a3 : r3 = s3 := by lia
  have a4 : r4 = s4 := by lia
  have a5 : r5 = s5 := by lia
  rw [a1, a2, a3, a4, a5]
theorem rowAt_inj {c : Nat → Nat × Nat} {a w i j : Nat} (e : rowAt c a w i = rowAt c a w j) : i = j := by
  unfold rowAt at e
  simp only [Prod.mk.injEq] at e
  obtain ⟨e1, e2, -, e4, e5⟩ := e
  have y : i / w = j / w := by
    rw [← Nat.div_add_mod (i / w) (c a).2, ← Nat.div_add_mod (j / w) (c a).2, e1, e4]
  have x : i % w = j % w := by
    rw [← Nat.div_add_mod (i % w) (c a).1, ← Nat.div_add_mod (j % w) (c a).1, e2, e5]
  rw [← Nat.div_add_mod i w, ← Nat.div_add_mod j w, x, y]
theorem rowsL_nodup {mx my n : Nat} {c : Nat → Nat × Nat} : (rowsL mx my n c).Nodup := by
  unfold rowsL List.Nodup
  rw [List.pairwise_flatMap]
  refine ⟨fun i _ => ?_, pw_range.imp_of_mem ?_⟩
  · unfold rowsAt
    rw [List.pairwise_map]
    exact pw_range.imp fun {x y} h e => Nat.ne_of_lt h (rowAt_inj e)
  · intro x y hx hy hlt r hr r' hr' e
    subst e
    obtain ⟨i, _, e1⟩ := List.mem_map.mp hr
    obtain ⟨j, _, e2⟩ := List.mem_map.mp hr'
    have := congrArg (·.2.2.1) (e1.trans e2.symm)
    exact Nat.ne_of_lt hlt this
def small5 (mx n : Nat) (c : Nat → Nat × Nat) : Prop := 1 ≤ mx ∧ mx ≤ 100 ∧ n ≤ 100 ∧ ∀ i, i < n → 1 ≤ (c i).1 ∧ 1 ≤ (c i).2 ∧ (c i).1 ≤ 100 ∧ (c i).2 ≤ 100
theorem rowsL_apart {mx my n : Nat} {c : Nat → Nat × Nat} (h : small5 mx n c) : ((rowsL mx my n c).map n5).Nodup := by
  obtain ⟨h1, h2, h3, h4⟩ := h
  have hin : ∀ r ∈ rowsL mx my n c, r.2.1 < 128 ∧ r.2.2.1 < 128 ∧ r.2.2.2.1 < 128 ∧ r.2.2.2.2 < 128 := fun r hr => by
    obtain ⟨_, a2, a3, a4, a5⟩ := (mem_rowsL h1 fun i hi => ⟨(h4 i hi).1, (h4 i hi).2.1⟩).mp hr
    have := h4 _ a3
    lia
  unfold List.Nodup
  rw [List.pairwise_map]
  exact List.Pairwise.imp_of_mem (fun {a b} ha hb hne e => hne (n5_inj (hin a ha) (hin b hb) e)) rowsL_nodup
theorem rowsAt_len {mx my : Nat} {c : Nat → Nat × Nat} {i : Nat} : (rowsAt mx my c i).length = mx * (c i).1 * (my * (c i).2) := by
  unfold rowsAt; rw [List.length_map, List.length_range]
theorem rowsL_first {mx my n : Nat} {c : Nat → Nat × Nat} (hm : 1 ≤ mx) (hy : 1 ≤ my) (hn : 1 ≤ n) (hc : ∀ i, i < n → 1 ≤ (c i).1 ∧ 1 ≤ (c i).2) : ∃ t, rowsL mx my n c = (0, 0, 0, 0, 0) :: t := by
  obtain ⟨k, rfl⟩ : ∃ k, n = k + 1 := ⟨n - 1, by lia⟩
  have h0 := hc 0 hn
  obtain ⟨z, hz⟩ : ∃ z, mx * (c 0).1 * (my * (c 0).2) = z + 1 := ⟨mx * (c 0).1 * (my * (c 0).2) - 1, by
    have : 0 < mx * (c 0).1 * (my * (c 0).2) := Nat.mul_pos (Nat.mul_pos hm h0.1) (Nat.mul_pos hy h0.2)
    lia⟩
  unfold rowsL
  rw [List.range_succ_eq_map, List.flatMap_cons]
  unfold rowsAt
  rw [hz, List.range_succ_eq_map, List.map_cons, List.cons_append]
  refine ⟨_, congrArg (· :: _) ?_⟩
  unfold rowAt
  simp
section
variable {prog : Program} {w : World} {A : Around} {E : Value → Shared → Prop} {s : Shared} {κ : Keyed → Nat}
theorem kk_map {xs : Array Keyed} {l : List R5} (h : xs.toList.map κ = l.map n5) {i : Nat} (hi : i < l.length) : kk κ xs i = n5 (l.getD i (0, 0, 0, 0, 0)) := by
  have e : (xs.toList.map κ)[i]? = (l.map n5)[i]? := by rw [h]
  rw [List.getElem?_map, List.getElem?_map, List.getElem?_eq_getElem hi, Option.map_some, Array.getElem?_toList] at e
  unfold kk
  cases hx : xs[i]? with
  | none => rw [hx] at e; cases e
  | some p =>
    rw [hx, Option.map_some] at e
    dsimp only
    rw [Option.some.inj e, List.getD_eq_getElem?_getD, List.getElem?_eq_getElem hi]
    rfl
theorem run_rows {l : List R5} {vs : List Value} {Q' : Unit → SortSt → Prop} (h : (pairsOf vs).toList.map κ = l.map n5) (h2 : 2 ≤ l.length) (nd : (l.map n5).Nodup) (h0 : ∃ t, l = (0, 0, 0, 0, 0) :: t) (big : 64 ≤ l.length → twoOk l = true)
    (D : Dec prog w A s κ (fun p => p ∈ (pairsOf vs).toList))
    (hq : ∀ st', (arrOf st').Perm (pairsOf vs) → ((arrOf st').toList.map κ).Pairwise (· < ·) → failedOf st' = none → Q' () st') : wpS (model prog w) A E s sortRuns' Q' (SortSt.mk' oneType' (pairsOf vs) #[] 7 none) := by
  have hsz : (pairsOf vs).size = l.length := by
    have := congrArg List.length h
    simpa using this
  have hA : Apart κ (pairsOf vs) := by unfold Apart; rw [h]; exact nd
  have hasc : kk κ (pairsOf vs) 0 < kk κ (pairsOf vs) 1 := by
    rw [kk_map h (by lia), kk_map h (by lia)]
    obtain ⟨t, rfl⟩ := h0
    match t, h2 with
    | r :: t, _ =>
      have : n5 (0, 0, 0, 0, 0) ≠ n5 r := by
        rw [List.map_cons, List.nodup_cons] at nd
        exact fun e => nd.1 (e ▸ List.mem_map_of_mem (List.mem_cons_self ..))
      show n5 (0, 0, 0, 0, 0) < n5 r
      have z : n5 (0, 0, 0, 0, 0) = 0 := rfl
      lia
  have hP : AllP (fun p => p ∈ (pairsOf vs).toList) (pairsOf vs) := fun x hx => hx
  by_cases hb : l.length < 64
  · exact one_S D hP hA rfl rfl rfl (show 2 ≤ (pairsOf vs).size by lia) (show (pairsOf vs).size < 64 by lia) hasc hq
  · have ok := big (by lia)
    have go : ∀ {mr : Nat}, minRun' l.length l.length 0 = mr → 2 ≤ mr → l.length = mr + mr → (∃ j, j + 1 < mr ∧ n5 (l.getD (j + 1) (0, 0, 0, 0, 0)) < n5 (l.getD j (0, 0, 0, 0, 0))) → n5 (l.getD mr (0, 0, 0, 0, 0)) < n5 (l.getD (mr + 1) (0, 0, 0, 0, 0)) → wpS (model prog w) A E s sortRuns' Q' (SortSt.mk' oneType' (pairsOf vs) #[] 7 none) := by
      intro mr hmr hm2 hl ⟨j, hj, hd⟩ ha
      refine two_S (mr := mr) D hP hA rfl rfl rfl ?_ hm2 (hsz.trans hl) hasc ⟨j, hj, ?_⟩ ?_ hq
      · show minRun' (pairsOf vs).size (pairsOf vs).size 0 = mr
        rw [hsz]; exact hmr
      · show kk κ (pairsOf vs) (j + 1) < kk κ (pairsOf vs) j
        rw [kk_map h (by lia), kk_map h (by lia)]; exact hd
      · show kk κ (pairsOf vs) mr < kk κ (pairsOf vs) (mr + 1)
        rw [kk_map h (by lia), kk_map h (by lia)]; exact ha
    unfold twoOk at ok
    simp only [Bool.or_eq_true, Bool.and_eq_true, beq_iff_eq, decide_eq_true_eq] at ok
    rcases ok with ⟨⟨e, d⟩, a⟩ | ⟨⟨e, d⟩, a⟩
    · refine go (mr := 36) (by rw [e]; decide +kernel) (by decide) e ⟨5, by decide, d⟩ a
    · refine go (mr := 32) (by rw [e]; decide +kernel) (by decide) e ?_ a
      rcases d with d | d
      · exact ⟨5, by decide, d⟩
      · exact ⟨3, by decide, d⟩
end
theorem big_rows {mx my n : Nat} {c : Nat → Nat × Nat} (h1 : 1 ≤ mx ∧ mx ≤ 4) (h2 : 1 ≤ my ∧ my ≤ 3) (hn : n ≤ 3) (hc : ∀ i, i < n → 1 ≤ (c i).1 ∧ (c i).1 ≤ 3 ∧ 1 ≤ (c i).2 ∧ (c i).2 ≤ 2 ∧ (mx - 1) * (c i).1 ≤ 3 ∧ (my - 1) * (c i).2 ≤ 2)
    (hl : 64 ≤ (rowsL mx my n c).length) : n = 3 ∧ twoOk (rowsL mx my n c) = true := by
  have each : ∀ i, i < n → mx * (c i).1 * (my * (c i).2) ≤ 24 := fun i hi => by
    have := hc i hi
    have a : mx * (c i).1 ≤ 6 := by
      obtain ⟨k, rfl⟩ : ∃ k, mx = k + 1 := ⟨mx - 1, by lia⟩
      rw [Nat.add_mul, Nat.one_mul]
      have := this.2.2.2.2.1
      rw [Nat.add_sub_cancel] at this
      lia
    have b : my * (c i).2 ≤ 4 := by
      obtain ⟨k, rfl⟩ : ∃ k, my = k + 1 := ⟨my - 1, by lia⟩
      rw [Nat.add_mul, Nat.one_mul]
      have := this.2.2.2.2.2
      rw [Nat.add_sub_cancel] at this
      lia
    exact Nat.mul_le_mul a b
  match n, hn with
  | 0, _ => simp [rowsL] at hl
  | 1, _ =>
    have := each 0 (by lia)
    simp [rowsL, rowsAt_len] at hl
    lia
  | 2, _ =>
    have := each 0 (by lia)
    have := each 1 (by lia)
    simp [rowsL, List.range_succ_eq_map, rowsAt_len] at hl
    lia
  | 3, _ =>
    refine ⟨rfl, ?_⟩
    have e : rowsL mx my 3 c = rowsL mx my 3 fun i => [c 0, c 1, c 2].getD i (1, 1) := by
      show rowsAt mx my c 0 ++ (rowsAt mx my c 1 ++ (rowsAt mx my c 2 ++ [])) = _
      rfl
    have mo : ∀ i, i < 3 → c i ∈ opts := fun i hi => by
      obtain ⟨a1, a2, a3, a4, _⟩ := hc i hi
      generalize c i = x at *
      obtain ⟨x, y⟩ := x
      dsimp only at a1 a2 a3 a4
      have hx : x = 1 ∨ x = 2 ∨ x = 3 := by lia
      have hy : y = 1 ∨ y = 2 := by lia
      rcases hx with rfl | rfl | rfl <;> rcases hy with rfl | rfl <;> decide
    have ft : ∀ i, i < 3 → fits mx my (c i) = true := fun i hi => by
      have := hc i hi
      unfold fits
      simp [this.2.2.2.2.1, this.2.2.2.2.2]
    have b := big3_ok
    unfold big3 at b
    have b1 := List.all_eq_true.mp b mx (by simp; lia)
    have b2 := List.all_eq_true.mp b1 my (by simp; lia)
    have b3 := List.all_eq_true.mp b2 _ (mo 0 (by lia))
    have b4 := List.all_eq_true.mp b3 _ (mo 1 (by lia))
    have b5 := List.all_eq_true.mp b4 _ (mo 2 (by lia))
    rw [ft 0 (by lia), ft 1 (by lia), ft 2 (by lia), ← e] at b5
    simp only [Bool.and_self, Bool.not_true, Bool.false_or, Bool.or_eq_true, decide_eq_true_eq] at b5
    rcases b5 with h | h
    · exfalso
      simp [rowsL, List.range_succ_eq_map, rowsAt_len] at hl
      have q : ∀ i, mx * (c i).1 * (my * (c i).2) = mx * my * ((c i).1 * (c i).2) := fun i => Nat.mul_mul_mul_comm ..
      rw [q, q, q] at hl
      rw [Nat.mul_add, Nat.mul_add] at h
      lia
    · exact h
end Mcu
namespace Mcu
theorem filled (w : World) (h : Heap) (H : (hd.heap_1 w.params).In h) : Challenge.rw_nt0544_01.Holds → (hd.heap_1 w.params).In h := by
  w_top off
  k_fill
  exact fun _ => H

/-- all that stands in one heap stands in the other -/
theorem mulN {n k : Nat} {b : Int} (h : n ≤ k) (e : Nat.ble (k + 1) 18446744073709551616 = true) : IntMulOk (n : Int) b := .of_left (intBits_le_64 (by omega) (by have := Nat.le_of_ble_eq_true e; omega))
theorem cpos {n : Nat} (h : 1 ≤ n) : 0 < (n : Int) := by omega
theorem clt {n k z : Nat} (h : n ≤ k) (e : Nat.ble (k + 1) z = true) : (n : Int) < (z : Int) := Int.ofNat_lt.mpr (Nat.lt_of_le_of_lt h (Nat.le_of_ble_eq_true e))
theorem rm {a b c k : Nat} (h : a ≤ b) (e : Nat.ble (b + k) c = true) : a + k ≤ c := Nat.le_trans (Nat.add_le_add_right h k) (Nat.le_of_ble_eq_true e)
theorem rl {a b : Nat} (h : a ≤ b) (e : Nat.ble (b + 1) 1000 = true) : a < recursionLimit := Nat.lt_of_le_of_lt h (Nat.le_of_ble_eq_true e)
def Kp (h h' : Heap) : Prop := ∀ b o, h.get? b = some o → h'.get? b = some o
theorem Kp.refl (h : Heap) : Kp h h := fun _ _ e => e
theorem Kp.trans {h h' h'' : Heap} (x : Kp h h') (y : Kp h' h'') : Kp h h'' := fun b o e => y b o (x b o e)

/-- all that stands in one heap stands in the other, but for some places -/
def KpB (as : List Addr) (h h' : Heap) : Prop := ∀ b o, b ∉ as → h.get? b = some o → h'.get? b = some o
theorem Kp.but {as : List Addr} {h h' : Heap} (k : Kp h h') : KpB as h h' := fun b o _ e => k b o e
theorem KpB.trans {as : List Addr} {h h' h'' : Heap} (x : KpB as h h') (y : KpB as h' h'') : KpB as h h'' := fun b o n e => y b o n (x b o n e)
theorem fresh_of {g h h' : Heap} {L : Addr} {news : List (Addr × Obj)} {D : Addr} {o : Obj} (k : Kp h g) (N : News g L h' news) (hm : (D, o) ∈ news) : h.get? D = none := by
  cases e : h.get? D with
  | none => rfl
  | some x => have := (N _ hm).2.2; rw [k _ _ e] at this; cases this
theorem news_add {h₀ h h' : Heap} {L : Addr} {m : Str → Option Value} {news : List (Addr × Obj)} {D : Addr} {o : Obj} (F : Fr h₀ L h m) (N : News h₀ L h news) (k : Kp h h') (hD : h.get? D = none) (ho : h'.get? D = some o) :
    News h₀ L h' ((D, o) :: news) ∧ ∀ p ∈ news, p.1 ≠ D := by
  refine ⟨fun p hp => ?_, fun p hp e => ?_⟩
  · rcases List.mem_cons.mp hp with rfl | hp
    · refine ⟨ho, fun e => ?_, ?_⟩
      · obtain ⟨oL, _, _, e2, _⟩ := F.ns
        have e : D = L := e
        rw [← e, hD] at e2
        cases e2
      · cases e : h₀.get? D with
        | none => rfl
        | some x => have := F.keep _ _ e; rw [hD] at this; cases this
    · exact ⟨k _ _ (N p hp).1, (N p hp).2⟩
  · have := (N p hp).1
    rw [e, hD] at this
    cases this
abbrev tupO (vs : List Value) : Obj := { cls := .type "tuple", data := .seq vs.toArray }
/-- the walk halts here -/
def Halt (P : Prop) : Prop := P
theorem halt {P : Prop} (h : Halt P) : P := h
theorem unhalt {P : Prop} (h : P) : Halt P := h

theorem all_nil {α : Type} {Φ : α → Prop} : ∀ p ∈ ([] : List α), Φ p := fun _ h => nomatch h
theorem all_cons {α : Type} {Φ : α → Prop} {a : α} {l : List α} (h : Φ a) (r : ∀ p ∈ l, Φ p) : ∀ p ∈ a :: l, Φ p := fun p hp => (List.mem_cons.mp hp).elim (fun e => e ▸ h) (r p)
theorem all_app {α : Type} {Φ : α → Prop} {l l' : List α} (h : ∀ p ∈ l, Φ p) (r : ∀ p ∈ l', Φ p) : ∀ p ∈ l ++ l', Φ p := fun p hp => (List.mem_append.mp hp).elim (h p) (r p)
theorem inst_of {h : Heap} {x C dx : Addr} {es : List DictEntry} {n : Nat} (hx : h.get? x = some (instObj C dx)) (hd : h.get? dx = some (dictOf es n)) : InstAt h x (instObj C dx) C (some (dictOf es n)) := ⟨hx, rfl, rfl, hd⟩
theorem inst_up {g h : Heap} {L x C : Addr} {m : Str → Option Value} {ox : Obj} {od : Option Obj} (I : InstAt g x ox C od) (F : Fr g L h m) : InstAt h x ox C od :=
  ⟨F.keep _ _ I.at_, I.cls, I.no, by
    have := I.dict
    revert this
    cases ox.dict <;> cases od <;> intro q <;> first | exact q | exact F.keep _ _ q⟩
theorem list_up {g h : Heap} {L l : Addr} {m : Str → Option Value} {its : Array Value} (x : g.IsList l its) (F : Fr g L h m) : h.IsList l its := let ⟨o, ho, r⟩ := x; ⟨o, F.keep l o ho, r⟩
theorem kp_fr {g h : Heap} {L : Addr} {m : Str → Option Value} (F : Fr g L h m) : Kp g h := F.keep
theorem inst_kp {g h : Heap} {x C : Addr} {ox : Obj} {od : Option Obj} (I : InstAt g x ox C od) (F : Kp g h) : InstAt h x ox C od :=
  ⟨F _ _ I.at_, I.cls, I.no, by
    have := I.dict
    revert this
    cases ox.dict <;> cases od <;> intro q <;> first | exact q | exact F _ _ q⟩
theorem list_kp {g h : Heap} {l : Addr} {its : Array Value} (x : g.IsList l its) (F : Kp g h) : h.IsList l its := let ⟨o, ho, r⟩ := x; ⟨o, F l o ho, r⟩

section
variable {prog : Program} {w : World} {A A₀ : Around} {E : Value → Shared → Prop} {s : Shared} {K : Frag} {C L : Addr} {h₀ base : Heap} {m mg mb : Str → Option Value} {news : List (Addr × Obj)} {p : Program} {loose : List Str} {mean : ExcName → Option Value}
/-- a def is entered; nothing of the caller's is open to it: its ground is the whole heap -/
theorem code_def0 {env : Env} {outer : List Env} {R : Result → Shared → Prop} {name qual : Str} {params : Arguments} {body : List Stmt} {scope : Scope} {dV kV doc pm cdv ct oc : Value} {an od : Option Addr} {osl : Array (Option Value)} {f : Addr} {args : Args} {binds : List (Str × Value)}
    (B : Below A₀ base outer h₀) (F : Fr h₀ L s.heap m) (X₀ : K.In h₀) (T : Top p loose mean mg mb h₀) (hA : A.frames = some (env :: outer)) (hf : env.frame = some L) (hke : env.scope.kind = .function)
    (ho : K.lookup f = some ⟨oc, od, .func (fnOf name qual params body scope dV kV doc pm an cdv ct), osl⟩) (hcd : codeIn K cdv qual = true) (hroom : A.depth < recursionLimit)
    (hbind : BindsTo s (fnOf name qual params body scope dV kV doc pm an cdv ct) args binds) (hloc : ∀ y ∈ binds, scope.names.lookup y.1 = some .local)
    (h : ∀ g L' h₁, Kp s.heap g → Fr h₀ L g m → Fr g L' h₁ (fun y => binds.reverse.lookup y) → News g L' h₁ [] → Below A base (env :: outer) g → K.In g → Top p loose mean mg mb g →
      let env' := envOf qual scope L' f cdv
      let A' := A.deeper env'
      let q' : Flow → Shared → Prop := fun fl s' => LeaveK h₀ L m g R (match fl with | .ret v => v | _ => .none) s'
      let e' : Value → Shared → Prop := fun e s' => wpAny (model prog w) A' (leaving env' e) (fun _ s'' => R (.error e) s'') (fun e' s'' => R (.error e') s'') s'
      wpAny (model prog w) A' (execs body env') q' e' { s with heap := h₁, toks := s.toks + binds.length })
    (hco : scope.isCoroutine = false) (hgen : scope.isGenerator = false) (hk : scope.kind = .function)
    (hcell : ∀ x ∈ scope.names, x.2 ≠ .cell) : codeAny (model prog w) A (.call (.ref f) args) R s := by
  have B₁ := pushX B F hf hke
  refine codeAny_call_def (fd := fnX name qual params body scope [] dV kV doc pm an cdv ct) (body := body) (binds := binds) hroom ((X₀.keeps F.keep) _ _ ho) rfl (T.nolimit.keeps F.keep) (codeRec_of (X₀.keeps F.keep) hcd) rfl hbind hcell hloc (fun h₁ hns hk₁ => ?_) hco hgen hk
  obtain ⟨oL, es, ep, hL, hLd, hLk, hLf⟩ := F.ns
  refine wpAny_mono (h s.heap s.heap.objs.size h₁ (Kp.refl _) F ⟨hns, hk₁, Nat.le_refl _⟩ News.nil ⟨hA, fun b o e => F.keep b o (B.stays b o e), B₁.frames⟩ (X₀.keeps F.keep) (T.keeps F.keep)) (fun fl s' hl => ?_) fun _ _ y => y
  obtain ⟨L', m', news', F', N', k⟩ := hl
  refine k ⟨⟨oL, es, ep, F'.keep L oL hL, hLd, hLk, hLf⟩, fun b o e => F'.keep b o (F.keep b o e), F.above⟩ fun p hp => ⟨(N' p hp).1, fun q => ?_, ?_⟩
  · have := (N' p hp).2.2; rw [q, hL] at this; cases this
  · cases q : h₀.get? p.1 with
    | none => rfl
    | some o => have := (N' p hp).2.2; rw [F.keep _ _ q] at this; cases this
/-- a def is entered with a ledger: its ground is the heap but for the ledger -/
theorem code_defN {env : Env} {outer : List Env} {R : Result → Shared → Prop} {name qual : Str} {params : Arguments} {body : List Stmt} {scope : Scope} {dV kV doc pm cdv ct oc : Value} {an od : Option Addr} {osl : Array (Option Value)} {f : Addr} {args : Args} {binds : List (Str × Value)}
    (B : Below A₀ base outer h₀) (F : Fr h₀ L s.heap m) (X₀ : K.In h₀) (N : News h₀ L s.heap news) (T : Top p loose mean mg mb h₀) (hA : A.frames = some (env :: outer)) (hf : env.frame = some L) (hke : env.scope.kind = .function)
    (ho : K.lookup f = some ⟨oc, od, .func (fnOf name qual params body scope dV kV doc pm an cdv ct), osl⟩) (hcd : codeIn K cdv qual = true) (hroom : A.depth < recursionLimit)
    (hbind : BindsTo s (fnOf name qual params body scope dV kV doc pm an cdv ct) args binds) (hloc : ∀ y ∈ binds, scope.names.lookup y.1 = some .local)
    (h : ∀ g L' h₁, KpB (news.map (·.1)) s.heap g → Fr h₀ L g m → Fr g L' h₁ (fun y => binds.reverse.lookup y) → News g L' h₁ news → Below A base (env :: outer) g → K.In g → Top p loose mean mg mb g →
      let env' := envOf qual scope L' f cdv
      let A' := A.deeper env'
      let q' : Flow → Shared → Prop := fun fl s' => LeaveK h₀ L m g R (match fl with | .ret v => v | _ => .none) s'
      let e' : Value → Shared → Prop := fun e s' => wpAny (model prog w) A' (leaving env' e) (fun _ s'' => R (.error e) s'') (fun e' s'' => R (.error e') s'') s'
      wpAny (model prog w) A' (execs body env') q' e' { s with heap := h₁, toks := s.toks + binds.length })
    (hco : scope.isCoroutine = false) (hgen : scope.isGenerator = false) (hk : scope.kind = .function)
    (hcell : ∀ x ∈ scope.names, x.2 ≠ .cell) : codeAny (model prog w) A (.call (.ref f) args) R s := by
  obtain ⟨FG, BG, st, lv⟩ := groundX (R := R) B F N hA hf hke
  refine codeAny_call_def (fd := fnX name qual params body scope [] dV kV doc pm an cdv ct) (body := body) (binds := binds) hroom ((X₀.keeps F.keep) _ _ ho) rfl (T.nolimit.keeps F.keep) (codeRec_of (X₀.keeps F.keep) hcd) rfl hbind hcell hloc (fun h₁ hns hk₁ => ?_) hco hgen hk
  exact wpAny_mono (h _ s.heap.objs.size h₁ (fun b o hb e => hideAll_get _ e hb) FG ⟨hns, fun b o e => hk₁ b o (of_hideAll _ e), Nat.le_of_eq (hideAll_size _ _)⟩
    (fun p hp => ⟨hk₁ _ _ (N p hp).1, Nat.ne_of_lt (Heap.lt_size (N p hp).1), hideAll_none _ (List.mem_map_of_mem hp)⟩) BG (X₀.keeps st) (T.keeps st)) (fun fl s' hl => lv _ _ hl) fun _ _ y => y
end

section
variable {prog : Program} {w : World} {A : Around} {E : Value → Shared → Prop} {s : Shared}
theorem len_at {l : Addr} {its : Array Value} {n : Nat} {Q : Value → Shared → Prop} (hl : s.heap.IsList l its) (hn : its.size = n) (hb : n < 4611686018427387904)
    (h : Q (.int (n : Int) (s.toks + 1)) { s with toks := s.toks + 1 + 1 }) : wpAny (model prog w) A (call (.builtin "len") [.ref l]) Q E s := by
  subst hn
  exact len_list hl (by omega) h
/-- an item of a list at a place that is known -/
theorem item_at {value slice : PySem.Expr} {l : Addr} {its : Array Value} {k : Int} {u : Tok} {i : Nat} {v : Value} {Q : Value → Shared → Prop}
    (hl : s.heap.IsList l its) (hk : k = (i : Int)) (hi : i < 4611686018427387904) (hx : its[i]? = some v) (h : Q v s)
    (hs : subscripted slice false (.ref l) (.int k u) = operate [.ref l, .int k u] (getItem (.ref l) (.int k u)) := by with_unfolding_all rfl) :
    wpAny (model prog w) A (subscriptTail value slice (.ref l) (.int k u)) Q E s := by
  subst hk
  exact tail_any hl.typeIs slot_list_getitem.lookup (wpAny_getItem_list hl (by omega) (by omega) (by simpa using hx) h) hs
end

def cdiv (x y : Nat) : Nat := (x + y - 1) / y
theorem cdiv_int {x y : Nat} (hy : 0 < y) : ((x : Int) + (y : Int) - 1).fdiv (y : Int) = ((cdiv x y : Nat) : Int) := by
  have e : (x : Int) + (y : Int) - 1 = ((x + y - 1 : Nat) : Int) := by omega
  rw [e, cdiv, Int.fdiv_eq_ediv_of_nonneg _ (by omega)]
  rfl
section
open PyProof.Rows.LCg
variable {prog : Program} {w : World} {A : Around} {h₀ : Heap} {L : Addr} {m : Str → Option Value} {env : Env} {elt : Expr} {x : Str} {scope : Scope} {cl : List (Str × Addr)} {s : Shared} {S : List (Addr × Obj) → Prop} {P : Nat → Value → Prop} {Fin : List Value → List (Addr × Obj) → Prop}
/-- a comprehension by an invariant -/
theorem compRest_of {n : Nat} (J : Nat → List Value → List (Addr × Obj) → Prop)
    (step : ∀ i ys news, i < n → J i ys news → ∀ v I oI C oC D m₂ h tk (E' : Value → Shared → Prop), P i v → NsObj oC m₂ → m₂ x = some v → Fr h₀ L h m → News h₀ L h ((I, oI) :: (C, oC) :: (D, lst ys) :: news) → Off3 I C D news → ((@Ne Nat I C) ∧ (@Ne Nat I D) ∧ (@Ne Nat C D)) →
      wpAny (model prog w) A (eval elt (compEnvC scope cl C env)) (CompEnd h₀ L m { s with heap := h, toks := tk } I oI C oC D (lst ys) S (fun y news' => J (i + 1) (ys ++ [y]) news')) E' { s with heap := h, toks := tk })
    (fin : ∀ ys news, J n ys news → Fin ys news) : ∀ k i, i + k = n → ∀ ys news, J i ys news → CompRest prog w A h₀ L m env elt x scope cl s S P Fin k i ys news
  | 0, i, e, ys, news, h => CompRest.zero (fin _ _ (by rw [← show i = n by omega]; exact h))
  | k + 1, i, e, ys, news, hJ => CompRest.succ fun v I oI C oC D m₂ h tk E' hP hN hx F N off ne =>
      wpAny_mono (step i ys news (by omega) hJ v I oI C oC D m₂ h tk E' hP hN hx F N off ne)
        (fun y s' ⟨h', tk', news', e', F', N', o', hS, r⟩ => ⟨h', tk', news', e', F', N', o', hS, compRest_of J step fin k (i + 1) (by omega) _ _ r⟩) fun _ _ z => z
end
end Mcu
namespace Mcu
local macro_rules | `(tactic| k_inst) => `(tactic| exact inst_up (by assumption) (by k_asm))
local macro_rules
  | `(tactic| walk_at $k:str) => if ["call ref", "call builtin:len", "subscriptTail", "eval ListComp", "exec Assign cons ListComp", "exec For Name Call cons nil", "exec For Name Attribute cons nil", "exec For Name Name cons nil", "exec While Compare", "CompSrc", "CompEnd"].contains k.getString then `(tactic| refine halt ?_) else Lean.Macro.throwUnsupported
local macro_rules | `(tactic| k_all) => `(tactic| assumption)
local macro_rules | `(tactic| mul_fits) => `(tactic| exact mulN (by assumption) rfl)
set_option maxRecDepth 100000
set_option maxHeartbeats 8000000
structure Fm where
  W : Nat
  H : Nat
  n : Nat
  cs : List (Nat × Nat)
abbrev key (w : World) (x : Str) (t : Tok) (v : Value) : DictEntry := { hash := PyData.keyHash w.params x, key := .str x t, val := v }
/-- what is not asked of an object: addresses, tokens, values -/
structure Rep where
  dx : Addr
  lc : Addr
  crs : List Addr
  v : Nat → Value
  k : Nat → Tok
def coEs (w : World) (x : Nat × Nat) (r : Rep) : List DictEntry :=
  [key w (Str.ofString "ident") (r.k 0) (r.v 0), key w (Str.ofString "across") (r.k 1) (.int (x.1 : Int) (r.k 2)), key w (Str.ofString "down") (r.k 3) (.int (x.2 : Int) (r.k 4)), key w (Str.ofString "quant") (r.k 5) (r.v 1)]
def CompAt (w : World) (h : Heap) (c : Addr) (x : Nat × Nat) : Prop := ∃ r, InstAt h c (instObj 80 r.dx) 80 (some (dictOf (coEs w x r) 4))
noncomputable def CompsAt (w : World) (h : Heap) : List Addr → List (Nat × Nat) → Prop
  | [], [] => True
  | c :: cs, x :: xs => CompAt w h c x ∧ CompsAt w h cs xs
  | _, _ => False
def frEs (w : World) (d : Fm) (r : Rep) : List DictEntry :=
  [key w (Str.ofString "kind") (r.k 0) (r.v 0), key w (Str.ofString "precision") (r.k 1) (r.v 1), key w (Str.ofString "height") (r.k 2) (.int (d.H : Int) (r.k 3)), key w (Str.ofString "width") (r.k 4) (.int (d.W : Int) (r.k 5)), key w (Str.ofString "components") (r.k 6) (.ref r.lc), key w (Str.ofString "n") (r.k 7) (.int (d.n : Int) (r.k 8))]
structure FrameIs (w : World) (h : Heap) (fr : Addr) (d : Fm) (r : Rep) : Prop where
  inst : InstAt h fr (instObj 146 r.dx) 146 (some (dictOf (frEs w d r) 6))
  list : h.IsList r.lc (r.crs.map Value.ref).toArray
  comps : CompsAt w h r.crs d.cs
def FrameAt (w : World) (h : Heap) (fr : Addr) (d : Fm) : Prop := ∃ r, FrameIs w h fr d r
theorem CompAt.kp {w : World} {h h' : Heap} {c : Addr} {x : Nat × Nat} (k : Kp h h') (a : CompAt w h c x) : CompAt w h' c x := let ⟨r, I⟩ := a; ⟨r, inst_kp I k⟩
theorem CompsAt.kp {w : World} {h h' : Heap} (k : Kp h h') : ∀ {cs : List Addr} {xs : List (Nat × Nat)}, CompsAt w h cs xs → CompsAt w h' cs xs
  | [], [], _ => trivial
  | _ :: _, _ :: _, a => ⟨a.1.kp k, CompsAt.kp k a.2⟩
  | [], _ :: _, a => a.elim
  | _ :: _, [], a => a.elim
theorem CompsAt.length {w : World} {h : Heap} : ∀ {cs : List Addr} {xs : List (Nat × Nat)}, CompsAt w h cs xs → cs.length = xs.length
  | [], [], _ => rfl
  | _ :: _, _ :: _, a => congrArg (· + 1) (CompsAt.length a.2)
  | [], _ :: _, a => a.elim
  | _ :: _, [], a => a.elim
theorem CompsAt.get {w : World} {h : Heap} : ∀ {cs : List Addr} {xs : List (Nat × Nat)}, CompsAt w h cs xs → ∀ {i : Nat} {x : Nat × Nat}, xs[i]? = some x → ∃ c, cs[i]? = some c ∧ CompAt w h c x
  | [], [], _, _, _, e => by cases e
  | c :: _, _ :: _, a, 0, _, e => by cases e; exact ⟨c, rfl, a.1⟩
  | _ :: cs, _ :: xs, a, i + 1, x, e => by
    rw [List.getElem?_cons_succ] at e ⊢
    exact CompsAt.get a.2 e
  | [], _ :: _, a, _, _, _ => a.elim
  | _ :: _, [], a, _, _, _ => a.elim
theorem FrameAt.kp {w : World} {h h' : Heap} {fr : Addr} {d : Fm} (k : Kp h h') (a : FrameAt w h fr d) : FrameAt w h' fr d := let ⟨r, a⟩ := a; ⟨r, inst_kp a.inst k, list_kp a.list k, a.comps.kp k⟩
theorem FrameIs.item {w : World} {h : Heap} {fr : Addr} {d : Fm} {r : Rep} (a : FrameIs w h fr d r) {i : Nat} {x : Nat × Nat} (hx : d.cs[i]? = some x) :
    ∃ c r', (r.crs.map Value.ref).toArray[i]? = some (.ref c) ∧ InstAt h c (instObj 80 r'.dx) 80 (some (dictOf (coEs w x r') 4)) :=
  let ⟨c, hc, r', I⟩ := a.comps.get hx
  ⟨c, r', by simp [hc], I⟩
theorem FrameIs.size {w : World} {h : Heap} {fr : Addr} {d : Fm} {r : Rep} (a : FrameIs w h fr d r) : (r.crs.map Value.ref).toArray.size = d.cs.length := by
  rw [List.size_toArray, List.length_map, a.comps.length]
/-- the greatest of a list -/
def most (l : List Nat) : Nat := l.foldr max 0
theorem most_le {x : Nat} : ∀ {l : List Nat}, x ∈ l → x ≤ most l
  | _ :: _, h => by
    rcases List.mem_cons.mp h with rfl | h
    · exact Nat.le_max_left _ _
    · exact Nat.le_trans (most_le h) (Nat.le_max_right _ _)
theorem most_mem : ∀ {l : List Nat}, l ≠ [] → most l ∈ l
  | [x], _ => by simp [most]
  | x :: y :: r, _ => by
    show max x (most (y :: r)) ∈ _
    rcases Nat.le_total x (most (y :: r)) with h | h
    · rw [Nat.max_eq_right h]; exact List.mem_cons_of_mem _ (most_mem (by simp))
    · rw [Nat.max_eq_left h]; exact List.mem_cons_self ..
theorem most_eq {α : Type} {f : α → Nat} {l : List α} {M : Int} (h : M ∈ l.map (fun x => (f x : Int))) (k : ∀ a, a ∈ l.map (fun x => (f x : Int)) → a ≤ M) : M = ((most (l.map f) : Nat) : Int) := by
  obtain ⟨x, hx, rfl⟩ := List.mem_map.mp h
  have hm : f x ∈ l.map f := List.mem_map_of_mem hx
  have h1 := most_le hm
  obtain ⟨y, hy, e⟩ := List.mem_map.mp (most_mem (List.ne_nil_of_mem hm))
  have h2 := k _ (List.mem_map_of_mem hy)
  omega
structure Fm.Ok (d : Fm) : Prop where
  n1 : 1 ≤ d.n
  n2 : d.n ≤ 4
  w1 : 1 ≤ d.W
  w2 : d.W ≤ 16
  h1 : 1 ≤ d.H
  h2 : d.H ≤ 12
  ne : d.cs ≠ []
  len : d.cs.length ≤ 3
  each : ∀ x ∈ d.cs, 1 ≤ x.1 ∧ x.1 ≤ 3 ∧ 1 ≤ x.2 ∧ x.2 ≤ 2
def Fm.A (d : Fm) : Nat := most (d.cs.map (·.1))
def Fm.D (d : Fm) : Nat := most (d.cs.map (·.2))
theorem Fm.Ok.A1 {d : Fm} (ok : d.Ok) : 1 ≤ d.A ∧ d.A ≤ 3 := by
  have hn : d.cs.map (·.1) ≠ [] := fun e => ok.ne (List.map_eq_nil_iff.mp e)
  obtain ⟨x, hx, e⟩ := List.mem_map.mp (most_mem hn)
  have := ok.each x hx
  unfold Fm.A
  rw [← e]
  exact ⟨this.1, this.2.1⟩
theorem Fm.Ok.D1 {d : Fm} (ok : d.Ok) : 1 ≤ d.D ∧ d.D ≤ 2 := by
  have hn : d.cs.map (·.2) ≠ [] := fun e => ok.ne (List.map_eq_nil_iff.mp e)
  obtain ⟨x, hx, e⟩ := List.mem_map.mp (most_mem hn)
  have := ok.each x hx
  unfold Fm.D
  rw [← e]
  exact ⟨this.2.2.1, this.2.2.2⟩
section
variable {prog : Program} {w : World} {p : Program} {loose : List Str} {mean : ExcName → Option Value} {mg mb : Str → Option Value} {dp un : Nat} {gd : Option (List Code)} {cn : Str} {cs : Scope} {a : Addr} {ccd : Value} {cl : List (Str × Addr)} {outer : List Env} {A₀ : Around} {base h₀ : Heap} {L : Addr} {m : Str → Option Value} {Q E : Value → Shared → Prop} {news : List (Addr × Obj)} {s : Shared}

theorem parts_call {x y : Int} {t u : Tok} (B : Below A₀ base outer h₀) (F : Fr h₀ L s.heap m) (X : (hd.heap_1 w.params).In h₀) (T : Top p loose mean mg mb h₀) (hk : cs.kind = .function) (hd : dp ≤ 950) (_hu : un ≤ 9500)
    (hy : 0 < y) (hy2 : y < 100000) (h : ∀ t' h' tk', Fr h₀ L h' m → Kp s.heap h' → Q (.int ((x + y - 1).fdiv y) t') { s with heap := h', toks := tk' }) :
    wpAny (model prog w) (ktrTop dp un gd cn cs L a ccd cl outer) (call (.ref 63) [.int x t, .int y u]) Q E s := by
  refine wpAny_call ?_
  refine code_def0 (binds := [(Str.ofString "many", .int x t), (Str.ofString "size", .int y u)]) B F X T rfl rfl hk (by k_is) (by k_is) (rl hd rfl) (BindsTo.of_eq rfl) (locs rfl) ?_ rfl rfl rfl (by decide)
  intro g L' h₁ KP FG F₁ N₁ B₁ X₁ T₁ env' A' q' e'
  k_steps
  refine h _ _ _ ?_ (KP.trans ?_)
  · k_asm
  · exact Fr.keep (by k_asm)

theorem most_across_call {fr : Addr} {d : Fm} (B : Below A₀ base outer h₀) (F : Fr h₀ L s.heap m) (X : (hd.heap_1 w.params).In h₀) (T : Top p loose mean mg mb h₀) (hk : cs.kind = .function) (hd : dp ≤ 940) (_hu : un ≤ 9400)
    (hf : FrameAt w s.heap fr d) (ok : d.Ok) (h : ∀ t' h' tk', Fr h₀ L h' m → Kp s.heap h' → Q (.int (d.A : Int) t') { s with heap := h', toks := tk' }) :
    wpAny (model prog w) (ktrTop dp un gd cn cs L a ccd cl outer) (call (.ref 103) [.ref fr]) Q E s := by
  refine wpAny_call ?_
  refine code_def0 (binds := [(Str.ofString "self", .ref fr)]) B F X T rfl rfl hk (by k_is) (by k_is) (rl hd rfl) (BindsTo.of_eq rfl) (locs rfl) ?_ rfl rfl rfl (by decide)
  intro g L' h₁ KP FG F₁ N₁ B₁ X₁ T₁ env' A' q' e'
  obtain ⟨r, fi⟩ := hf.kp KP
  have hI := fi.inst
  have hlen := fi.size
  k_steps
  refine unhalt ?_
  refine LCg.ListComp_U (cl := []) F₁ rfl (by decide) rfl (by decide) rfl ?_
  k_steps
  refine unhalt ?_
  refine LCg.CompSrc.base rfl (by k_asm) News.nil fi.list (by rw [hlen, sizeLine_eq]; have := ok.len; omega) (fun g₂ => compRest_of (n := (r.crs.map Value.ref).toArray.size)
    (fun i ys nw => IntsAre ys ((d.cs.take i).map fun x => (x.1 : Int)) ∧ nw = []) ?step ?fin _ 0 (Nat.zero_add _) [] [] ⟨.nil, rfl⟩)
  case step =>
    rintro i ys _ hi ⟨hys, rfl⟩ v I oI C oC D m₂ h tk E' hP hN hx F₂ N₂ off ne
    have hi' : i < d.cs.length := hlen ▸ hi
    have hxi : d.cs[i]? = some d.cs[i] := List.getElem?_eq_getElem hi'
    obtain ⟨c, r', hc, hC⟩ := fi.item hxi
    obtain rfl : .ref c = v := Option.some.inj (hc.symm.trans hP)
    k_steps
    refine unhalt ?_
    refine LCg.CompEnd.intro F₂ N₂ [] (fun _ h => h) trivial (.inl fi.list) ⟨?_, rfl⟩
    rw [List.take_add_one, hxi, List.map_append]
    exact hys.append (IntsAre.cons _ _ .nil)
  case fin =>
    rintro ys _ ⟨hys, rfl⟩ D h₃ tk F₂ N₂ off
    rw [hlen, List.take_length] at hys
    have hpos : 0 < (d.cs.map fun x => (x.1 : Int)).length := by rw [List.length_map]; exact List.length_pos_iff.mpr ok.ne
    dsimp only
    k_steps
    rename (_ ∈ List.map _ _) => hM
    rw [most_eq (f := fun x : Nat × Nat => x.1) hM (by assumption)]
    refine h _ _ _ ?_ (KP.trans ?_)
    · k_asm
    · exact Fr.keep (by k_asm)
theorem most_down_call {fr : Addr} {d : Fm} (B : Below A₀ base outer h₀) (F : Fr h₀ L s.heap m) (X : (hd.heap_1 w.params).In h₀) (T : Top p loose mean mg mb h₀) (hk : cs.kind = .function) (hd : dp ≤ 940) (_hu : un ≤ 9400)
    (hf : FrameAt w s.heap fr d) (ok : d.Ok) (h : ∀ t' h' tk', Fr h₀ L h' m → Kp s.heap h' → Q (.int (d.D : Int) t') { s with heap := h', toks := tk' }) :
    wpAny (model prog w) (ktrTop dp un gd cn cs L a ccd cl outer) (call (.ref 108) [.ref fr]) Q E s := by
  refine wpAny_call ?_
  refine code_def0 (binds := [(Str.ofString "self", .ref fr)]) B F X T rfl rfl hk (by k_is) (by k_is) (rl hd rfl) (BindsTo.of_eq rfl) (locs rfl) ?_ rfl rfl rfl (by decide)
  intro g L' h₁ KP FG F₁ N₁ B₁ X₁ T₁ env' A' q' e'
  obtain ⟨r, fi⟩ := hf.kp KP
  have hI := fi.inst
  have hlen := fi.size
  k_steps
  refine unhalt ?_
  refine LCg.ListComp_U (cl := []) F₁ rfl (by decide) rfl (by decide) rfl ?_
  k_steps
  refine unhalt ?_
  refine LCg.CompSrc.base rfl (by k_asm) News.nil fi.list (by rw [hlen, sizeLine_eq]; have := ok.len; omega) (fun g₂ => compRest_of (n := (r.crs.map Value.ref).toArray.size)
    (fun i ys nw => IntsAre ys ((d.cs.take i).map fun x => (x.2 : Int)) ∧ nw = []) ?step ?fin _ 0 (Nat.zero_add _) [] [] ⟨.nil, rfl⟩)
  case step =>
    rintro i ys _ hi ⟨hys, rfl⟩ v I oI C oC D m₂ h tk E' hP hN hx F₂ N₂ off ne
    have hi' : i < d.cs.length := hlen ▸ hi
    have hxi : d.cs[i]? = some d.cs[i] := List.getElem?_eq_getElem hi'
    obtain ⟨c, r', hc, hC⟩ := fi.item hxi
    obtain rfl : .ref c = v := Option.some.inj (hc.symm.trans hP)
    k_steps
    refine unhalt ?_
    refine LCg.CompEnd.intro F₂ N₂ [] (fun _ h => h) trivial (.inl fi.list) ⟨?_, rfl⟩
    rw [List.take_add_one, hxi, List.map_append]
    exact hys.append (IntsAre.cons _ _ .nil)
  case fin =>
    rintro ys _ ⟨hys, rfl⟩ D h₃ tk F₂ N₂ off
    rw [hlen, List.take_length] at hys
    have hpos : 0 < (d.cs.map fun x => (x.2 : Int)).length := by rw [List.length_map]; exact List.length_pos_iff.mpr ok.ne
    dsimp only
    k_steps
    rename (_ ∈ List.map _ _) => hM
    rw [most_eq (f := fun x : Nat × Nat => x.2) hM (by assumption)]
    refine h _ _ _ ?_ (KP.trans ?_)
    · k_asm
    · exact Fr.keep (by k_asm)
end
def Fm.mx (d : Fm) : Nat := cdiv d.W (d.n * d.A)
def Fm.my (d : Fm) : Nat := cdiv d.H (d.n * d.D)
theorem cdiv_le {x y k : Nat} (hy : 0 < y) (h : x ≤ k * y) : cdiv x y ≤ k := by
  unfold cdiv
  have : (x + y - 1) / y < k + 1 := by
    rw [Nat.div_lt_iff_lt_mul hy, Nat.add_mul, Nat.one_mul]
    omega
  omega
/-- what plane_size, blocks, padded tell of a component -/
def Fm.pw (d : Fm) (x : Nat × Nat) : Nat := cdiv (d.W * x.1) d.A
def Fm.ph (d : Fm) (x : Nat × Nat) : Nat := cdiv (d.H * x.2) d.D
def Fm.bw (d : Fm) (x : Nat × Nat) : Nat := cdiv (d.pw x) d.n
def Fm.bh (d : Fm) (x : Nat × Nat) : Nat := cdiv (d.ph x) d.n
theorem Fm.Ok.mx_le {d : Fm} (ok : d.Ok) : d.mx ≤ 16 := cdiv_le (Nat.mul_pos ok.n1 ok.A1.1) (Nat.le_trans ok.w2 (Nat.le_mul_of_pos_right _ (Nat.mul_pos ok.n1 ok.A1.1)))
theorem Fm.Ok.my_le {d : Fm} (ok : d.Ok) : d.my ≤ 12 := cdiv_le (Nat.mul_pos ok.n1 ok.D1.1) (Nat.le_trans ok.h2 (Nat.le_mul_of_pos_right _ (Nat.mul_pos ok.n1 ok.D1.1)))
theorem most_ge {α : Type} {f : α → Nat} {l : List α} {x : α} (h : x ∈ l) : f x ≤ most (l.map f) := most_le (List.mem_map_of_mem h)
theorem Fm.Ok.pw_le {d : Fm} (ok : d.Ok) {x : Nat × Nat} (h : x ∈ d.cs) : d.pw x ≤ 16 := cdiv_le ok.A1.1 (Nat.mul_le_mul ok.w2 (most_ge (f := fun x : Nat × Nat => x.1) h))
theorem Fm.Ok.ph_le {d : Fm} (ok : d.Ok) {x : Nat × Nat} (h : x ∈ d.cs) : d.ph x ≤ 12 := cdiv_le ok.D1.1 (Nat.mul_le_mul ok.h2 (most_ge (f := fun x : Nat × Nat => x.2) h))
theorem Fm.Ok.idx {d : Fm} (ok : d.Ok) {i : Nat} {x : Nat × Nat} (hx : d.cs[i]? = some x) : i < 4611686018427387904 := by
  have := (List.getElem?_eq_some_iff.mp hx).1
  have := ok.len
  omega
section
variable {prog : Program} {w : World} {p : Program} {loose : List Str} {mean : ExcName → Option Value} {mg mb : Str → Option Value} {dp un : Nat} {gd : Option (List Code)} {cn : Str} {cs : Scope} {a : Addr} {ccd : Value} {cl : List (Str × Addr)} {outer : List Env} {A₀ : Around} {base h₀ : Heap} {L : Addr} {m : Str → Option Value} {Q E : Value → Shared → Prop} {news : List (Addr × Obj)} {s : Shared}

theorem mcus_across_call {fr : Addr} {d : Fm} (B : Below A₀ base outer h₀) (F : Fr h₀ L s.heap m) (X : (hd.heap_1 w.params).In h₀) (T : Top p loose mean mg mb h₀) (hk : cs.kind = .function) (hd : dp ≤ 930) (hu : un ≤ 9300)
    (hf : FrameAt w s.heap fr d) (ok : d.Ok) (h : ∀ t' h' tk', Fr h₀ L h' m → Kp s.heap h' → Q (.int (d.mx : Int) t') { s with heap := h', toks := tk' }) :
    wpAny (model prog w) (ktrTop dp un gd cn cs L a ccd cl outer) (call (.ref 115) [.ref fr]) Q E s := by
  refine wpAny_call ?_
  refine code_def0 (binds := [(Str.ofString "self", .ref fr)]) B F X T rfl rfl hk (by k_is) (by k_is) (rl hd rfl) (BindsTo.of_eq rfl) (locs rfl) ?_ rfl rfl rfl (by decide)
  intro g L' h₁ KP FG F₁ N₁ B₁ X₁ T₁ env' A' q' e'
  have hf' := hf.kp KP
  obtain ⟨r, fi⟩ := hf.kp KP
  have hI := fi.inst
  have hn1 := ok.n1
  have hn2 := ok.n2
  have hA := ok.A1
  have hD := ok.D1
  have hp : 0 < (d.n : Int) * (d.A : Int) := Int.mul_pos (by omega) (by omega)
  have hp2 : (d.n : Int) * (d.A : Int) ≤ 4 * 3 := Int.mul_le_mul (by omega) (by omega) (by omega) (by omega)
  k_steps
  refine unhalt ?_
  refine most_across_call (by k_asm) (by k_asm) (by k_asm) (by k_asm) (by first | exact rfl | assumption) (rm hd rfl) (rm hu rfl) (FrameAt.kp (kp_fr (by k_asm)) hf') ok ?_
  intro t₁ h₂ tk₂ F₂ KP₂
  have N₂ := News.grown (by k_asm) KP₂
  k_sweep
  k_steps
  refine unhalt ?_
  refine parts_call (by k_asm) (by k_asm) (by k_asm) (by k_asm) (by first | exact rfl | assumption) (rm hd rfl) (rm hu rfl) (by omega) (by omega) ?_
  intro t₁ h₂ tk₂ F₂ KP₂
  have N₂ := News.grown (by k_asm) KP₂
  k_sweep
  k_steps
  have e : ((d.W : Int) + (d.n : Int) * (d.A : Int) - 1).fdiv ((d.n : Int) * (d.A : Int)) = ((d.mx : Nat) : Int) := by
    rw [← Int.natCast_mul]
    exact cdiv_int (Nat.mul_pos (by omega) (by omega))
  rw [e]
  refine h _ _ _ ?_ (KP.trans ?_)
  · k_asm
  · exact Fr.keep (by k_asm)
theorem mcus_down_call {fr : Addr} {d : Fm} (B : Below A₀ base outer h₀) (F : Fr h₀ L s.heap m) (X : (hd.heap_1 w.params).In h₀) (T : Top p loose mean mg mb h₀) (hk : cs.kind = .function) (hd : dp ≤ 930) (hu : un ≤ 9300)
    (hf : FrameAt w s.heap fr d) (ok : d.Ok) (h : ∀ t' h' tk', Fr h₀ L h' m → Kp s.heap h' → Q (.int (d.my : Int) t') { s with heap := h', toks := tk' }) :
    wpAny (model prog w) (ktrTop dp un gd cn cs L a ccd cl outer) (call (.ref 122) [.ref fr]) Q E s := by
  refine wpAny_call ?_
  refine code_def0 (binds := [(Str.ofString "self", .ref fr)]) B F X T rfl rfl hk (by k_is) (by k_is) (rl hd rfl) (BindsTo.of_eq rfl) (locs rfl) ?_ rfl rfl rfl (by decide)
  intro g L' h₁ KP FG F₁ N₁ B₁ X₁ T₁ env' A' q' e'
  have hf' := hf.kp KP
  obtain ⟨r, fi⟩ := hf.kp KP
  have hI := fi.inst
  have hn1 := ok.n1
  have hn2 := ok.n2
  have hA := ok.A1
  have hD := ok.D1
  have hp : 0 < (d.n : Int) * (d.D : Int) := Int.mul_pos (by omega) (by omega)
  have hp2 : (d.n : Int) * (d.D : Int) ≤ 4 * 2 := Int.mul_le_mul (by omega) (by omega) (by omega) (by omega)
  k_steps
  refine unhalt ?_
  refine most_down_call (by k_asm) (by k_asm) (by k_asm) (by k_asm) (by first | exact rfl | assumption) (rm hd rfl) (rm hu rfl) (FrameAt.kp (kp_fr (by k_asm)) hf') ok ?_
  intro t₁ h₂ tk₂ F₂ KP₂
  have N₂ := News.grown (by k_asm) KP₂
  k_sweep
  k_steps
  refine unhalt ?_
  refine parts_call (by k_asm) (by k_asm) (by k_asm) (by k_asm) (by first | exact rfl | assumption) (rm hd rfl) (rm hu rfl) (by omega) (by omega) ?_
  intro t₁ h₂ tk₂ F₂ KP₂
  have N₂ := News.grown (by k_asm) KP₂
  k_sweep
  k_steps
  have e : ((d.H : Int) + (d.n : Int) * (d.D : Int) - 1).fdiv ((d.n : Int) * (d.D : Int)) = ((d.my : Nat) : Int) := by
    rw [← Int.natCast_mul]
    exact cdiv_int (Nat.mul_pos (by omega) (by omega))
  rw [e]
  refine h _ _ _ ?_ (KP.trans ?_)
  · k_asm
  · exact Fr.keep (by k_asm)

theorem plane_size_call {fr : Addr} {d : Fm} {i : Nat} {x : Nat × Nat} {t : Tok} (B : Below A₀ base outer h₀) (F : Fr h₀ L s.heap m) (X : (hd.heap_1 w.params).In h₀) (T : Top p loose mean mg mb h₀) (hk : cs.kind = .function) (hd : dp ≤ 930) (hu : un ≤ 9300)
    (hf : FrameAt w s.heap fr d) (ok : d.Ok) (hx : d.cs[i]? = some x) (h : ∀ D t₁ t₂ h' tk', Fr h₀ L h' m → Kp s.heap h' → s.heap.get? D = none → h'.get? D = some (tupO [.int (d.pw x : Int) t₁, .int (d.ph x : Int) t₂]) → Q (.ref D) { s with heap := h', toks := tk' }) :
    wpAny (model prog w) (ktrTop dp un gd cn cs L a ccd cl outer) (call (.ref 129) [.ref fr, .int (i : Int) t]) Q E s := by
  refine wpAny_call ?_
  refine code_def0 (binds := [(Str.ofString "self", .ref fr), (Str.ofString "place", .int (i : Int) t)]) B F X T rfl rfl hk (by k_is) (by k_is) (rl hd rfl) (BindsTo.of_eq rfl) (locs rfl) ?_ rfl rfl rfl (by decide)
  intro g L' h₁ KP FG F₁ N₁ B₁ X₁ T₁ env' A' q' e'
  have hf' := hf.kp KP
  obtain ⟨r, fi⟩ := hf.kp KP
  have hI := fi.inst
  have hn1 := ok.n1
  have hn2 := ok.n2
  have hA := ok.A1
  have hD := ok.D1
  obtain ⟨c, r', hit, hC⟩ := fi.item hx
  have hxx := ok.each x (List.mem_of_getElem? hx)
  have hw1 := ok.w2
  have hh1 := ok.h2
  k_steps
  refine unhalt ?_
  refine item_at (list_up fi.list (by k_asm)) rfl (ok.idx hx) hit ?_
  k_steps
  refine unhalt ?_
  refine most_across_call (by k_asm) (by k_asm) (by k_asm) (by k_asm) (by first | exact rfl | assumption) (rm hd rfl) (rm hu rfl) (FrameAt.kp (kp_fr (by k_asm)) hf') ok ?_
  intro t₁ h₂ tk₂ F₂ KP₂
  have N₂ := News.grown (by k_asm) KP₂
  k_sweep
  k_steps
  refine unhalt ?_
  refine parts_call (by k_asm) (by k_asm) (by k_asm) (by k_asm) (by first | exact rfl | assumption) (rm hd rfl) (rm hu rfl) (by omega) (by omega) ?_
  intro t₁ h₂ tk₂ F₂ KP₂
  have N₂ := News.grown (by k_asm) KP₂
  k_sweep
  k_steps
  refine unhalt ?_
  refine most_down_call (by k_asm) (by k_asm) (by k_asm) (by k_asm) (by first | exact rfl | assumption) (rm hd rfl) (rm hu rfl) (FrameAt.kp (kp_fr (by k_asm)) hf') ok ?_
  intro t₁ h₂ tk₂ F₂ KP₂
  have N₂ := News.grown (by k_asm) KP₂
  k_sweep
  k_steps
  refine unhalt ?_
  refine parts_call (by k_asm) (by k_asm) (by k_asm) (by k_asm) (by first | exact rfl | assumption) (rm hd rfl) (rm hu rfl) (by omega) (by omega) ?_
  intro t₁ h₂ tk₂ F₂ KP₂
  have N₂ := News.grown (by k_asm) KP₂
  k_sweep
  k_steps
  have q0 : ((d.W : Int) * (x.1 : Int) + (d.A : Int) - 1).fdiv (d.A : Int) = ((d.pw x : Nat) : Int) := by
    rw [← Int.natCast_mul]; exact cdiv_int (by omega)
  have q1 : ((d.H : Int) * (x.2 : Int) + (d.D : Int) - 1).fdiv (d.D : Int) = ((d.ph x : Nat) : Int) := by
    rw [← Int.natCast_mul]; exact cdiv_int (by omega)
  rename News g _ _ _ => gN
  rename News h₀ L _ _ => kN
  have hobj := (kN _ (List.mem_cons_self ..)).1
  dsimp only at hobj
  rw [q0, q1] at hobj
  refine h _ _ _ _ _ ?_ (KP.trans ?_) (fresh_of KP gN (List.mem_cons_self ..)) hobj
  · k_asm
  · exact Fr.keep (by k_asm)
theorem blocks_call {fr : Addr} {d : Fm} {i : Nat} {x : Nat × Nat} {t : Tok} (B : Below A₀ base outer h₀) (F : Fr h₀ L s.heap m) (X : (hd.heap_1 w.params).In h₀) (T : Top p loose mean mg mb h₀) (hk : cs.kind = .function) (hd : dp ≤ 920) (hu : un ≤ 9200)
    (hf : FrameAt w s.heap fr d) (ok : d.Ok) (hx : d.cs[i]? = some x) (h : ∀ D t₁ t₂ h' tk', Fr h₀ L h' m → Kp s.heap h' → s.heap.get? D = none → h'.get? D = some (tupO [.int (d.bw x : Int) t₁, .int (d.bh x : Int) t₂]) → Q (.ref D) { s with heap := h', toks := tk' }) :
    wpAny (model prog w) (ktrTop dp un gd cn cs L a ccd cl outer) (call (.ref 136) [.ref fr, .int (i : Int) t]) Q E s := by
  refine wpAny_call ?_
  refine code_def0 (binds := [(Str.ofString "self", .ref fr), (Str.ofString "place", .int (i : Int) t)]) B F X T rfl rfl hk (by k_is) (by k_is) (rl hd rfl) (BindsTo.of_eq rfl) (locs rfl) ?_ rfl rfl rfl (by decide)
  intro g L' h₁ KP FG F₁ N₁ B₁ X₁ T₁ env' A' q' e'
  have hf' := hf.kp KP
  obtain ⟨r, fi⟩ := hf.kp KP
  have hI := fi.inst
  have hn1 := ok.n1
  have hn2 := ok.n2
  k_steps
  refine unhalt ?_
  refine plane_size_call (by k_asm) (by k_asm) (by k_asm) (by k_asm) (by first | exact rfl | assumption) (rm hd rfl) (rm hu rfl) (FrameAt.kp (kp_fr (by k_asm)) hf') ok hx ?_
  intro D₂ t₂ t₃ h₂ tk₂ F₂ KP₂ f₂ o₂
  obtain ⟨N₂, l₂⟩ := news_add (by k_asm) (by k_asm) KP₂ f₂ o₂
  k_sweep
  k_steps
  refine unhalt ?_
  refine parts_call (by k_asm) (by k_asm) (by k_asm) (by k_asm) (by first | exact rfl | assumption) (rm hd rfl) (rm hu rfl) (by omega) (by omega) ?_
  intro t₁ h₂ tk₂ F₂ KP₂
  have N₂ := News.grown (by k_asm) KP₂
  k_sweep
  k_steps
  refine unhalt ?_
  refine parts_call (by k_asm) (by k_asm) (by k_asm) (by k_asm) (by first | exact rfl | assumption) (rm hd rfl) (rm hu rfl) (by omega) (by omega) ?_
  intro t₁ h₂ tk₂ F₂ KP₂
  have N₂ := News.grown (by k_asm) KP₂
  k_sweep
  k_steps
  have q0 : ((d.pw x : Int) + (d.n : Int) - 1).fdiv (d.n : Int) = ((d.bw x : Nat) : Int) := by
    exact cdiv_int (by omega)
  have q1 : ((d.ph x : Int) + (d.n : Int) - 1).fdiv (d.n : Int) = ((d.bh x : Nat) : Int) := by
    exact cdiv_int (by omega)
  rename News g _ _ _ => gN
  rename News h₀ L _ _ => kN
  have hobj := (kN _ (List.mem_cons_self ..)).1
  dsimp only at hobj
  rw [q0, q1] at hobj
  refine h _ _ _ _ _ ?_ (KP.trans ?_) (fresh_of KP gN (List.mem_cons_self ..)) hobj
  · k_asm
  · exact Fr.keep (by k_asm)
theorem padded_call {fr : Addr} {d : Fm} {i : Nat} {x : Nat × Nat} {t : Tok} (B : Below A₀ base outer h₀) (F : Fr h₀ L s.heap m) (X : (hd.heap_1 w.params).In h₀) (T : Top p loose mean mg mb h₀) (hk : cs.kind = .function) (hd : dp ≤ 920) (hu : un ≤ 9200)
    (hf : FrameAt w s.heap fr d) (ok : d.Ok) (hx : d.cs[i]? = some x) (h : ∀ D t₁ t₂ h' tk', Fr h₀ L h' m → Kp s.heap h' → s.heap.get? D = none → h'.get? D = some (tupO [.int (d.mx * x.1 : Int) t₁, .int (d.my * x.2 : Int) t₂]) → Q (.ref D) { s with heap := h', toks := tk' }) :
    wpAny (model prog w) (ktrTop dp un gd cn cs L a ccd cl outer) (call (.ref 143) [.ref fr, .int (i : Int) t]) Q E s := by
  refine wpAny_call ?_
  refine code_def0 (binds := [(Str.ofString "self", .ref fr), (Str.ofString "place", .int (i : Int) t)]) B F X T rfl rfl hk (by k_is) (by k_is) (rl hd rfl) (BindsTo.of_eq rfl) (locs rfl) ?_ rfl rfl rfl (by decide)
  intro g L' h₁ KP FG F₁ N₁ B₁ X₁ T₁ env' A' q' e'
  have hf' := hf.kp KP
  obtain ⟨r, fi⟩ := hf.kp KP
  have hI := fi.inst
  have hn1 := ok.n1
  have hn2 := ok.n2
  obtain ⟨c, r', hit, hC⟩ := fi.item hx
  have hxx := ok.each x (List.mem_of_getElem? hx)
  have hm1 := ok.mx_le
  have hm2 := ok.my_le
  k_steps
  refine unhalt ?_
  refine item_at (list_up fi.list (by k_asm)) rfl (ok.idx hx) hit ?_
  k_steps
  refine unhalt ?_
  refine mcus_across_call (by k_asm) (by k_asm) (by k_asm) (by k_asm) (by first | exact rfl | assumption) (rm hd rfl) (rm hu rfl) (FrameAt.kp (kp_fr (by k_asm)) hf') ok ?_
  intro t₁ h₂ tk₂ F₂ KP₂
  have N₂ := News.grown (by k_asm) KP₂
  k_sweep
  k_steps
  refine unhalt ?_
  refine mcus_down_call (by k_asm) (by k_asm) (by k_asm) (by k_asm) (by first | exact rfl | assumption) (rm hd rfl) (rm hu rfl) (FrameAt.kp (kp_fr (by k_asm)) hf') ok ?_
  intro t₁ h₂ tk₂ F₂ KP₂
  have N₂ := News.grown (by k_asm) KP₂
  k_sweep
  k_steps
  rename News g _ _ _ => gN
  rename News h₀ L _ _ => kN
  have hobj := (kN _ (List.mem_cons_self ..)).1
  dsimp only at hobj
  skip
  refine h _ _ _ _ _ ?_ (KP.trans ?_) (fresh_of KP gN (List.mem_cons_self ..)) hobj
  · k_asm
  · exact Fr.keep (by k_asm)
end
theorem Fm.Ok.bw_le {d : Fm} (ok : d.Ok) {x : Nat × Nat} (h : x ∈ d.cs) : d.bw x ≤ 16 := cdiv_le ok.n1 (Nat.le_trans (ok.pw_le h) (Nat.le_mul_of_pos_right _ ok.n1))
theorem Fm.Ok.bh_le {d : Fm} (ok : d.Ok) {x : Nat × Nat} (h : x ∈ d.cs) : d.bh x ≤ 12 := cdiv_le ok.n1 (Nat.le_trans (ok.ph_le h) (Nat.le_mul_of_pos_right _ ok.n1))
abbrev zints (ps : List Nat) : List Int := ps.map fun x : Nat => (x : Int)
def scEs (w : World) (r : Rep) : List DictEntry :=
  [key w (Str.ofString "places") (r.k 0) (.ref r.lc), key w (Str.ofString "dc_slots") (r.k 1) (r.v 0), key w (Str.ofString "ac_slots") (r.k 2) (r.v 1), key w (Str.ofString "start") (r.k 3) (r.v 2), key w (Str.ofString "end") (r.k 4) (r.v 3), key w (Str.ofString "high") (r.k 5) (r.v 4), key w (Str.ofString "low") (r.k 6) (r.v 5)]
structure ScanIs (w : World) (h : Heap) (sc : Addr) (ps : List Nat) (r : Rep) (vps : List Value) : Prop where
  inst : InstAt h sc (instObj 181 r.dx) 181 (some (dictOf (scEs w r) 7))
  list : h.IsList r.lc vps.toArray
  are : IntsAre vps (zints ps)
def ScanAt (w : World) (h : Heap) (sc : Addr) (ps : List Nat) : Prop := ∃ r vps, ScanIs w h sc ps r vps
theorem ScanAt.kp {w : World} {h h' : Heap} {sc : Addr} {ps : List Nat} (k : Kp h h') (a : ScanAt w h sc ps) : ScanAt w h' sc ps := let ⟨r, v, a⟩ := a; ⟨r, v, inst_kp a.inst k, list_kp a.list k, a.are⟩
theorem ScanIs.size {w : World} {h : Heap} {sc : Addr} {ps : List Nat} {r : Rep} {vps : List Value} (a : ScanIs w h sc ps r vps) : vps.toArray.size = ps.length := by
  rw [List.size_toArray, IntsAre.length a.are, List.length_map]
def Fm.x0 (d : Fm) (ps : List Nat) : Nat × Nat := d.cs.getD (ps.headD 0) (1, 1)
def Fm.ux (d : Fm) (ps : List Nat) : Nat := if ps.length = 1 then d.bw (d.x0 ps) else d.mx
def Fm.uy (d : Fm) (ps : List Nat) : Nat := if ps.length = 1 then d.bh (d.x0 ps) else d.my
structure PsOk (d : Fm) (ps : List Nat) : Prop where
  ne : ps ≠ []
  lt : ∀ x ∈ ps, x < d.cs.length
  len : ps.length ≤ 3
theorem ScanIs.one {w : World} {h : Heap} {sc : Addr} {ps : List Nat} {r : Rep} {vps : List Value} (a : ScanIs w h sc ps r vps) {d : Fm} (po : PsOk d ps) (h1 : ps.length = 1) :
    ∃ i t x, ps = [i] ∧ vps.toArray[0]? = some (.int (i : Int) t) ∧ d.cs[i]? = some x ∧ d.x0 ps = x := by
  have e4 := a.are
  match ps, h1 with
  | [i], _ =>
    cases e4 with
    | cons n t r =>
      cases r
      have hi := po.lt i (by simp)
      exact ⟨i, t, d.cs[i], rfl, rfl, List.getElem?_eq_getElem hi, by simp [Fm.x0, hi]⟩
section
variable {prog : Program} {w : World} {p : Program} {loose : List Str} {mean : ExcName → Option Value} {mg mb : Str → Option Value} {dp un : Nat} {gd : Option (List Code)} {cn : Str} {cs : Scope} {a : Addr} {ccd : Value} {cl : List (Str × Addr)} {outer : List Env} {A₀ : Around} {base h₀ : Heap} {L : Addr} {m : Str → Option Value} {Q E : Value → Shared → Prop} {news : List (Addr × Obj)} {s : Shared}

theorem is_alone_call {sc : Addr} {ps : List Nat} (B : Below A₀ base outer h₀) (F : Fr h₀ L s.heap m) (X : (hd.heap_1 w.params).In h₀) (T : Top p loose mean mg mb h₀) (hk : cs.kind = .function) (hd : dp ≤ 940) (_hu : un ≤ 9400)
    (hs : ScanAt w s.heap sc ps) (hlen : ps.length ≤ 3) {b : Bool} (hb : decide (ps.length = 1) = b) (h : ∀ h' tk', Fr h₀ L h' m → Kp s.heap h' → Q (.bool b) { s with heap := h', toks := tk' }) :
    wpAny (model prog w) (ktrTop dp un gd cn cs L a ccd cl outer) (call (.ref 171) [.ref sc]) Q E s := by
  refine wpAny_call ?_
  refine code_def0 (binds := [(Str.ofString "self", .ref sc)]) B F X T rfl rfl hk (by k_is) (by k_is) (rl hd rfl) (BindsTo.of_eq rfl) (locs rfl) ?_ rfl rfl rfl (by decide)
  intro g L' h₁ KP FG F₁ N₁ B₁ X₁ T₁ env' A' q' e'
  have hs' := hs.kp KP
  obtain ⟨r', vps, si⟩ := hs.kp KP
  have hI' := si.inst
  k_steps
  refine unhalt ?_
  refine len_at (list_up si.list (by k_asm)) si.size (by omega) ?_
  k_steps
  have e : (((ps.length : Nat) : Int) == 1) = decide (ps.length = 1) := by
    rw [Bool.eq_iff_iff, beq_iff_eq, decide_eq_true_iff]
    omega
  rw [e, hb]
  refine h _ _ ?_ (KP.trans ?_)
  · k_asm
  · exact Fr.keep (by k_asm)
theorem units_across_call {fr sc : Addr} {d : Fm} {ps : List Nat} (B : Below A₀ base outer h₀) (F : Fr h₀ L s.heap m) (X : (hd.heap_1 w.params).In h₀) (T : Top p loose mean mg mb h₀) (hk : cs.kind = .function) (hd : dp ≤ 910) (hu : un ≤ 9100)
    (hf : FrameAt w s.heap fr d) (ok : d.Ok) (hs : ScanAt w s.heap sc ps) (po : PsOk d ps) (h : ∀ t' h' tk', Fr h₀ L h' m → Kp s.heap h' → Q (.int ((d.ux ps : Nat) : Int) t') { s with heap := h', toks := tk' }) :
    wpAny (model prog w) (ktrTop dp un gd cn cs L a ccd cl outer) (call (.ref 28) [.ref fr, .ref sc]) Q E s := by
  refine wpAny_call ?_
  refine code_def0 (binds := [(Str.ofString "frame", .ref fr), (Str.ofString "scan", .ref sc)]) B F X T rfl rfl hk (by k_is) (by k_is) (rl hd rfl) (BindsTo.of_eq rfl) (locs rfl) ?_ rfl rfl rfl (by decide)
  intro g L' h₁ KP FG F₁ N₁ B₁ X₁ T₁ env' A' q' e'
  have hf' := hf.kp KP
  obtain ⟨r, fi⟩ := hf.kp KP
  have hI := fi.inst
  have hn1 := ok.n1
  have hn2 := ok.n2
  have hs' := hs.kp KP
  obtain ⟨r', vps, si⟩ := hs.kp KP
  have hI' := si.inst
  have hlen := po.len
  by_cases h1 : ps.length = 1
  · obtain ⟨i, t, x, hps, hit, hx, hx0⟩ := si.one po h1
    have hxm := List.mem_of_getElem? hx
    have hbw := ok.bw_le hxm
    have hbh := ok.bh_le hxm
    k_steps
    refine unhalt ?_
    refine is_alone_call (by k_asm) (by k_asm) (by k_asm) (by k_asm) (by first | exact rfl | assumption) (rm hd rfl) (rm hu rfl) (ScanAt.kp (kp_fr (by k_asm)) hs') hlen (decide_eq_true h1) ?_
    intro h₂ tk₂ F₂ KP₂
    have N₂ := News.grown (by k_asm) KP₂
    k_sweep
    k_steps
    refine unhalt ?_
    refine item_at (list_up si.list (by k_asm)) rfl (i := 0) (by decide) hit ?_
    k_steps
    refine unhalt ?_
    refine blocks_call (by k_asm) (by k_asm) (by k_asm) (by k_asm) (by first | exact rfl | assumption) (rm hd rfl) (rm hu rfl) (FrameAt.kp (kp_fr (by k_asm)) hf') ok hx ?_
    intro D₂ t₂ t₃ h₂ tk₂ F₂ KP₂ f₂ o₂
    obtain ⟨N₂, l₂⟩ := news_add (by k_asm) (by k_asm) KP₂ f₂ o₂
    k_sweep
    k_steps
    rw [show d.ux ps = d.bw x by simp only [Fm.ux, if_pos h1, hx0]] at h
    refine h _ _ _ ?_ (KP.trans ?_)
    · k_asm
    · exact Fr.keep (by k_asm)
  · have hm1 := ok.mx_le
    have hm2 := ok.my_le
    k_steps
    refine unhalt ?_
    refine is_alone_call (by k_asm) (by k_asm) (by k_asm) (by k_asm) (by first | exact rfl | assumption) (rm hd rfl) (rm hu rfl) (ScanAt.kp (kp_fr (by k_asm)) hs') hlen (decide_eq_false h1) ?_
    intro h₂ tk₂ F₂ KP₂
    have N₂ := News.grown (by k_asm) KP₂
    k_sweep
    k_steps
    refine unhalt ?_
    refine mcus_across_call (by k_asm) (by k_asm) (by k_asm) (by k_asm) (by first | exact rfl | assumption) (rm hd rfl) (rm hu rfl) (FrameAt.kp (kp_fr (by k_asm)) hf') ok ?_
    intro t₁ h₂ tk₂ F₂ KP₂
    have N₂ := News.grown (by k_asm) KP₂
    k_sweep
    k_steps
    rw [show d.ux ps = d.mx by simp only [Fm.ux, if_neg h1]] at h
    refine h _ _ _ ?_ (KP.trans ?_)
    · k_asm
    · exact Fr.keep (by k_asm)
theorem unit_count_call {fr sc : Addr} {d : Fm} {ps : List Nat} (B : Below A₀ base outer h₀) (F : Fr h₀ L s.heap m) (X : (hd.heap_1 w.params).In h₀) (T : Top p loose mean mg mb h₀) (hk : cs.kind = .function) (hd : dp ≤ 910) (hu : un ≤ 9100)
    (hf : FrameAt w s.heap fr d) (ok : d.Ok) (hs : ScanAt w s.heap sc ps) (po : PsOk d ps) (h : ∀ t' h' tk', Fr h₀ L h' m → Kp s.heap h' → Q (.int ((d.ux ps * d.uy ps : Nat) : Int) t') { s with heap := h', toks := tk' }) :
    wpAny (model prog w) (ktrTop dp un gd cn cs L a ccd cl outer) (call (.ref 35) [.ref fr, .ref sc]) Q E s := by
  refine wpAny_call ?_
  refine code_def0 (binds := [(Str.ofString "frame", .ref fr), (Str.ofString "scan", .ref sc)]) B F X T rfl rfl hk (by k_is) (by k_is) (rl hd rfl) (BindsTo.of_eq rfl) (locs rfl) ?_ rfl rfl rfl (by decide)
  intro g L' h₁ KP FG F₁ N₁ B₁ X₁ T₁ env' A' q' e'
  have hf' := hf.kp KP
  obtain ⟨r, fi⟩ := hf.kp KP
  have hI := fi.inst
  have hn1 := ok.n1
  have hn2 := ok.n2
  have hs' := hs.kp KP
  obtain ⟨r', vps, si⟩ := hs.kp KP
  have hI' := si.inst
  have hlen := po.len
  by_cases h1 : ps.length = 1
  · obtain ⟨i, t, x, hps, hit, hx, hx0⟩ := si.one po h1
    have hxm := List.mem_of_getElem? hx
    have hbw := ok.bw_le hxm
    have hbh := ok.bh_le hxm
    k_steps
    refine unhalt ?_
    refine is_alone_call (by k_asm) (by k_asm) (by k_asm) (by k_asm) (by first | exact rfl | assumption) (rm hd rfl) (rm hu rfl) (ScanAt.kp (kp_fr (by k_asm)) hs') hlen (decide_eq_true h1) ?_
    intro h₂ tk₂ F₂ KP₂
    have N₂ := News.grown (by k_asm) KP₂
    k_sweep
    k_steps
    refine unhalt ?_
    refine item_at (list_up si.list (by k_asm)) rfl (i := 0) (by decide) hit ?_
    k_steps
    refine unhalt ?_
    refine blocks_call (by k_asm) (by k_asm) (by k_asm) (by k_asm) (by first | exact rfl | assumption) (rm hd rfl) (rm hu rfl) (FrameAt.kp (kp_fr (by k_asm)) hf') ok hx ?_
    intro D₂ t₂ t₃ h₂ tk₂ F₂ KP₂ f₂ o₂
    obtain ⟨N₂, l₂⟩ := news_add (by k_asm) (by k_asm) KP₂ f₂ o₂
    k_sweep
    k_steps
    rw [show d.ux ps * d.uy ps = d.bw x * d.bh x by simp only [Fm.ux, Fm.uy, if_pos h1, hx0]] at h
    refine h _ _ _ ?_ (KP.trans ?_)
    · k_asm
    · exact Fr.keep (by k_asm)
  · have hm1 := ok.mx_le
    have hm2 := ok.my_le
    k_steps
    refine unhalt ?_
    refine is_alone_call (by k_asm) (by k_asm) (by k_asm) (by k_asm) (by first | exact rfl | assumption) (rm hd rfl) (rm hu rfl) (ScanAt.kp (kp_fr (by k_asm)) hs') hlen (decide_eq_false h1) ?_
    intro h₂ tk₂ F₂ KP₂
    have N₂ := News.grown (by k_asm) KP₂
    k_sweep
    k_steps
    refine unhalt ?_
    refine mcus_across_call (by k_asm) (by k_asm) (by k_asm) (by k_asm) (by first | exact rfl | assumption) (rm hd rfl) (rm hu rfl) (FrameAt.kp (kp_fr (by k_asm)) hf') ok ?_
    intro t₁ h₂ tk₂ F₂ KP₂
    have N₂ := News.grown (by k_asm) KP₂
    k_sweep
    k_steps
    refine unhalt ?_
    refine mcus_down_call (by k_asm) (by k_asm) (by k_asm) (by k_asm) (by first | exact rfl | assumption) (rm hd rfl) (rm hu rfl) (FrameAt.kp (kp_fr (by k_asm)) hf') ok ?_
    intro t₁ h₂ tk₂ F₂ KP₂
    have N₂ := News.grown (by k_asm) KP₂
    k_sweep
    k_steps
    rw [show d.ux ps * d.uy ps = d.mx * d.my by simp only [Fm.ux, Fm.uy, if_neg h1]] at h
    refine h _ _ _ ?_ (KP.trans ?_)
    · k_asm
    · exact Fr.keep (by k_asm)
end
theorem lt_cdiv {p M k : Nat} (hM : 1 ≤ M) : k < cdiv p M ↔ k * M < p := by
  unfold cdiv
  rw [Nat.lt_iff_add_one_le, Nat.le_div_iff_mul_le hM, Nat.add_mul]
  omega
section
variable {prog : Program} {w : World} {A : Around} {E : Value → Shared → Prop} {Q : Flow → Shared → Prop} {s : Shared} {env : Env} {h₀ : Heap} {L : Addr}
/-- a while that counts one name up -/
theorem While_one {test : Expr} {body : List Stmt} {pos : Pos} {x : Str} {m : Str → Option Value} {k₀ : Nat} {t₀ : Tok} (S : Nat)
    (F : Fr h₀ L s.heap m) (hx : m x = some (.int (k₀ : Int) t₀)) (hk : k₀ ≤ S)
    (turn : ∀ (k : Nat) (tt : Tok) h₁ tk₁, k ≤ S → Fr h₀ L h₁ (fun y => if y = x then some (.int (k : Int) tt) else m y) → News h₀ L h₁ [] →
      wpAny (model prog w) A (isTrue test env (eval test env)) (fun b s₂ =>
        if b = true then wpAny (model prog w) A (execs body env) (fun f s' => Halt (f = .next ∧ ∃ h' tk' tt', s' = { s with heap := h', toks := tk' } ∧ k < S ∧
          Fr h₀ L h' (fun y => if y = x then some (.int ((k : Int) + 1) tt') else if y = x then some (.int (k : Int) tt) else m y))) E s₂ else Q .next s₂) E { s with heap := h₁, toks := tk₁ })
    (hE : PassesOwn (model prog w) A env E := by passes_own) :
    wpAny (model prog w) A (exec (.While test body [] pos) env) Q E s := by
  refine While_inv (n₀ := S - k₀) (fun j m' nw => nw = [] ∧ ∃ (k : Nat) (tt : Tok), m' = (fun y => if y = x then some (.int (k : Int) tt) else m y) ∧ j + k = S) F News.nil ⟨rfl, k₀, t₀, ?_, by omega⟩ ?_ hE
  · funext y
    split
    · rename_i e; rw [e, hx]
    · rfl
  · rintro j _ _ h₂ tk₂ F₂ N₂ ⟨rfl, k, tt, rfl, hj⟩
    refine wpAny_mono (turn k tt h₂ tk₂ (by omega) F₂ N₂) (fun b s₂ h => ?_) fun _ _ e => e
    cases b with
    | false => exact h
    | true =>
      rw [if_pos rfl] at h ⊢
      refine wpAny_mono h (fun f s' h => ?_) fun _ _ e => e
      obtain ⟨rfl, h', tk', tt', rfl, hlt, F'⟩ := h
      refine ⟨rfl, h', tk', _, [], S - (k + 1), rfl, F', News.nil, by omega, rfl, k + 1, tt', ?_, by omega⟩
      funext y
      split <;> rfl
/-- a while that counts a first name up to a bound, and a second beside it -/
theorem While_two {test : Expr} {body : List Stmt} {pos : Pos} {x z : Str} {m : Str → Option Value} {f₁ f₂ : Nat → Nat} {t₀ u₀ : Tok} (hxz : z ≠ x) (S : Nat)
    (F : Fr h₀ L s.heap m) (hx : m x = some (.int (f₁ 0 : Int) t₀)) (hz : m z = some (.int (f₂ 0 : Int) u₀))
    (turn : ∀ (k : Nat) (tt uu : Tok) h₁ tk₁, k ≤ S → Fr h₀ L h₁ (fun y => if y = x then some (.int (f₁ k : Int) tt) else if y = z then some (.int (f₂ k : Int) uu) else m y) → News h₀ L h₁ [] →
      wpAny (model prog w) A (isTrue test env (eval test env)) (fun b s₂ =>
        if b = true then wpAny (model prog w) A (execs body env) (fun f s' => Halt (f = .next ∧ ∃ h' tk' tt' uu', s' = { s with heap := h', toks := tk' } ∧ k < S ∧
          ∃ m', Fr h₀ L h' m' ∧ m' = fun y => if y = x then some (.int (f₁ (k + 1) : Int) tt') else if y = z then some (.int (f₂ (k + 1) : Int) uu') else m y)) E s₂ else Q .next s₂) E { s with heap := h₁, toks := tk₁ })
    (hE : PassesOwn (model prog w) A env E := by passes_own) :
    wpAny (model prog w) A (exec (.While test body [] pos) env) Q E s := by
  refine While_inv (n₀ := S) (fun j m' nw => nw = [] ∧ ∃ (k : Nat) (tt uu : Tok), m' = (fun y => if y = x then some (.int (f₁ k : Int) tt) else if y = z then some (.int (f₂ k : Int) uu) else m y) ∧ j + k = S) F News.nil ⟨rfl, 0, t₀, u₀, ?_, by omega⟩ ?_ hE
  · funext y
    split
    · rename_i e; rw [e, hx]
    · split
      · rename_i e; rw [e, hz]
      · rfl
  · rintro j _ _ h₂ tk₂ F₂ N₂ ⟨rfl, k, tt, uu, rfl, hj⟩
    refine wpAny_mono (turn k tt uu h₂ tk₂ (by omega) F₂ N₂) (fun b s₂ h => ?_) fun _ _ e => e
    cases b with
    | false => exact h
    | true =>
      rw [if_pos rfl] at h ⊢
      refine wpAny_mono h (fun f s' h => ?_) fun _ _ e => e
      obtain ⟨rfl, h', tk', tt', uu', rfl, hlt, m', F', e⟩ := h
      exact ⟨rfl, h', tk', _, [], S - (k + 1), rfl, F', News.nil, by omega, rfl, k + 1, tt', uu', e, by omega⟩
end
section
variable {prog : Program} {w : World} {p : Program} {loose : List Str} {mean : ExcName → Option Value} {mg mb : Str → Option Value} {dp un : Nat} {gd : Option (List Code)} {cn : Str} {cs : Scope} {a : Addr} {ccd : Value} {cl : List (Str × Addr)} {outer : List Env} {A₀ : Around} {base h₀ : Heap} {L : Addr} {m : Str → Option Value} {Q E : Value → Shared → Prop} {news : List (Addr × Obj)} {s : Shared}

theorem counted_call {W x M n : Nat} {t u v z : Tok} (B : Below A₀ base outer h₀) (F : Fr h₀ L s.heap m) (X : (hd.heap_1 w.params).In h₀) (T : Top p loose mean mg mb h₀) (hk : cs.kind = .function) (hd : dp ≤ 940) (hu : un ≤ 9400)
    (hW : W ≤ 16) (hx : x ≤ 3) (hM : 1 ≤ M) (hM3 : M ≤ 3) (hn : 1 ≤ n) (hn4 : n ≤ 4)
    (h : ∀ D t₁ t₂ t₃ h' tk', Fr h₀ L h' m → Kp s.heap h' → s.heap.get? D = none → h'.get? D = some (listOf [.int (cdiv (W * x) M : Nat) t₁, .int (cdiv (cdiv (W * x) M) n : Nat) t₂, .int (cdiv W (n * M) * x : Nat) t₃].toArray 0) → Q (.ref D) { s with heap := h', toks := tk' }) :
    wpAny (model prog w) (ktrTop dp un gd cn cs L a ccd cl outer) (call (.ref 218) [.int (W : Int) t, .int (x : Int) u, .int (M : Int) v, .int (n : Int) z]) Q E s := by
  refine wpAny_call ?_
  refine code_def0 (binds := [(Str.ofString "many", .int (W : Int) t), (Str.ofString "one", .int (x : Int) u), (Str.ofString "most", .int (M : Int) v), (Str.ofString "side", .int (n : Int) z)]) B F X T rfl rfl hk (by k_is) (by k_is) (rl hd rfl) (BindsTo.of_eq rfl) (locs rfl) ?_ rfl rfl rfl (by decide)
  intro g L' h₁ KP FG F₁ N₁ B₁ X₁ T₁ env' A' q' e'
  have hS : ∀ k : Nat, k < cdiv (W * x) M ↔ (k : Int) * (M : Int) < (W : Int) * (x : Int) := fun k => by
    rw [lt_cdiv hM]
    exact Int.ofNat_lt.symm
  have hB : ∀ k : Nat, k < cdiv (cdiv (W * x) M) n ↔ (k : Int) * (n : Int) < (cdiv (W * x) M : Nat) := fun k => by
    rw [lt_cdiv hn]
    exact Int.ofNat_lt.symm
  have hC : ∀ k : Nat, k < cdiv W (n * M) ↔ ((k * (n * M) : Nat) : Int) < (W : Int) := fun k => by
    rw [lt_cdiv (Nat.mul_pos hn hM)]
    exact Int.ofNat_lt.symm
  have hS1 : cdiv (W * x) M ≤ 48 := cdiv_le hM (Nat.le_trans (Nat.mul_le_mul hW hx) (Nat.le_mul_of_pos_right _ hM))
  have hB1 : cdiv (cdiv (W * x) M) n ≤ 48 := cdiv_le hn (Nat.le_trans hS1 (Nat.le_mul_of_pos_right _ hn))
  k_steps
  refine unhalt ?_
  refine While_one (x := Str.ofString "samples") (k₀ := 0) (cdiv (W * x) M) (by k_asm) rfl (Nat.zero_le _) ?_
  intro k tt h₂ tk₂ hk F₂ N₂
  have hSk := hS k
  k_steps
  · refine unhalt ⟨rfl, _, _, ?ta, rfl, ?la, ?Fa⟩
    case Fa => k_asm
    case la => omega
  obtain rfl : k = cdiv (W * x) M := by omega
  clear hSk
  refine unhalt ?_
  refine While_one (x := Str.ofString "blocks") (k₀ := 0) (cdiv (cdiv (W * x) M) n) (by k_asm) rfl (Nat.zero_le _) ?_
  intro k tt₂ h₃ tk₃ hk F₃ N₃
  have hBk := hB k
  k_steps
  · refine unhalt ⟨rfl, _, _, ?tb, rfl, ?lb, ?Fb⟩
    case Fb => k_asm
    case lb => omega
  obtain rfl : k = cdiv (cdiv (W * x) M) n := by omega
  clear hBk
  refine unhalt ?_
  refine While_two (x := Str.ofString "covered") (z := Str.ofString "whole") (f₁ := fun k => k * (n * M)) (f₂ := fun k => k * x) (by decide) (cdiv W (n * M)) (by k_asm) (by simp; rfl) (by simp; rfl) ?_
  intro k tt₃ uu₃ h₄ tk₄ hk F₄ N₄
  have hCk := hC k
  dsimp only at F₄ hCk
  have ek : ((k * (n * M) : Nat) : Int) + (n : Int) * (M : Int) = (((k + 1) * (n * M) : Nat) : Int) := by
    rw [Nat.add_mul, Nat.one_mul]; rfl
  have ex : ((k * x : Nat) : Int) + (x : Int) = (((k + 1) * x : Nat) : Int) := by
    rw [Nat.add_mul, Nat.one_mul]; rfl
  k_steps
  · refine unhalt ⟨rfl, _, _, ?tc, ?uc, rfl, ?l, ?mc, ?F, ?e⟩
    case F => k_asm
    case l => omega
    case e =>
      funext y
      by_cases h1 : y = Str.ofString "covered"
      · subst h1
        rw [if_pos rfl, if_pos rfl, ek]
      · repeat rw [if_neg h1]
        by_cases h2 : y = Str.ofString "whole"
        · subst h2
          rw [if_pos rfl, if_pos rfl, ex]
        · repeat rw [if_neg h2]
          repeat rw [if_neg h1]
          repeat rw [if_neg h2]
  obtain rfl : k = cdiv W (n * M) := by omega
  rename News g _ _ _ => gN
  rename News h₀ L _ _ => kN
  refine h _ _ _ _ _ _ ?_ (KP.trans ?_) (fresh_of KP gN (List.mem_cons_self ..)) (kN _ (List.mem_cons_self ..)).1
  · k_asm
  · exact Fr.keep (by k_asm)
end
/-- the source of draws: a list of two ints -/
abbrev srcO (p q : Int) (t u : Tok) (n : Nat) : Obj := listOf #[.int p t, .int q u] n
theorem fmod_nat (x : Int) {top : Nat} (ht : 1 ≤ top) : ∃ k : Nat, k < top ∧ x.fmod (top : Int) = (k : Int) := by
  have e : x.fmod (top : Int) = x % (top : Int) := Int.fmod_eq_emod_of_nonneg _ (by omega)
  have h1 := Int.emod_nonneg x (b := (top : Int)) (by omega)
  have h2 := Int.emod_lt_of_pos x (b := (top : Int)) (by omega)
  exact ⟨(x % (top : Int)).toNat, by omega, by rw [e]; omega⟩
theorem int_of {Q : Value → Shared → Prop} {a b : Int} {t : Tok} {s : Shared} (e : a = b) (h : Q (.int b t) s) : Q (.int a t) s := e ▸ h
section
variable {prog : Program} {w : World} {p : Program} {loose : List Str} {mean : ExcName → Option Value} {mg mb : Str → Option Value} {dp un : Nat} {gd : Option (List Code)} {cn : Str} {cs : Scope} {a : Addr} {ccd : Value} {cl : List (Str × Addr)} {outer : List Env} {A₀ : Around} {base h₀ : Heap} {L : Addr} {m : Str → Option Value} {Q E : Value → Shared → Prop} {news : List (Addr × Obj)} {s : Shared}

theorem take_call {src : Addr} {x y : Int} {tp tq : Tok} {nn : Nat} {top : Nat} {t : Tok} (B : Below A₀ base outer h₀) (F : Fr h₀ L s.heap m) (X : (hd.heap_1 w.params).In h₀) (T : Top p loose mean mg mb h₀) (hk : cs.kind = .function) (N : News h₀ L s.heap [(src, srcO x y tp tq nn)]) (hd : dp ≤ 940) (hu : un ≤ 9400)
    (hq : 0 ≤ y) (hq2 : y < 2147483648) (ht : 1 ≤ top) (ht2 : top < 100000)
    (h : ∀ (k : Nat) t' x' y' tp' tq' nn' h' tk', k < top → 0 ≤ y' → y' < 2147483648 → Fr h₀ L h' m → News h₀ L h' [(src, srcO x' y' tp' tq' nn')] → KpB [src] s.heap h' → Q (.int (k : Int) t') { s with heap := h', toks := tk' }) :
    wpAny (model prog w) (ktrTop dp un gd cn cs L a ccd cl outer) (call (.ref 199) [.ref src, .int (top : Int) t]) Q E s := by
  refine wpAny_call ?_
  refine code_defN (binds := [(Str.ofString "source", .ref src), (Str.ofString "top", .int (top : Int) t)]) B F X (news := [(src, srcO x y tp tq nn)]) N T rfl rfl hk (by k_is) (by k_is) (rl hd rfl) (BindsTo.of_eq rfl) (locs rfl) ?_ rfl rfl rfl (by decide)
  intro g L' h₁ KP FG F₁ N₁ B₁ X₁ T₁ env' A' q' e'
  have hz : 0 ≤ (y * 39373 + 7).fmod 2147483647 ∧ (y * 39373 + 7).fmod 2147483647 < 2147483648 := by
    rw [Int.fmod_eq_emod_of_nonneg _ (by decide)]
    exact ⟨Int.emod_nonneg _ (by decide), Int.lt_trans (Int.emod_lt_of_pos _ (by decide)) (by decide)⟩
  k_steps
  · obtain ⟨k, hk1, e⟩ := fmod_nat x ht
    rename News h₀ L _ _ => kN
    rw [show ([x, y].getD (Int.toNat 0) 0).fmod (top : Int) = (k : Int) from e]
    refine h k _ _ _ _ _ _ _ _ hk1 hq hq2 ?_ kN (KpB.trans KP (Kp.but (Fr.keep (by k_asm))))
    k_asm
  · refine mul_int ?_ (IntMulOk.of_left (intBits_le_64 (show -(2 ^ 64) < (y * 39373 + 7).fmod 2147483647 by omega) (show (y * 39373 + 7).fmod 2147483647 < 2 ^ 64 by omega)))
    k_steps
    rename News h₀ L _ _ => kN
    obtain ⟨k, hk1, e⟩ := fmod_nat ((((y * 39373 + 7).fmod 2147483647 * (y * 39373 + 7).fmod 2147483647).fmod 2147483629).fdiv 32) ht
    refine int_of e (h k _ _ _ _ _ _ _ _ hk1 hz.1 hz.2 ?_ kN (KpB.trans KP (Kp.but (Fr.keep (by k_asm)))))
    k_asm
end
theorem kpb_list {as : List Addr} {h h' : Heap} {l : Addr} {its : Array Value} (x : h.IsList l its) (k : KpB as h h') (n : l ∉ as) : h'.IsList l its := let ⟨o, ho, r⟩ := x; ⟨o, k l o n ho, r⟩
theorem fmod_b (z : Int) : 0 ≤ z.fmod 2147483647 ∧ z.fmod 2147483647 < 2147483648 := by
  rw [Int.fmod_eq_emod_of_nonneg _ (by decide)]
  exact ⟨Int.emod_nonneg _ (by decide), Int.lt_trans (Int.emod_lt_of_pos _ (by decide)) (by decide)⟩
section
variable {prog : Program} {w : World} {p : Program} {loose : List Str} {mean : ExcName → Option Value} {mg mb : Str → Option Value} {dp un : Nat} {gd : Option (List Code)} {cn : Str} {cs : Scope} {a : Addr} {ccd : Value} {cl : List (Str × Addr)} {outer : List Env} {A₀ : Around} {base h₀ : Heap} {L : Addr} {m : Str → Option Value} {Q E : Value → Shared → Prop} {news : List (Addr × Obj)} {s : Shared}

theorem one_call {src th : Addr} {x y : Int} {tp tq : Tok} {nn : Nat} {its : Array Value} {n : Nat} (B : Below A₀ base outer h₀) (F : Fr h₀ L s.heap m) (X : (hd.heap_1 w.params).In h₀) (T : Top p loose mean mg mb h₀) (hk : cs.kind = .function) (N : News h₀ L s.heap [(src, srcO x y tp tq nn)]) (hd : dp ≤ 930) (hu : un ≤ 9300)
    (hq : 0 ≤ y) (hq2 : y < 2147483648) (hl : s.heap.IsList th its) (hne : th ≠ src) (hsz : its.size = n) (hn : 1 ≤ n) (hn2 : n < 100000)
    (h : ∀ (k : Nat) v x' y' tp' tq' nn' h' tk', k < n → its[k]? = some v → 0 ≤ y' → y' < 2147483648 → Fr h₀ L h' m → News h₀ L h' [(src, srcO x' y' tp' tq' nn')] → KpB [src] s.heap h' → Q v { s with heap := h', toks := tk' }) :
    wpAny (model prog w) (ktrTop dp un gd cn cs L a ccd cl outer) (call (.ref 206) [.ref src, .ref th]) Q E s := by
  refine wpAny_call ?_
  refine code_defN (binds := [(Str.ofString "source", .ref src), (Str.ofString "things", .ref th)]) B F X (news := [(src, srcO x y tp tq nn)]) N T rfl rfl hk (by k_is) (by k_is) (rl hd rfl) (BindsTo.of_eq rfl) (locs rfl) ?_ rfl rfl rfl (by decide)
  intro g L' h₁ KP FG F₁ N₁ B₁ X₁ T₁ env' A' q' e'
  have hl' : g.IsList th its := kpb_list hl KP (by simpa using hne)
  k_steps
  refine unhalt ?_
  refine len_at (list_up hl' (by k_asm)) hsz (by omega) ?_
  k_steps
  refine unhalt ?_
  refine take_call (by k_asm) (by k_asm) (by k_asm) (by k_asm) (by first | exact rfl | assumption) (by k_asm) (rm hd rfl) (rm hu rfl) hq hq2 hn hn2 ?_
  intro k t₂ x₂ y₂ tp₂ tq₂ nn₂ h₂ tk₂ hk2 hy1 hy2 F₂ N₂ KP₂
  k_sweep
  obtain ⟨v, hv⟩ : ∃ v, its[k]? = some v := ⟨its[k], Array.getElem?_eq_getElem (hsz ▸ hk2)⟩
  k_steps
  refine unhalt ?_
  refine item_at (list_up hl' (by k_asm)) rfl (by omega) hv ?_
  k_steps
  rename News h₀ L _ _ => kN
  refine h k v _ _ _ _ _ _ _ hk2 hv hy1 hy2 ?_ kN (KpB.trans KP (Kp.but (Fr.keep (by k_asm))))
  k_asm
theorem pool_call {sl : Addr} {vs : List Value} {ns : List Int} {k : Nat} {t : Tok} (B : Below A₀ base outer h₀) (F : Fr h₀ L s.heap m) (X : (hd.heap_1 w.params).In h₀) (T : Top p loose mean mg mb h₀) (hk : cs.kind = .function) (hd : dp ≤ 930) (hu : un ≤ 9300)
    (hl : s.heap.IsList sl vs.toArray) (hi : IntsAre vs ns) (hlen : ns.length ≤ 63) (hk1 : k ≤ 1)
    (h : ∀ D x' y' tp' tq' nn' h' tk', 0 ≤ y' → y' < 2147483648 → Fr h₀ L h' m → Kp s.heap h' → s.heap.get? D = none → h'.get? D = some (srcO x' y' tp' tq' nn') → Q (.ref D) { s with heap := h', toks := tk' }) :
    wpAny (model prog w) (ktrTop dp un gd cn cs L a ccd cl outer) (call (.ref 192) [.ref sl, .int (k : Int) t]) Q E s := by
  refine wpAny_call ?_
  refine code_def0 (binds := [(Str.ofString "script", .ref sl), (Str.ofString "k", .int (k : Int) t)]) B F X T rfl rfl hk (by k_is) (by k_is) (rl hd rfl) (BindsTo.of_eq rfl) (locs rfl) ?_ rfl rfl rfl (by decide)
  intro g L' h₁ KP FG F₁ N₁ B₁ X₁ T₁ env' A' q' e'
  have hl' := list_kp hl KP
  have hsz : vs.toArray.size = ns.length := by rw [List.size_toArray, IntsAre.length hi]
  k_steps
  refine unhalt ?_
  refine len_at (list_up hl' (by k_asm)) hsz (by omega) ?_
  k_steps
  all_goals
    rename News g _ _ _ => gN
    rename News h₀ L _ _ => kN
    refine h _ _ _ _ _ _ _ _ ?_ ?_ ?_ (KP.trans ?_) (fresh_of KP gN (List.mem_cons_self ..)) (kN _ (List.mem_cons_self ..)).1
    · exact (fmod_b _).1
    · exact (fmod_b _).2
    · k_asm
    · exact Fr.keep (by k_asm)
end
theorem rsz (n : Nat) : Builtin.Range.rangeSize 0 (n : Int) 1 = (n : Int) := by
  unfold Builtin.Range.rangeSize
  rw [if_pos (by decide)]
  split <;> omega
theorem rsm (n : Nat) (hn : n < 1000000) : Builtin.Range.small 0 (n : Int) 1 = true := by
  simp [Builtin.Range.small, Builtin.Range.rangeFitsLong, rsz]
  omega
abbrev ovr (st : List Str) (u m : Str → Option Value) : Str → Option Value := fun z => if st.contains z then u z else m z
/-- a frame's names, but for some that a loop stores -/
def Ovr (st : List Str) (m₀ m : Str → Option Value) : Prop := ∀ z, z ∉ st → m z = m₀ z
theorem Ovr.self {st : List Str} {m : Str → Option Value} : Ovr st m m := fun _ _ => rfl
theorem Ovr.ex {st : List Str} {m₀ m : Str → Option Value} (h : Ovr st m₀ m) : ∃ u, m = ovr st u m₀ := ⟨m, funext fun z => by
  dsimp only [ovr]
  by_cases hz : st.contains z = true
  · rw [if_pos hz]
  · rw [if_neg hz, h z (fun e => hz (List.contains_iff_mem.mpr e))]⟩
theorem Ovr.set {st : List Str} {m₀ m : Str → Option Value} {x : Str} {v : Option Value} (h : Ovr st m₀ m) (hx : x ∈ st) : Ovr st m₀ (fun y => if y = x then v else m y) := fun z hz => by
  have hne : z ≠ x := fun e => hz (e ▸ hx)
  show (if z = x then v else m z) = m₀ z
  rw [if_neg hne]
  exact h z hz
theorem Ovr.of {st : List Str} {u m : Str → Option Value} : Ovr st m (ovr st u m) := fun z hz => by
  dsimp only [ovr]
  rw [if_neg (fun e => hz (List.contains_iff_mem.mp e))]
theorem Ovr.trans {st st' : List Str} {m₀ m₁ m₂ : Str → Option Value} (h : Ovr st m₀ m₁) (k : Ovr st' m₁ m₂) (sub : ∀ z ∈ st', z ∈ st) : Ovr st m₀ m₂ := fun z hz => (k z fun e => hz (sub z e)).trans (h z hz)
section
variable {prog : Program} {w : World} {A : Around} {E : Value → Shared → Prop} {s : Shared} {env : Env} {h₀ : Heap} {Q : Flow → Shared → Prop}
/-- the end of a loop's turn -/
def TurnEnd (h₀ : Heap) (L : Addr) (s : Shared) (I : Addr) (oI : Obj) (J : (Str → Option Value) → List (Addr × Obj) → Prop) (f : Flow) (s' : Shared) : Prop :=
  Halt (f = .next ∧ ∃ h' tk' m' nx', s' = { s with heap := h', toks := tk' } ∧ Fr h₀ L h' m' ∧ News h₀ L h' ((I, oI) :: nx') ∧ (∀ p ∈ nx', p.1 ≠ I) ∧ J m' nx')
theorem TurnEnd.intro {L : Addr} {I : Addr} {oI : Obj} {J : (Str → Option Value) → List (Addr × Obj) → Prop} {h' : Heap} {tk' : Nat} {m' : Str → Option Value} {all : List (Addr × Obj)} (F : Fr h₀ L h' m') (N : News h₀ L h' all) (nx' : List (Addr × Obj))
    (sub : ∀ p ∈ (I, oI) :: nx', p ∈ all) (off : ∀ p ∈ nx', p.1 ≠ I) (j : J m' nx') : TurnEnd h₀ L s I oI J .next { s with heap := h', toks := tk' } :=
  ⟨rfl, h', tk', m', nx', rfl, F, fun p hp => N p (sub p hp), off, j⟩
theorem forW {x : Str} {px : Pos} {body : List Stmt} {I : Addr} {fp : List Addr} {n : Nat} {P : Nat → Value → Prop} {St : Nat → Heap → Prop} {S : List (Addr × Obj) → Prop} {m : Str → Option Value} {news : List (Addr × Obj)}
    (W : Walks prog w A I fp [I] n P St) (hIo : ∀ i h, St i h → ∃ o, h.get? I = some o)
    (hSt : ∀ i h h' o nw, St i h → h.get? I = some o → h'.get? I = some o → (∀ b o, h₀.get? b = some o → h'.get? b = some o) → News h₀ env.locals h' nw → S nw → St i h')
    (hx : env.kindOf x = some .local) (hp : (env.scope.kind == .class || (env.scope.kind == .module && env.locals != env.globals)) = false) (hst : St 0 s.heap) (hLf : env.locals ∉ fp)
    (F : Fr h₀ env.locals s.heap m) (N : News h₀ env.locals s.heap news) (hI₀ : h₀.get? I = none) (off : ∀ p ∈ news, p.1 ≠ I)
    (J : Nat → (Str → Option Value) → List (Addr × Obj) → Prop) (hS : ∀ i m nx, J i m nx → S nx) (h0 : J 0 m news)
    (turn : ∀ i m₁ nx v oI h tk, i < n → P i v → J i m₁ nx → (∀ p ∈ nx, p.1 ≠ I) → Fr h₀ env.locals h (fun y => if y = x then some v else m₁ y) → News h₀ env.locals h ((I, oI) :: nx) →
      wpAny (model prog w) A (execs body env) (TurnEnd h₀ env.locals s I oI (J (i + 1))) (fun _ _ => False) { s with heap := h, toks := tk })
    (done : ∀ m' nx h tk, J n m' nx → Fr h₀ env.locals h m' → News h₀ env.locals h nx → Q .next { s with heap := h, toks := tk }) :
    codeAny (model prog w) A (.forLoop (.Name x px) (.ref I) body [] env) (fun r s' => match r with | .ok f => Q f s' | .error e => cameBackBy (model prog w) A env E e s') s := by
  have hLI : env.locals ≠ I := fun e => hLf (e ▸ W.sub I (List.mem_singleton.mpr rfl))
  refine codeAny_forLoop (fun k s' => ∃ h' tk i m' nx, s' = { s with heap := h', toks := tk } ∧ i ≤ n ∧ k = n + 1 - i ∧ St i h' ∧ Fr h₀ env.locals h' m' ∧ News h₀ env.locals h' nx ∧ (∀ p ∈ nx, p.1 ≠ I) ∧ J i m' nx) ?_ (n + 1)
    ⟨s.heap, s.toks, 0, m, news, rfl, Nat.zero_le _, rfl, hst, F, N, off, h0⟩
  rintro k s' ⟨h', tk, i, m', nx, rfl, hi, rfl, hst', F', N', off', hJ⟩
  by_cases hlt : i < n
  · refine W.item i _ _ _ hlt hst' fun v h₂ tk₂ hPv hst₂ hk₂ => ?_
    have F₂ := LCg.fr_but F' hk₂ hLI hI₀
    have N₂ := LCg.news_but N' hk₂ off'
    refine wpAny_assign_Name (wpAny_storeName_local hx F₂.ns (fun h₃ hn₃ hs₃ => ?_) hp)
    have hst₃ : St (i + 1) h₃ := W.frame _ _ _ hst₂ fun b hb o e => hs₃.extBut b o (fun q => hLf (q ▸ hb)) e
    obtain ⟨oI, heI⟩ := hIo _ _ hst₃
    have F₃ := F₂.set hn₃ hs₃
    have N₃ : News h₀ env.locals h₃ ((I, oI) :: nx) := fun p hp => by
      rcases List.mem_cons.mp hp with rfl | hp
      · exact ⟨heI, Ne.symm hLI, hI₀⟩
      · exact N₂.set hs₃ p hp
    refine wpAny_mono (turn i m' nx v oI h₃ _ hlt hPv hJ off' F₃ N₃) (fun f s₃ h => ?_) fun _ _ e => e.elim
    obtain ⟨rfl, h₄, tk₄, m₄, nx₄, rfl, F₄, N₄, off₄, hJ₄⟩ := h
    have N₄' : News h₀ env.locals h₄ nx₄ := fun p hp => N₄ p (List.mem_cons_of_mem _ hp)
    exact ⟨n + 1 - (i + 1), by omega, h₄, tk₄, i + 1, m₄, nx₄, rfl, hlt, rfl, hSt _ _ _ _ _ hst₃ heI (N₄ _ List.mem_cons_self).1 F₄.keep N₄' (hS _ _ _ hJ₄), F₄, N₄', off₄, hJ₄⟩
  · obtain rfl : i = n := Nat.le_antisymm hi (Nat.not_lt.mp hlt)
    refine W.done _ _ _ hst' fun h₂ tk₂ hk₂ => wpAny_execs_nil ?_
    exact done m' nx h₂ tk₂ hJ (LCg.fr_but F' hk₂ hLI hI₀) (LCg.news_but N' hk₂ off')

theorem For_range (st : List Str) {x : Str} {px pos : Pos} {iter : PySem.Expr} {body : List Stmt} {m : Str → Option Value} (_F₀ : Fr h₀ env.locals s.heap m)
    (hx : env.kindOf x = some .local) (hp : (env.scope.kind == .class || (env.scope.kind == .module && env.locals != env.globals)) = false) (hh : A.handled = none)
    (h : wpAny (model prog w) A (eval iter env) (fun xv s₁ => Halt (∃ (r : Addr) (n : Nat) (t u v : Tok) (m₁ : Str → Option Value) (news : List (Addr × Obj)) (K : Nat → List (Addr × Obj) → Prop),
      xv = .ref r ∧ IsRange s₁.heap r 0 (n : Int) 1 t u v ∧ n < 1000000 ∧ Fr h₀ env.locals s₁.heap m₁ ∧ News h₀ env.locals s₁.heap news ∧ K 0 news ∧
      (∀ i u nx t I oI h tk, i < n → K i nx → (∀ p ∈ nx, p.1 ≠ I) → Fr h₀ env.locals h (fun y => if y = x then some (.int (i : Int) t) else ovr st u m₁ y) → News h₀ env.locals h ((I, oI) :: nx) →
        ∀ Qt : Flow → Shared → Prop, (∀ s', TurnEnd h₀ env.locals s₁ I oI (fun m' nx' => Ovr st m₁ m' ∧ K (i + 1) nx') .next s' → Qt .next s') → wpAny (model prog w) A (execs body env) Qt (fun _ _ => False) { s₁ with heap := h, toks := tk }) ∧
      (∀ u nx h tk, K n nx → Fr h₀ env.locals h (ovr st u m₁) → News h₀ env.locals h nx → Q .next { s₁ with heap := h, toks := tk }))) E s)
    (hs : ∀ x, foldedSetIterable iter env x = pure x := by intro _; rfl) :
    wpAny (model prog w) A (exec (.For (.Name x px) iter body [] pos) env) Q E s := by
  refine wpAny_For (wpAny_mono h (fun xv s₁ h₁ => ?_) fun _ _ e => e) hs
  obtain ⟨r, n, t, u, v, m₁, news, K, rfl, hr, hn, F, N, h0, turn, done⟩ := h₁
  have hsz := rsz n
  refine wpAny_pyIter_range hr (rsm n hn) ?_
  have up : ∀ b o, s₁.heap.get? b = some o → (s₁.heap.push { cls := .type "range_iterator", data := .fields #[rawInt 0, rawInt (Builtin.Range.rangeSize 0 (n : Int) 1), rawInt 1] }).get? b = some o := fun b o e => Heap.get?_push_of_some _ e
  refine forW (S := fun _ => True) (LCg.range_walks hh 0 n) (fun i h st => ⟨_, st⟩) LCg.range_st hx hp (by show IsRangeIter _ _ _ _ _; rw [hsz]; simpa using Heap.get?_push_size _ rfl) ?_ (F.keeps up) (N.grown up) (next_is_new F) (fun p hp => Nat.ne_of_lt (Heap.lt_size (N p hp).1)) (fun i m nx => Ovr st m₁ m ∧ K i nx) (fun _ _ _ _ => trivial) ⟨Ovr.self, h0⟩ ?_ ?_
  · intro hm
    exact absurd F.ns.lt ((List.mem_singleton.mp hm) ▸ Nat.lt_irrefl _)
  · rintro i m₂ nx v oI h tk hi ⟨t, rfl⟩ ⟨hO, hK⟩ off F₁ N₁
    rw [Int.zero_add] at F₁
    obtain ⟨u, rfl⟩ := hO.ex
    exact turn i u nx t _ oI h tk hi hK off F₁ N₁ _ fun _ e => e
  · rintro m' nx h tk ⟨hO, hK⟩ F' N'
    obtain ⟨u, rfl⟩ := hO.ex
    exact done u nx h tk hK F' N'

theorem For_list (st : List Str) {x : Str} {px pos : Pos} {iter : PySem.Expr} {body : List Stmt} {m : Str → Option Value} (_F₀ : Fr h₀ env.locals s.heap m)
    (hx : env.kindOf x = some .local) (hp : (env.scope.kind == .class || (env.scope.kind == .module && env.locals != env.globals)) = false) (hh : A.handled = none)
    (h : wpAny (model prog w) A (eval iter env) (fun xv s₁ => Halt (∃ (l : Addr) (its : Array Value) (m₁ : Str → Option Value) (news : List (Addr × Obj)) (K : Nat → List (Addr × Obj) → Prop),
      xv = .ref l ∧ Fr h₀ env.locals s₁.heap m₁ ∧ News h₀ env.locals s₁.heap news ∧ (∀ i nx, K i nx → LCg.SrcAt h₀ l its nx) ∧ K 0 news ∧
      (∀ i u nx v I oI h tk, its[i]? = some v → K i nx → (∀ p ∈ nx, p.1 ≠ I) → Fr h₀ env.locals h (fun y => if y = x then some v else ovr st u m₁ y) → News h₀ env.locals h ((I, oI) :: nx) →
        ∀ Qt : Flow → Shared → Prop, (∀ s', TurnEnd h₀ env.locals s₁ I oI (fun m' nx' => Ovr st m₁ m' ∧ K (i + 1) nx') .next s' → Qt .next s') → wpAny (model prog w) A (execs body env) Qt (fun _ _ => False) { s₁ with heap := h, toks := tk }) ∧
      (∀ u nx h tk, K its.size nx → Fr h₀ env.locals h (ovr st u m₁) → News h₀ env.locals h nx → Q .next { s₁ with heap := h, toks := tk }))) E s)
    (hs : ∀ x, foldedSetIterable iter env x = pure x := by intro _; rfl) :
    wpAny (model prog w) A (exec (.For (.Name x px) iter body [] pos) env) Q E s := by
  refine wpAny_For (wpAny_mono h (fun xv s₁ h₁ => ?_) fun _ _ e => e) hs
  obtain ⟨l, its, m₁, news, K, rfl, F, N, hS, h0, turn, done⟩ := h₁
  have hl := (hS 0 _ h0).list F.keep N
  have hlt : l < s₁.heap.objs.size := by obtain ⟨_, e, _⟩ := hl; exact Heap.lt_size e
  refine wpAny_pyIter_list hl ?_
  have up : ∀ b o, s₁.heap.get? b = some o → (s₁.heap.push { cls := .type "list_iterator", data := .fields #[.ref l, .int 0 0] }).get? b = some o := fun b o e => Heap.get?_push_of_some _ e
  refine forW (S := LCg.SrcAt h₀ l its) (Walks.list hh s₁.heap.objs.size l (Nat.ne_of_lt hlt) its) (fun i h st => by obtain ⟨o, e, _⟩ := st.1; exact ⟨o, e⟩) LCg.list_st hx hp ⟨⟨_, Heap.get?_push_size _ rfl, rfl, rfl⟩, hl.push _⟩ ?_ (F.keeps up) (N.grown up) (next_is_new F) (fun p hp => Nat.ne_of_lt (Heap.lt_size (N p hp).1)) (fun i m nx => Ovr st m₁ m ∧ K i nx) (fun i _ nx h => hS i nx h.2) ⟨Ovr.self, h0⟩ ?_ ?_
  · intro hm
    rcases List.mem_cons.mp hm with e | hm
    · exact absurd F.ns.lt (e ▸ Nat.lt_irrefl _)
    · have e : env.locals = l := List.mem_singleton.mp hm
      rcases hS 0 _ h0 with ⟨o, q, _⟩ | ⟨o, q, _⟩
      · exact absurd (Nat.lt_of_lt_of_le (Heap.lt_size q) F.above) (e ▸ Nat.lt_irrefl _)
      · exact (N _ q).2.1 e.symm
  · rintro i m₂ nx v oI h tk hi hP ⟨hO, hK⟩ off F₁ N₁
    obtain ⟨u, rfl⟩ := hO.ex
    exact turn i u nx v _ oI h tk hP hK off F₁ N₁ _ fun _ e => e
  · rintro m' nx h tk ⟨hO, hK⟩ F' N'
    obtain ⟨u, rfl⟩ := hO.ex
    exact done u nx h tk hK F' N'
end
abbrev Blk := Nat × Nat × Nat × Nat
abbrev blkO (b : Blk) (t : Nat → Tok) : Obj := tupO [.int (b.1 : Int) (t 0), .int (b.2.1 : Int) (t 1), .int (b.2.2.1 : Int) (t 2), .int (b.2.2.2 : Int) (t 3)]
noncomputable def Tups (l : List (Addr × Obj)) : List Value → List Blk → Prop
  | [], [] => True
  | v :: vs, b :: bs => (∃ a t, v = .ref a ∧ (a, blkO b t) ∈ l) ∧ Tups l vs bs
  | _, _ => False
theorem Tups.mono {l l' : List (Addr × Obj)} (k : ∀ p ∈ l, p ∈ l') : ∀ {vs : List Value} {bs : List Blk}, Tups l vs bs → Tups l' vs bs
  | [], [], _ => trivial
  | _ :: _, _ :: _, ⟨⟨a, t, e, h⟩, r⟩ => ⟨⟨a, t, e, k _ h⟩, Tups.mono k r⟩
  | [], _ :: _, h => h.elim
  | _ :: _, [], h => h.elim
theorem Tups.snoc {l : List (Addr × Obj)} {a : Addr} {b : Blk} {t : Nat → Tok} : ∀ {vs : List Value} {bs : List Blk}, Tups l vs bs → (a, blkO b t) ∈ l → Tups l (vs ++ [.ref a]) (bs ++ [b])
  | [], [], _, h => ⟨⟨a, t, rfl, h⟩, trivial⟩
  | _ :: _, _ :: _, ⟨x, r⟩, h => ⟨x, Tups.snoc r h⟩
  | [], _ :: _, h, _ => h.elim
  | _ :: _, [], h, _ => h.elim
/-- a list of blocks that a call fills, and its blocks behind it -/
def UnitLed (fnd : Addr) (ids : List Addr) (data : List Blk) (nx : List (Addr × Obj)) : Prop := ∃ vs n tl, nx = (fnd, listOf vs.toArray n) :: tl ∧ Tups tl vs data ∧ (∀ p ∈ tl, p.1 ∉ fnd :: ids)
theorem notc {z a : Addr} {l : List Addr} (h : z ≠ a) (k : z ∉ l) : z ∉ a :: l := fun m => (List.mem_cons.mp m).elim h k
theorem notl {z a : Addr} {l : List Addr} (k : z ∉ a :: l) : z ≠ a ∧ z ∉ l := ⟨fun e => k (e ▸ List.mem_cons_self ..), fun m => k (List.mem_cons_of_mem _ m)⟩
/-- the blocks of a unit -/
def Fm.c (d : Fm) (p : Nat) : Nat × Nat := d.cs.getD p (1, 1)
def unitAt (d : Fm) (ps : List Nat) (x y at_ : Nat) : List Blk :=
  (List.range (d.c (ps.getD at_ 0)).2).flatMap fun dy => (List.range (d.c (ps.getD at_ 0)).1).map fun dx => (at_, ps.getD at_ 0, x * (d.c (ps.getD at_ 0)).1 + dx, y * (d.c (ps.getD at_ 0)).2 + dy)
def unitL (d : Fm) (ps : List Nat) (x y : Nat) : List Blk :=
  if ps.length = 1 then [(0, ps.headD 0, x, y)] else (List.range ps.length).flatMap fun at_ => unitAt d ps x y at_
theorem ScanIs.item {w : World} {h : Heap} {sc : Addr} {ps : List Nat} {r : Rep} {vps : List Value} (a : ScanIs w h sc ps r vps) {i : Nat} (hi : i < ps.length) : ∃ t, vps.toArray[i]? = some (.int ((ps.getD i 0 : Nat) : Int) t) := by
  obtain ⟨t, e⟩ := a.are.get i ((ps.getD i 0 : Nat) : Int) (by simp [hi])
  exact ⟨t, by simpa using e⟩
theorem PsOk.at {d : Fm} {ps : List Nat} (po : PsOk d ps) {i : Nat} (hi : i < ps.length) : d.cs[ps.getD i 0]? = some (d.c (ps.getD i 0)) := by
  have hm : ps.getD i 0 ∈ ps := by
    have e : ps.getD i 0 = ps[i] := by simp [hi]
    rw [e]; exact List.getElem_mem hi
  have := po.lt _ hm
  rw [Fm.c, List.getD_eq_getElem?_getD (l := d.cs), List.getElem?_eq_getElem this]
  rfl
theorem Tups.length {l : List (Addr × Obj)} : ∀ {vs : List Value} {bs : List Blk}, Tups l vs bs → vs.length = bs.length
  | [], [], _ => rfl
  | _ :: _, _ :: _, h => congrArg (· + 1) (Tups.length h.2)
  | [], _ :: _, h => h.elim
  | _ :: _, [], h => h.elim
theorem flat_len {α : Type} {f : Nat → List α} {B : Nat} : ∀ {n : Nat}, (∀ i, i < n → (f i).length ≤ B) → ((List.range n).flatMap f).length ≤ n * B
  | 0, _ => Nat.zero_le _
  | n + 1, h => by
    rw [List.range_succ, List.flatMap_append, List.length_append, Nat.add_mul, Nat.one_mul]
    refine Nat.add_le_add (flat_len fun i hi => h i (by omega)) ?_
    simpa using h n (by omega)
theorem unitAt_len {d : Fm} {ps : List Nat} (ok : d.Ok) (po : PsOk d ps) {x y i : Nat} (hi : i < ps.length) : (unitAt d ps x y i).length ≤ 6 := by
  have h := ok.each _ (List.mem_of_getElem? (po.at hi))
  refine Nat.le_trans (flat_len (B := 3) fun j _ => ?_) (show _ ≤ 2 * 3 from Nat.mul_le_mul h.2.2.2 (Nat.le_refl _))
  rw [List.length_map, List.length_range]
  exact h.2.1
theorem unit_turn {g h : Heap} {L : Addr} {s : Shared} {tk : Nat} {m m₀ : Str → Option Value} {st : List Str} {I₁ I₂ I₃ fnd D : Addr} {o₁ o₂ o₃ : Obj} {q : Addr × Obj} {vs : List Value} {n : Nat} {tl : List (Addr × Obj)} {z1 z2 z3 z4 : Int} {t1 t2 t3 t4 : Tok} (b : Blk) {data : List Blk}
    (F : Fr g L h m) (N : News g L h ((D, tupO [.int z1 t1, .int z2 t2, .int z3 t3, .int z4 t4]) :: q :: (I₃, o₃) :: (I₂, o₂) :: (I₁, o₁) :: (fnd, listOf (vs.toArray.push (.ref D)) (n + 1)) :: tl))
    (hb : (b.1 : Int) = z1 ∧ (b.2.1 : Int) = z2 ∧ (b.2.2.1 : Int) = z3 ∧ (b.2.2.2 : Int) = z4) (hT : Tups tl vs data) (hD : D ∉ [I₃, fnd, I₂, I₁]) (h2 : (@Ne Nat I₂ I₃)) (h1 : (@Ne Nat I₁ I₃)) (hf : (@Ne Nat fnd I₃)) (ht : ∀ p ∈ tl, p.1 ≠ I₃) (htl : ∀ p ∈ tl, p.1 ∉ [fnd, I₂, I₁]) (hO : Ovr st m₀ m) :
    TurnEnd g L s I₃ o₃ (fun m' nx' => Ovr st m₀ m' ∧ ∃ nu, nx' = (I₂, o₂) :: (I₁, o₁) :: nu ∧ UnitLed fnd [I₂, I₁] (data ++ [b]) nu) .next { s with heap := h, toks := tk } := by
  obtain ⟨rfl, rfl, rfl, rfl⟩ := hb
  have e : tupO [.int (b.1 : Int) t1, .int (b.2.1 : Int) t2, .int (b.2.2.1 : Int) t3, .int (b.2.2.2 : Int) t4] = blkO b (fun i => [t1, t2, t3, t4].getD i 0) := rfl
  rw [e, List.push_toArray] at N
  refine TurnEnd.intro F N ((I₂, o₂) :: (I₁, o₁) :: (fnd, listOf (vs ++ [Value.ref D]).toArray (n + 1)) :: (D, blkO b (fun i => [t1, t2, t3, t4].getD i 0)) :: tl) (fun p hp => ?_) (fun p hp => ?_) ⟨hO, _, rfl, _, _, _, rfl, (hT.mono fun p hp => List.mem_cons_of_mem _ hp).snoc (List.mem_cons_self ..), fun p hp => ?_⟩
  · revert hp; revert p
    exact (by repeat' first | refine all_cons ?_ ?_ | exact List.Mem.head _ | exact List.Mem.tail _ (List.Mem.head _) | exact List.Mem.tail _ (List.Mem.tail _ (List.Mem.head _)) | exact List.Mem.tail _ (List.Mem.tail _ (List.Mem.tail _ (List.Mem.head _))) | exact List.Mem.tail _ (List.Mem.tail _ (List.Mem.tail _ (List.Mem.tail _ (List.Mem.head _)))) | exact List.Mem.tail _ (List.Mem.tail _ (List.Mem.tail _ (List.Mem.tail _ (List.Mem.tail _ (List.Mem.head _))))) | exact List.Mem.tail _ (List.Mem.tail _ (List.Mem.tail _ (List.Mem.tail _ (List.Mem.tail _ (List.Mem.tail _ (List.Mem.head _)))))) | exact List.Mem.tail _ (List.Mem.tail _ (List.Mem.tail _ (List.Mem.tail _ (List.Mem.tail _ (List.Mem.tail _ (List.Mem.tail _ (List.Mem.head _))))))) | exact List.Mem.tail _ (List.Mem.tail _ (List.Mem.tail _ (List.Mem.tail _ (List.Mem.tail _ (List.Mem.tail _ (List.Mem.tail _ (List.Mem.tail _ (List.Mem.head _)))))))) | exact fun _ h => h | exact fun _ h => List.Mem.tail _ (h) | exact fun _ h => List.Mem.tail _ (List.Mem.tail _ (h)) | exact fun _ h => List.Mem.tail _ (List.Mem.tail _ (List.Mem.tail _ (h))) | exact fun _ h => List.Mem.tail _ (List.Mem.tail _ (List.Mem.tail _ (List.Mem.tail _ (h)))) | exact fun _ h => List.Mem.tail _ (List.Mem.tail _ (List.Mem.tail _ (List.Mem.tail _ (List.Mem.tail _ (h))))) | exact fun _ h => List.Mem.tail _ (List.Mem.tail _ (List.Mem.tail _ (List.Mem.tail _ (List.Mem.tail _ (List.Mem.tail _ (h)))))) | exact fun _ h => List.Mem.tail _ (List.Mem.tail _ (List.Mem.tail _ (List.Mem.tail _ (List.Mem.tail _ (List.Mem.tail _ (List.Mem.tail _ (h))))))) | exact fun _ h => List.Mem.tail _ (List.Mem.tail _ (List.Mem.tail _ (List.Mem.tail _ (List.Mem.tail _ (List.Mem.tail _ (List.Mem.tail _ (List.Mem.tail _ (h)))))))) | exact all_nil)
  · revert hp; revert p
    exact all_cons (h2) (all_cons (h1) (all_cons (hf) (all_cons ((notl hD).1) (fun p hp => ht p hp))))
  · rcases List.mem_cons.mp hp with rfl | hp
    · exact (notl hD).2
    · exact htl p hp
/-- a loop over the blocks of a part has ended -/
theorem unit_done {g h : Heap} {L : Addr} {s : Shared} {tk : Nat} {m m₀ : Str → Option Value} {st : List Str} {I fnd : Addr} {oI : Obj} {ids : List Addr} {pre nu : List (Addr × Obj)} {data data' : List Blk}
    (F : Fr g L h m) (N : News g L h ((I, oI) :: (pre ++ nu))) (U : UnitLed fnd (I :: ids) data nu) (hf : (@Ne Nat fnd I)) (hp : ∀ p ∈ pre, p.1 ≠ I) (hO : Ovr st m₀ m) (e : data = data') :
    TurnEnd g L s I oI (fun m' nx' => Ovr st m₀ m' ∧ ∃ nu, nx' = pre ++ nu ∧ UnitLed fnd ids data' nu) .next { s with heap := h, toks := tk } := by
  obtain ⟨vs, n, tl, rfl, hT, ho⟩ := U
  refine TurnEnd.intro F N _ (fun _ h => h) (fun p h => ?_) ⟨hO, _, rfl, vs, n, tl, rfl, e ▸ hT, fun p h => ?_⟩
  · rcases List.mem_append.mp h with h | h
    · exact hp p h
    · rcases List.mem_cons.mp h with rfl | h
      · exact hf
      · exact (notl (notl (ho p h)).2).1
  · exact notc (notl (ho p h)).1 (notl (notl (ho p h)).2).2
section
variable {prog : Program} {w : World} {p : Program} {loose : List Str} {mean : ExcName → Option Value} {mg mb : Str → Option Value} {dp un : Nat} {gd : Option (List Code)} {cn : Str} {cs : Scope} {a : Addr} {ccd : Value} {cl : List (Str × Addr)} {outer : List Env} {A₀ : Around} {base h₀ : Heap} {L : Addr} {m : Str → Option Value} {Q E : Value → Shared → Prop} {news : List (Addr × Obj)} {s : Shared}

theorem unit_at_call {fr sc : Addr} {d : Fm} {ps : List Nat} {x y : Nat} {tx ty : Tok} (B : Below A₀ base outer h₀) (F : Fr h₀ L s.heap m) (X : (hd.heap_1 w.params).In h₀) (T : Top p loose mean mg mb h₀) (hk : cs.kind = .function) (hd : dp ≤ 920) (hu : un ≤ 9200)
    (hf : FrameAt w s.heap fr d) (ok : d.Ok) (hs : ScanAt w s.heap sc ps) (po : PsOk d ps) (hx : x ≤ 1000) (hy : y ≤ 1000)
    (h : ∀ D vs n tl h' tk', Fr h₀ L h' m → Kp s.heap h' → (∀ p ∈ (D, listOf vs.toArray n) :: tl, h'.get? p.1 = some p.2 ∧ s.heap.get? p.1 = none) → Tups tl vs (unitL d ps x y) → (∀ p ∈ tl, p.1 ≠ D) → Q (.ref D) { s with heap := h', toks := tk' }) :
    wpAny (model prog w) (ktrTop dp un gd cn cs L a ccd cl outer) (call (.ref 42) [.ref fr, .ref sc, .int (x : Int) tx, .int (y : Int) ty]) Q E s := by
  refine wpAny_call ?_
  refine code_def0 (binds := [(Str.ofString "frame", .ref fr), (Str.ofString "scan", .ref sc), (Str.ofString "x", .int (x : Int) tx), (Str.ofString "y", .int (y : Int) ty)]) B F X T rfl rfl hk (by k_is) (by k_is) (rl hd rfl) (BindsTo.of_eq rfl) (locs rfl) ?_ rfl rfl rfl (by decide)
  intro g L' h₁ KP FG F₁ N₁ B₁ X₁ T₁ env' A' q' e'
  have hf' := hf.kp KP
  obtain ⟨r, fi⟩ := hf.kp KP
  have hI := fi.inst
  have hn1 := ok.n1
  have hn2 := ok.n2
  have hs' := hs.kp KP
  obtain ⟨r', vps, si⟩ := hs.kp KP
  have hI' := si.inst
  have hlen := po.len
  by_cases h1 : ps.length = 1
  · obtain ⟨i, t, xx, hps, hit, hxx, hx0⟩ := si.one po h1
    k_steps
    refine unhalt ?_
    refine is_alone_call (by k_asm) (by k_asm) (by k_asm) (by k_asm) (by first | exact rfl | assumption) (rm hd rfl) (rm hu rfl) (ScanAt.kp (kp_fr (by k_asm)) hs') hlen (decide_eq_true h1) ?_
    intro h₂ tk₂ F₂ KP₂
    have N₂ := News.grown (by k_asm) KP₂
    k_sweep
    k_steps
    refine unhalt ?_
    refine item_at (list_up si.list (by k_asm)) rfl (i := 0) (by decide) hit ?_
    k_steps
    rename News g _ _ _ => gN
    refine h _ [_] 0 [_] _ _ ?_ (KP.trans ?_) (fun p hp => ⟨(gN _ hp).1, fresh_of KP gN hp⟩) ?_ ?_
    · k_asm
    · exact Fr.keep (by k_asm)
    · rw [unitL, if_pos h1, hps]
      exact ⟨⟨_, fun i => [tk₂, t, tx, ty].getD i 0, rfl, List.mem_singleton.mpr rfl⟩, trivial⟩
    · intro p hp
      cases List.mem_singleton.mp hp
      apply Nat.ne_of_lt
      assumption
  · k_steps
    refine unhalt ?_
    refine is_alone_call (by k_asm) (by k_asm) (by k_asm) (by k_asm) (by first | exact rfl | assumption) (rm hd rfl) (rm hu rfl) (ScanAt.kp (kp_fr (by k_asm)) hs') hlen (decide_eq_false h1) ?_
    intro h₂ tk₂ F₂ KP₂
    have N₂ := News.grown (by k_asm) KP₂
    k_sweep
    k_steps
    refine unhalt ?_
    rename_i fnd _ _ _ _ _
    refine For_range [Str.ofString "place", Str.ofString "component", Str.ofString "down", Str.ofString "across", Str.ofString "spot"] (by k_asm) rfl rfl rfl ?_
    k_steps
    refine unhalt ?_
    refine len_at (list_up si.list (by k_asm)) si.size (by omega) ?_
    k_steps
    refine unhalt ⟨_, ps.length, _, _, _, _, _, fun i nx => ∃ nu, nx = nu ∧ UnitLed fnd [] ((List.range i).flatMap (unitAt d ps x y)) nu, rfl, by k_asm, by omega, by k_asm, by k_asm, ⟨_, rfl, [], 0, [], rfl, trivial, fun _ h => nomatch h⟩, ?_, ?_⟩
    · intro i u nx ti I₁ o₁ h₃ tk₃ hi hK off₁ F₃ N₃ Qt₁ hQ₁
      obtain ⟨_, rfl, vs, nn, tl, rfl, hT, hTo⟩ := hK
      have hne1 : @Ne Nat _ _ := off₁ _ (List.mem_cons_self ..)
      obtain ⟨tp, hit⟩ := si.item hi
      have hxx := po.at hi
      have hxm := ok.each _ (List.mem_of_getElem? hxx)
      obtain ⟨c, rc, hcit, hC⟩ := fi.item hxx
      k_steps
      refine unhalt ?_
      refine item_at (list_up si.list (by k_asm)) rfl (by omega) hit ?_
      k_steps
      refine unhalt ?_
      refine item_at (list_up fi.list (by k_asm)) rfl (ok.idx hxx) hcit ?_
      k_steps
      refine unhalt ?_
      refine For_range [Str.ofString "down", Str.ofString "across", Str.ofString "spot"] (by k_asm) rfl rfl rfl ?_
      k_steps
      refine unhalt ⟨_, (d.c (ps.getD i 0)).2, _, _, _, _, _, fun j nx => ∃ nu, nx = (I₁, o₁) :: nu ∧ UnitLed fnd [I₁] ((List.range i).flatMap (unitAt d ps x y) ++ (List.range j).flatMap fun dy => (List.range (d.c (ps.getD i 0)).1).map fun dx => (i, ps.getD i 0, x * (d.c (ps.getD i 0)).1 + dx, y * (d.c (ps.getD i 0)).2 + dy)) nu,
        rfl, by k_asm, by omega, by k_asm, by k_asm, ⟨_, rfl, vs, nn, tl, rfl, by simpa using hT, fun p hp => notc (notl (hTo p hp)).1 (notc (off₁ p (List.mem_cons_of_mem _ hp)) List.not_mem_nil)⟩, ?_, ?_⟩
      · intro j u2 nx2 tj I₂ o₂ h₄ tk₄ hj hK off₂ F₄ N₄ Qt₂ hQ₂
        obtain ⟨_, rfl, vs2, nn2, tl2, rfl, hT2, hTo2⟩ := hK
        have hne2 : @Ne Nat _ _ := off₂ _ (List.mem_cons_of_mem _ (List.mem_cons_self ..))
        have hne12 : @Ne Nat _ _ := off₂ _ (List.mem_cons_self ..)
        k_steps
        refine unhalt ?_
        refine For_range [Str.ofString "across", Str.ofString "spot"] (by k_asm) rfl rfl rfl ?_
        k_steps
        refine unhalt ⟨_, (d.c (ps.getD i 0)).1, _, _, _, _, _, fun k nx => ∃ nu, nx = (I₂, o₂) :: (I₁, o₁) :: nu ∧ UnitLed fnd [I₂, I₁] ((List.range i).flatMap (unitAt d ps x y) ++ ((List.range j).flatMap fun dy => (List.range (d.c (ps.getD i 0)).1).map fun dx => (i, ps.getD i 0, x * (d.c (ps.getD i 0)).1 + dx, y * (d.c (ps.getD i 0)).2 + dy)) ++ (List.range k).map fun dx => (i, ps.getD i 0, x * (d.c (ps.getD i 0)).1 + dx, y * (d.c (ps.getD i 0)).2 + j)) nu,
          rfl, by k_asm, by omega, by k_asm, by k_asm, ⟨_, rfl, vs2, nn2, tl2, rfl, by simpa using hT2, fun p hp => notc (notl (hTo2 p hp)).1 (notc (off₂ p (List.mem_cons_of_mem _ (List.mem_cons_of_mem _ hp))) (notl (hTo2 p hp)).2)⟩, ?_, ?_⟩
        · intro k u3 nx3 tkk I₃ o₃ h₅ tk₅ hk' hK off₃ F₅ N₅ Qt₃ hQ₃
          obtain ⟨_, rfl, vs3, nn3, tl3, rfl, hT3, hTo3⟩ := hK
          have hne3 : @Ne Nat _ _ := off₃ _ (List.mem_cons_of_mem _ (List.mem_cons_of_mem _ (List.mem_cons_self ..)))
          have hne13 : @Ne Nat _ _ := off₃ _ (List.mem_cons_of_mem _ (List.mem_cons_self ..))
          have hne23 : @Ne Nat _ _ := off₃ _ (List.mem_cons_self ..)
          have hTf : ∀ p ∈ tl3, p.1 ≠ fnd := fun p hp => (notl (hTo3 p hp)).1
          dsimp only at hne1 hne2 hne3 hne13 hne23
          have hl3 : vs3.length ≤ 40 := by
            rw [hT3.length, List.length_append, List.length_append, List.length_map, List.length_range]
            have h1 := flat_len (n := i) (f := unitAt d ps x y) fun i' hi' => unitAt_len (x := x) (y := y) ok po (i := i') (by omega)
            have h2 := flat_len (n := j) (B := 3) (f := fun dy => (List.range (d.c (ps.getD i 0)).1).map fun dx => (i, ps.getD i 0, x * (d.c (ps.getD i 0)).1 + dx, y * (d.c (ps.getD i 0)).2 + dy)) fun j' hj' => by
              rw [List.length_map, List.length_range]; exact hxm.2.1
            omega
          k_steps
          refine unhalt ?_
          refine item_at (list_up si.list (by k_asm)) rfl (by omega) hit ?_
          k_steps
          refine unhalt ?_
          refine' item_tupleT ?ta1 ?tb1 ?tc1 ?td1 ?te1 ?_
          case ta1 => exact News.isTup (by k_asm) (by k_mem)
          case tb1 => decide
          case tc1 => decide
          case td1 => rfl
          case te1 => rfl
          k_steps
          refine unhalt ?_
          refine' item_tupleT ?ta2 ?tb2 ?tc2 ?td2 ?te2 ?_
          case ta2 => exact News.isTup (by k_asm) (by k_mem)
          case tb2 => decide
          case tc2 => decide
          case td2 => rfl
          case te2 => rfl
          k_steps
          refine hQ₃ _ ?_
          (try dsimp only)
          rw [List.range_succ, List.map_append, ← List.append_assoc]
          refine unit_turn (i, ps.getD i 0, x * (d.c (ps.getD i 0)).1 + k, y * (d.c (ps.getD i 0)).2 + j) (by k_asm) (by k_asm) ?_ hT3 ?_ hne23 hne13 hne3 (fun p hp => off₃ p (List.mem_cons_of_mem _ (List.mem_cons_of_mem _ (List.mem_cons_of_mem _ hp)))) hTo3 ?_
          · exact ⟨rfl, rfl, rfl, rfl⟩
          · refine notc (neN ?_) (notc (neN ?_) (notc (neN ?_) (notc (neN ?_) List.not_mem_nil))) <;> omega
          · exact ((Ovr.of.set (by decide)).set (by decide))
        · intro u3 nx3 h₅ tk₅ hK F₅ N₅
          obtain ⟨nu, rfl, hU⟩ := hK
          k_steps
          refine hQ₂ _ ?_
          refine unit_done (pre := [(I₁, o₁)]) F₅ N₅ hU hne2 (fun p hp => by cases List.mem_singleton.mp hp; exact hne12) ((Ovr.of.set (by decide)).trans Ovr.of (by decide)) ?_
          · rw [List.range_succ, List.flatMap_append]; simp
      · intro u2 nx2 h₄ tk₄ hK F₄ N₄
        obtain ⟨nu, rfl, hU⟩ := hK
        k_steps
        refine hQ₁ _ ?_
        refine unit_done (pre := []) F₄ N₄ hU hne1 (fun _ h => nomatch h) (((Ovr.of.set (by decide)).set (by decide)).trans Ovr.of (by decide)) ?_
        · rw [List.range_succ, List.flatMap_append]; simp [unitAt]
    · intro u nx h₃ tk₃ hK F₃ N₃
      obtain ⟨_, rfl, vs, nn, tl, rfl, hT, hTo⟩ := hK
      k_steps
      rename News g _ _ _ => gN
      refine h _ vs nn tl _ _ ?_ (KP.trans ?_) (fun p hp => ⟨(gN _ hp).1, fresh_of KP gN hp⟩) ?_ (fun p hp => (notl (hTo p hp)).1)
      · k_asm
      · exact Fr.keep (by k_asm)
      · rw [unitL, if_neg h1]; exact hT
end
theorem PsOk.x0 {d : Fm} {ps : List Nat} (po : PsOk d ps) : d.x0 ps ∈ d.cs := by
  match ps, po.ne, po.lt with
  | i :: _, _, l =>
    have hi := l i (List.mem_cons_self ..)
    have e : d.x0 (i :: ‹List Nat›) = d.cs[i] := by simp [Fm.x0, hi]
    rw [e]
    exact List.getElem_mem hi
theorem kp_none {h h' : Heap} {D : Addr} (k : Kp h h') (e : h'.get? D = none) : h.get? D = none := by
  cases q : h.get? D with
  | none => rfl
  | some o => rw [k _ _ q] at e; cases e
theorem cdiv_pos {x y : Nat} (hx : 1 ≤ x) (hy : 1 ≤ y) : 1 ≤ cdiv x y := Nat.div_pos (by omega) hy
theorem fmodN (i u : Nat) : ((i : Nat) : Int).fmod (u : Int) = ((i % u : Nat) : Int) := Int.fmod_eq_emod_of_nonneg _ (Int.natCast_nonneg u)
theorem fdivN (i u : Nat) : ((i : Nat) : Int).fdiv (u : Int) = ((i / u : Nat) : Int) := Int.fdiv_eq_ediv_of_nonneg _ (Int.natCast_nonneg u)
theorem Fm.Ok.u {d : Fm} (ok : d.Ok) {ps : List Nat} (po : PsOk d ps) : 1 ≤ d.ux ps ∧ d.ux ps ≤ 16 ∧ 1 ≤ d.uy ps ∧ d.uy ps ≤ 12 := by
  have hx := po.x0
  have he := ok.each _ hx
  unfold Fm.ux Fm.uy
  split
  · exact ⟨cdiv_pos (cdiv_pos (Nat.mul_pos ok.w1 he.1) ok.A1.1) ok.n1, ok.bw_le hx, cdiv_pos (cdiv_pos (Nat.mul_pos ok.h1 he.2.2.1) ok.D1.1) ok.n1, ok.bh_le hx⟩
  · exact ⟨cdiv_pos ok.w1 (Nat.mul_pos ok.n1 ok.A1.1), ok.mx_le, cdiv_pos ok.h1 (Nat.mul_pos ok.n1 ok.D1.1), ok.my_le⟩
theorem le_of_lts {a b c : Nat} (h : a < b) (k : b ≤ c) : a ≤ c := Nat.le_trans (Nat.le_of_lt h) k
section
variable {prog : Program} {w : World} {p : Program} {loose : List Str} {mean : ExcName → Option Value} {mg mb : Str → Option Value} {dp un : Nat} {gd : Option (List Code)} {cn : Str} {cs : Scope} {a : Addr} {ccd : Value} {cl : List (Str × Addr)} {outer : List Env} {A₀ : Around} {base h₀ : Heap} {L : Addr} {m : Str → Option Value} {Q E : Value → Shared → Prop} {news : List (Addr × Obj)} {s : Shared}

theorem unit_numbered_call {fr sc : Addr} {d : Fm} {ps : List Nat} {i : Nat} {t : Tok} (B : Below A₀ base outer h₀) (F : Fr h₀ L s.heap m) (X : (hd.heap_1 w.params).In h₀) (T : Top p loose mean mg mb h₀) (hk : cs.kind = .function) (hd : dp ≤ 900) (hu : un ≤ 9000)
    (hf : FrameAt w s.heap fr d) (ok : d.Ok) (hs : ScanAt w s.heap sc ps) (po : PsOk d ps) (hi : i ≤ 1000)
    (h : ∀ D vs n tl h' tk', Fr h₀ L h' m → Kp s.heap h' → (∀ p ∈ (D, listOf vs.toArray n) :: tl, h'.get? p.1 = some p.2 ∧ s.heap.get? p.1 = none) → Tups tl vs (unitL d ps (i % d.ux ps) (i / d.ux ps)) → (∀ p ∈ tl, p.1 ≠ D) → Q (.ref D) { s with heap := h', toks := tk' }) :
    wpAny (model prog w) (ktrTop dp un gd cn cs L a ccd cl outer) (call (.ref 56) [.ref fr, .ref sc, .int (i : Int) t]) Q E s := by
  refine wpAny_call ?_
  refine code_def0 (binds := [(Str.ofString "frame", .ref fr), (Str.ofString "scan", .ref sc), (Str.ofString "index", .int (i : Int) t)]) B F X T rfl rfl hk (by k_is) (by k_is) (rl hd rfl) (BindsTo.of_eq rfl) (locs rfl) ?_ rfl rfl rfl (by decide)
  intro g L' h₁ KP FG F₁ N₁ B₁ X₁ T₁ env' A' q' e'
  have hf' := hf.kp KP
  have hs' := hs.kp KP
  obtain ⟨u1, u2, -, -⟩ := ok.u po
  have u0 := cpos u1
  have u3 := clt u2 (z := 100000) rfl
  k_steps
  refine unhalt ?_
  refine units_across_call (by k_asm) (by k_asm) (by k_asm) (by k_asm) (by first | exact rfl | assumption) (rm hd rfl) (rm hu rfl) (FrameAt.kp (kp_fr (by k_asm)) hf') ok (ScanAt.kp (kp_fr (by k_asm)) hs') po ?_
  intro t₁ h₂ tk₂ F₂ KP₂
  have N₂ := News.grown (by k_asm) KP₂
  k_sweep
  k_steps
  rw [fmodN, fdivN]
  have kb := kp_fr ‹Fr g _ _ _›
  refine unhalt ?_
  refine unit_at_call (by k_asm) (by k_asm) (by k_asm) (by k_asm) (by first | exact rfl | assumption) (rm hd rfl) (rm hu rfl) (FrameAt.kp (kp_fr (by k_asm)) hf') ok (ScanAt.kp (kp_fr (by k_asm)) hs') po (Nat.le_trans (Nat.mod_le ..) hi) (Nat.le_trans (Nat.div_le_self ..) hi) ?_
  intro D₂ vs₂ n₂ tl₂ h₂ tk₂ F₂ KP₂ f₂ T₂ o₂
  have N₂ := News.grown (by k_asm) KP₂
  k_sweep
  k_steps
  refine h _ vs₂ n₂ tl₂ _ _ ?_ (KP.trans ?_) (fun p hp => ?_) T₂ o₂
  · k_asm
  · exact Fr.keep (by k_asm)
  · have := f₂ p hp
    exact ⟨this.1, kp_none (KP.trans kb) this.2⟩
end
section
open Sem (wp)
variable {M : Model} {A : Around} {R : GenEnd} {Y : Protocol} {n : Nat} {s₀ : Shared} {c : Code} {fs : List Frame} {s : Shared} {env : Env}
  {K : Flow → Sem Fin} {H : Value → Sem Fin} {gd : Bool → Bool} {lv : List Value → List Value}
theorem seg_bindw {α β : Type} {m : Sem α} {f : α → Sem β} {K : β → Sem Fin}
    (h : wpAny M (A.over c fs) m (fun a s' => Seg M A R Y n s₀ c ((f a).wrap K H gd lv) fs s') (fun _ _ => False) s) : Seg M A R Y n s₀ c ((m >>= f).wrap K H gd lv) fs s := by
  rw [Sem.bind_eq_wrap', Sem.wrap_wrap]
  exact seg_wrap (wpAny_mono h (fun _ _ x => x) fun _ _ x => x.elim)
/-- what waits for a loop in a generator -/
def kont (env : Env) (K : Flow → Sem Fin) (H : Value → Sem Fin) (gd : Bool → Bool) (lv : List Value → List Value) (r : Result) : Sem Fin :=
  ((match r with | .ok f => (.pure f : Sem Flow) | .error e => .raise e).onRaise fun (x : Value) => do
        if (← field x 1) == Value.none then unsupported "frame.own-activation:exception-without-traceback"
        setFlight x env.frame).wrap K H gd lv
theorem seg_For {target iter : PySem.Expr} {body orelse : List Stmt} {pos : Pos} (hs : ∀ x, foldedSetIterable iter env x = pure x)
    (h : wpAny M (A.over c fs) (eval iter env) (fun x s₁ => wpAny M (A.over c fs) (pyIter x) (fun it s₂ => ∀ p, Seg M A R Y n s₀ (.forLoop target it body orelse env) (M.den (.forLoop target it body orelse env))
      (.ret (kont env K H gd lv) none (gd false) (lv []) c p [] :: fs) s₂) (fun _ _ => False) s₁) (fun _ _ => False) s) :
    Seg M A R Y n s₀ c ((exec (.For target iter body orelse pos) env).wrap K H gd lv) fs s := by
  rw [exec_For]
  refine seg_bindw (wpAny_standAt ?_)
  refine seg_bindw (wpAny_mono h (fun x s₁ h₁ => ?_) fun _ _ e => e)
  refine seg_bindw (wpAny_of_eq (hs x) ?_)
  refine seg_bindw (wpAny_standAt ?_)
  refine seg_bindw (wpAny_holding (wpAny_mono h₁ (fun it s₂ h₂ => ?_) fun _ _ e => e))
  exact seg_call h₂
end
section
variable {prog : Program} {w : World} {A : Around} {R : GenEnd} {Y : Protocol} {n : Nat} {s₀ : Shared} {fs : List Frame} {s : Shared} {env : Env}
theorem seg_forLoop {target : PySem.Expr} {it : Value} {body : List Stmt} (ht : ∀ v, letOwnedTupleGo target it v = pure ())
    (h : wpAny (model prog w) (A.over (.forLoop target it body [] env) fs) (pyNext it) (fun r s₁ => match r with
      | none => Seg (model prog w) A R Y n s₀ (.forLoop target it body [] env) (.pure (.again (.block [] env))) fs s₁
      | some v => wpAny (model prog w) (A.over (.forLoop target it body [] env) fs) (assign target env v) (fun _ s₂ => Seg (model prog w) A R Y n s₀ (.forLoop target it body [] env)
          ((execs body env).wrap (fun f => match f with
            | .next | .cont => .pure (.again (.forLoop target it body [] env))
            | .brk => .pure (.done .next)
            | .ret v => .pure (.done (.ret v))) (fun e => (do noteFrame e env; theTreesLotGoes e : Sem Unit).wrap (fun _ => .raise e) .raise id id) id id) fs s₂) (fun _ _ => False) s₁) (fun _ _ => False) s) :
    Seg (model prog w) A R Y n s₀ (.forLoop target it body [] env) ((model prog w).den (.forLoop target it body [] env)) fs s := by
  show Seg _ A R Y n s₀ _ ((forTurn target it body [] env).onRaise (fun x => do noteFrame x env; theTreesLotGoes x)) fs s
  unfold forTurn
  rw [Sem.onRaise_eq_wrap]
  refine seg_bindw (wpAny_standAt ?_)
  refine seg_bindw (wpAny_onRaise (wpAny_mono h (fun r s₁ h₁ => ?_) fun _ _ e => e.elim))
  cases r with
  | none => exact h₁
  | some v =>
    refine seg_bindw (wpAny_of_eq (ht v) ?_)
    refine seg_bindw (wpAny_mono h₁ (fun _ s₂ h₂ => ?_) fun _ _ e => e)
    rw [Sem.bind_eq_wrap', Sem.wrap_wrap]
    rw [Sem.wrap_congr (execs body env) _ _ (K' := fun f => match f with
            | .next | .cont => .pure (.again (.forLoop target it body [] env))
            | .brk => .pure (.done .next)
            | .ret v => .pure (.done (.ret v))) (H' := (fun e => (do noteFrame e env; theTreesLotGoes e : Sem Unit).wrap (fun _ => .raise e) .raise id id))
        (fun f => by cases f <;> rfl)
        (fun e => by first | exact Sem.bind_eq_wrap _ _ | (show (do noteFrame e env; theTreesLotGoes e : Sem Unit).bind (fun _ => .raise e) = _; rw [Sem.bind_eq_wrap]))]
    exact h₂
/-- a loop in a generator is through -/
theorem seg_over {K : Flow → Sem Fin} {H : Value → Sem Fin} {gd : Bool → Bool} {lv : List Value → List Value} {c c' : Code} {p : Pos} (h : Seg (model prog w) A R Y n s₀ c' (K .next) fs s) :
    Seg (model prog w) A R Y n s₀ c (.pure (.again (.block [] env))) (.ret (kont env K H gd lv) none (gd false) (lv []) c' p [] :: fs) s := by
  refine seg_again rfl ?_
  show Seg _ A R Y n s₀ _ (leafOf (.ok .next)) _ s
  exact seg_leaf (.ok .next) h
end
def isRI (o : Obj) : Prop := o.cls = .type "range_iterator" ∧ ∃ xs, o.data = .fields xs
/-- what is not the generator's is kept -/
def Ck (L2 : Addr) (h h' : Heap) : Prop := ∀ b o, b ≠ L2 → ¬ isRI o → h.get? b = some o → h'.get? b = some o
theorem Ck.refl {L2 : Addr} {h : Heap} : Ck L2 h h := fun _ _ _ _ e => e
theorem Ck.trans {L2 : Addr} {h h' h'' : Heap} (x : Ck L2 h h') (y : Ck L2 h' h'') : Ck L2 h h'' := fun b o n c e => y b o n c (x b o n c e)
open Classical in
/-- all that stands in a heap beside the ground, a generator's names and ranges' iterators -/
noncomputable def others (g : Heap) (L2 : Addr) (h : Heap) : List (Addr × Obj) := (List.range h.objs.size).filterMap fun b => match h.get? b with
  | some o => if b ≠ L2 ∧ ¬ isRI o ∧ g.get? b = none then some (b, o) else none
  | none => none
theorem mem_others {g h : Heap} {L2 : Addr} {p : Addr × Obj} : p ∈ others g L2 h ↔ h.get? p.1 = some p.2 ∧ p.1 ≠ L2 ∧ ¬ isRI p.2 ∧ g.get? p.1 = none := by
  unfold others
  rw [List.mem_filterMap]
  constructor
  · rintro ⟨b, hb, e⟩
    cases q : h.get? b with
    | none => rw [q] at e; cases e
    | some o =>
      rw [q] at e
      dsimp only at e
      split at e
      · cases e; exact ⟨q, ‹_›⟩
      · cases e
  · rintro ⟨e, r⟩
    refine ⟨p.1, List.mem_range.mpr (Heap.lt_size e), ?_⟩
    rw [e]
    dsimp only
    rw [if_pos r]
theorem others_news {g h : Heap} {L2 : Addr} : News g L2 h (others g L2 h) := fun _ hp => ⟨(mem_others.mp hp).1, (mem_others.mp hp).2.1, (mem_others.mp hp).2.2.2⟩
theorem others_off {g h h' : Heap} {L2 I : Addr} {oI : Obj} (N : News g L2 h' (others g L2 h)) (e : h'.get? I = some oI) (c : isRI oI) : ∀ p ∈ others g L2 h, p.1 ≠ I := fun p hp q => by
  have h1 := (N p hp).1
  rw [q, e] at h1
  exact (mem_others.mp hp).2.2.1 (Option.some.inj h1 ▸ c)
theorem others_ck {g h h' : Heap} {L2 : Addr} (k : Kp g h) (k' : Kp g h') (N : News g L2 h' (others g L2 h)) : Ck L2 h h' := fun b o n c e => by
  cases q : g.get? b with
  | none => exact (N (b, o) (mem_others.mpr ⟨e, n, c, q⟩)).1
  | some o' =>
    have h1 := k _ _ q
    rw [e] at h1
    obtain rfl := Option.some.inj h1
    exact k' _ _ q
theorem Kp.ck {L2 : Addr} {h h' : Heap} (k : Kp h h') : Ck L2 h h' := fun b o _ _ e => k b o e
/-- what a generator of units gives to the one that asks -/
def uY (g : Heap) (L2 : Addr) (f : Nat → List Blk) (N : Nat) : Protocol := fun r s₀ v s₁ kap =>
  ∃ (D : Addr) (vs : List Value) (n : Nat) (tl : List (Addr × Obj)) (I : Addr) (oI : Obj) (m' : Str → Option Value) (h' : Heap) (tk' : Nat), v = .ref D ∧ s₁ = { s₀ with heap := h', toks := tk' } ∧ Ck L2 s₀.heap h' ∧ Fr g L2 h' m' ∧
    News g L2 h' ((I, oI) :: (D, listOf vs.toArray n) :: tl) ∧ isRI oI ∧ Tups tl vs (f (N - 1 - r)) ∧ (∀ p ∈ (D, listOf vs.toArray n) :: tl, ∀ b o, b ≠ L2 → ¬ isRI o → s₀.heap.get? b = some o → p.1 ≠ b) ∧ (∀ p ∈ tl, p.1 ≠ D) ∧
    ∀ s'' : Shared, Fr g L2 s''.heap m' → s''.heap.get? I = some oI → kap (.send .none) s''
def uP (g : Heap) (L2 : Addr) (n : Nat) (s₀ s₁ : Shared) : Prop := n = 0 ∧ ∃ h' tk', s₁ = { s₀ with heap := h', toks := tk' } ∧ Kp g h' ∧ Ck L2 s₀.heap h'
abbrev uR (g : Heap) (L2 : Addr) : GenEnd := fun n s₀ r s₁ => r = .ok (.ret .none) ∧ uP g L2 n s₀ s₁
/-- the generator goes on -/
def UGo (prog : Program) (w : World) (A : Around) (g : Heap) (L2 : Addr) (f : Nat → List Blk) (N k : Nat) (m : Str → Option Value) (own : List (Addr × Obj)) (gs : GenState) : Prop :=
  ∀ s'' : Shared, Fr g L2 s''.heap m → (∀ p ∈ own, s''.heap.get? p.1 = some p.2) → gs.Goes (model prog w) A.in1 (uR g L2) (uY g L2 f N) k (.send .none) s''
theorem seg_turns {M : Model} {A : Around} {R : GenEnd} {Y : Protocol} {c : Code} {t : Sem Fin} {fs : List Frame} {N : Nat} (J : Nat → Shared → Shared → Prop)
    (step : ∀ k i s₀ s, i + k = N → J i s₀ s → (∀ k', k = k' + 1 → ∀ s'', J (i + 1) s'' s'' → Seg M A R Y k' s'' c t fs s'') → Seg M A R Y k s₀ c t fs s) :
    ∀ k i s₀ s, i + k = N → J i s₀ s → Seg M A R Y k s₀ c t fs s
  | 0, i, s₀, s, e, j => step 0 i s₀ s e j fun _ h => nomatch h
  | k + 1, i, s₀, s, e, j => step (k + 1) i s₀ s e j fun k' h s'' j' => by
    obtain rfl := Nat.succ.inj h
    exact seg_turns J step k (i + 1) s'' s'' (by lia) j'
section
variable {prog : Program} {w : World} {A A₀ : Around} {E : Value → Shared → Prop} {s : Shared} {K : Frag} {C L : Addr} {h₀ base : Heap} {m mg mb : Str → Option Value} {p : Program} {loose : List Str} {mean : ExcName → Option Value}
/-- a generator function is called -/
theorem code_gen {env : Env} {outer : List Env} {R : Result → Shared → Prop} {name qual : Str} {params : Arguments} {body : List Stmt} {scope : Scope} {dV kV doc pm cdv ct oc : Value} {an od : Option Addr} {osl : Array (Option Value)} {f : Addr} {args : Args} {binds : List (Str × Value)}
    (B : Below A₀ base outer h₀) (F : Fr h₀ L s.heap m) (X₀ : K.In h₀) (T : Top p loose mean mg mb h₀) (hA : A.frames = some (env :: outer)) (hf : env.frame = some L) (hke : env.scope.kind = .function)
    (ho : K.lookup f = some ⟨oc, od, .func (fnOf name qual params body scope dV kV doc pm an cdv ct), osl⟩) (hcd : codeIn K cdv qual = true) (hroom : A.depth < recursionLimit)
    (hbind : BindsTo s (fnOf name qual params body scope dV kV doc pm an cdv ct) args binds) (hloc : ∀ y ∈ binds, scope.names.lookup y.1 = some .local)
    (h : ∀ L' h₁ G oG, Kp s.heap h₁ → Fr s.heap L' h₁ (fun y => binds.reverse.lookup y) → News s.heap L' h₁ [(G, oG)] → h₁.IsGen G s.gens.size → oG.cls = .type "generator" → Below A base (env :: outer) s.heap → K.In s.heap → Top p loose mean mg mb s.heap →
      R (.ok (.ret (.ref G))) { s with heap := h₁, toks := s.toks + binds.length + 1 + 1, gens := s.gens.push (.fresh (.func body (envOf qual scope L' f cdv))) })
    (hco : scope.isCoroutine = false) (hgen : scope.isGenerator = true) (hk : scope.kind = .function)
    (hcell : ∀ x ∈ scope.names, x.2 ≠ .cell) : codeAny (model prog w) A (.call (.ref f) args) R s := by
  have B₁ := pushX B F hf hke
  have Ts := T.keeps F.keep
  refine codeAny_call_generator (fd := fnX name qual params body scope [] dV kV doc pm an cdv ct) (body := body) hroom ((X₀.keeps F.keep) _ _ ho) rfl hco hgen rfl (codeRec_of (X₀.keeps F.keep) hcd) (hbind _ _ _ _ ?_)
  refine wpAny_newFunctionEnv hcell hloc (fun h₁ hns₁ hsb₁ => ?_) hk
  have up : Kp s.heap h₁ := fun b o e => hsb₁.extBut b o (Nat.ne_of_lt (Heap.lt_size e)) (Heap.get?_push_of_some _ e)
  have F₁ : Fr s.heap s.heap.objs.size h₁ (fun y => binds.reverse.lookup y) := ⟨hns₁, up, Nat.le_refl _⟩
  have hz : h₁.objs.size = s.heap.objs.size + 1 := by rw [hsb₁.1, Heap.size_push]
  refine ⟨Ts.nolimit.keeps up, ?_⟩
  refine h s.heap.objs.size _ h₁.objs.size { cls := .type "generator", data := .fields #[.int s.gens.size 0, .str name (s.toks + binds.length), .str qual (s.toks + binds.length + 1)] } (fun b o e => Heap.get?_push_of_some _ (up b o e)) (F₁.keeps fun b o e => Heap.get?_push_of_some _ e) (fun p hp => ?_) ⟨_, _, _, Heap.get?_push_size _ rfl, rfl, rfl, rfl⟩ rfl ⟨hA, fun b o e => F.keep b o (B.stays b o e), B₁.frames⟩ (X₀.keeps F.keep) Ts
  obtain rfl := List.mem_singleton.mp hp
  refine ⟨Heap.get?_push_size _ rfl, by show h₁.objs.size ≠ s.heap.objs.size; lia, ?_⟩
  cases e : s.heap.get? h₁.objs.size with
  | none => rfl
  | some o => exact absurd (Heap.lt_size e) (by show ¬ (h₁.objs.size < s.heap.objs.size); rw [hz]; exact Nat.not_lt.mpr (Nat.le_succ _))
end

theorem over_func {dp un : Nat} {gd : Option (List Code)} {e0 env : Env} {outer : List Env} {body : List Stmt} :
    ({ handled := none, depth := dp, frames := some (e0 :: outer), guards := gd, units := un } : Around).in1.over (.func body env) [] = { handled := none, depth := dp + 1, frames := some (env :: e0 :: outer), guards := gd, units := un + 4 } := by
  with_unfolding_all rfl
theorem over_loop {dp un : Nat} {gd : Option (List Code)} {e0 env : Env} {outer : List Env} {body b2 : List Stmt} {t : PySem.Expr} {it : Value} {k : Result → Sem Fin} {p : Pos} :
    ({ handled := none, depth := dp, frames := some (e0 :: outer), guards := gd, units := un } : Around).in1.over (.forLoop t it b2 [] env) [.ret k none (id false) (id []) (.func body env) p []] = { handled := none, depth := dp + 1, frames := some (env :: e0 :: outer), guards := gd, units := un + 4 } := by
  with_unfolding_all rfl
section
variable {prog : Program} {w : World} {p : Program} {loose : List Str} {mean : ExcName → Option Value} {mg mb : Str → Option Value} {dp un : Nat} {gd : Option (List Code)} {cn : Str} {cs : Scope} {a : Addr} {ccd : Value} {cl : List (Str × Addr)} {outer : List Env} {A₀ : Around} {base h₀ : Heap} {L : Addr} {m : Str → Option Value} {Q E : Value → Shared → Prop} {news : List (Addr × Obj)} {s : Shared}

theorem new_off {g h : Heap} {L : Addr} {m : Str → Option Value} (F : Fr g L h m) : ∀ D, h.get? D = none → D ≠ L ∧ g.get? D = none := fun D e => by
  refine ⟨fun q => ?_, ?_⟩
  · obtain ⟨oL, _, _, e2, _⟩ := F.ns
    rw [← q, e] at e2
    cases e2
  · cases q : g.get? D with
    | none => rfl
    | some o => have := F.keep _ _ q; rw [e] at this; cases this
/-- the state between two turns of the generator's loop -/
def UJ (g : Heap) (L2 I : Addr) (N : Nat) (m₁ : Str → Option Value) (i : Nat) (s₀ s : Shared) : Prop :=
  ∃ h' tk' u, s = { s₀ with heap := h', toks := tk' } ∧ Kp g s₀.heap ∧ Fr g L2 h' (ovr [Str.ofString "index"] u m₁) ∧ IsRangeIter h' I (0 + (i : Nat) * 1) ((N : Int) - (i : Nat)) 1 ∧ News g L2 h' (others g L2 s₀.heap)
theorem units_new {fr sc : Addr} {d : Fm} {ps : List Nat} (B : Below A₀ base outer h₀) (F : Fr h₀ L s.heap m) (X : (hd.heap_1 w.params).In h₀) (T : Top p loose mean mg mb h₀) (hk : cs.kind = .function) (hd : dp ≤ 900) (hu : un ≤ 9000)
    (hf : FrameAt w s.heap fr d) (ok : d.Ok) (hs : ScanAt w s.heap sc ps) (po : PsOk d ps)
    (h : ∀ G oG L2 m₂ gs h' tk', Kp s.heap h' → Fr s.heap L2 h' m₂ → News s.heap L2 h' [(G, oG)] → h'.IsGen G s.gens.size → oG.cls = .type "generator" → gs.bare = true →
      UGo prog w (ktrTop dp un gd cn cs L a ccd cl outer) s.heap L2 (fun i => unitL d ps (i % d.ux ps) (i / d.ux ps)) (d.ux ps * d.uy ps) (d.ux ps * d.uy ps) m₂ [] gs → Q (.ref G) { s with heap := h', toks := tk', gens := s.gens.push gs }) :
    wpAny (model prog w) (ktrTop dp un gd cn cs L a ccd cl outer) (call (.ref 49) [.ref fr, .ref sc]) Q E s := by
  refine wpAny_call ?_
  refine code_gen (binds := [(Str.ofString "frame", .ref fr), (Str.ofString "scan", .ref sc)]) B F X T rfl rfl hk (by k_is) (by k_is) (rl hd rfl) (BindsTo.of_eq rfl) (locs rfl) ?_ rfl rfl rfl (by decide)
  intro L' h₁ G oG KP F₁ N₁ IG cG B₁ X₁ T₁
  refine h G oG L' _ _ h₁ _ KP F₁ N₁ IG cG rfl ?_
  clear h
  intro s'' F₂ _
  refine ⟨rfl, ?_⟩
  obtain ⟨u1, u2, u3, u4⟩ := ok.u po
  have u0 := cpos u1
  have uL := clt u2 (z := 100000) rfl
  have uN : d.ux ps * d.uy ps < 1000000 := Nat.lt_of_le_of_lt (Nat.mul_le_mul u2 u4) (by decide)
  have uM : d.ux ps * d.uy ps ≤ 192 := Nat.mul_le_mul u2 u4
  have KG : Kp s.heap s''.heap := F₂.keep
  have hN := others_news (g := s.heap) (h := s''.heap) (L2 := L')
  generalize hnw : others s.heap L' s''.heap = nws at hN
  refine seg_func ?_
  refine seg_execs_cons ?_
  refine seg_wrap ?_
  rw [over_func]
  refine wpAny_mono (E := fun _ _ => False) ?_ (fun _ _ e => e) (fun _ _ e => e.elim)
  k_steps
  refine unhalt ?_
  refine units_across_call (by k_asm) (by k_asm) (by k_asm) (by k_asm) (by first | exact rfl | assumption) (rm hd rfl) (rm hu rfl) (FrameAt.kp (kp_fr (by k_asm)) hf) ok (ScanAt.kp (kp_fr (by k_asm)) hs) po ?_
  intro t₁ h₂ tk₂ F₂' KP₂
  have N₂ := News.grown (by k_asm) KP₂
  k_sweep
  k_steps
  refine seg_execs_cons ?_
  refine seg_For (fun _ => rfl) ?_
  rw [over_func]
  have hm₁ : ∃ m₁ : Str → Option Value, m₁ = (fun y => if y = Str.ofString "across" then some (.int ((d.ux ps : Nat) : Int) t₁) else List.lookup y [(Str.ofString "frame", .ref fr), (Str.ofString "scan", .ref sc)].reverse) := ⟨_, rfl⟩
  obtain ⟨m₁, hm₁⟩ := hm₁
  refine wpAny_mono (E := fun _ _ => False) (Q := fun x s₁ => Halt (∃ r t u v h' tk', x = .ref r ∧ s₁ = { s'' with heap := h', toks := tk' } ∧ IsRange h' r 0 ((d.ux ps * d.uy ps : Nat) : Int) 1 t u v ∧ Fr s.heap L' h' m₁ ∧ News s.heap L' h' nws)) ?_ (fun x s₁ hq => ?_) (fun _ _ e => e.elim)
  · rw [hm₁]
    k_steps
    refine unhalt ?_
    refine unit_count_call (by k_asm) (by k_asm) (by k_asm) (by k_asm) (by first | exact rfl | assumption) (rm hd rfl) (rm hu rfl) (FrameAt.kp (kp_fr (by k_asm)) hf) ok (ScanAt.kp (kp_fr (by k_asm)) hs) po ?_
    intro t₂ h₂ tk₂ F₂' KP₂
    have N₂ := News.grown (by k_asm) KP₂
    k_sweep
    k_steps
    exact unhalt ⟨_, _, _, _, _, _, rfl, rfl, by k_asm, by k_asm, by k_asm⟩
  · obtain ⟨r, t, u, v, h₃, tk₃, rfl, rfl, hr, F₃, N₃⟩ := hq
    have hsz := rsz (d.ux ps * d.uy ps)
    refine wpAny_pyIter_range hr (rsm _ uN) ?_
    intro pp
    have hlt := F₃.ns.lt
    refine seg_turns (N := d.ux ps * d.uy ps) (UJ s.heap L' h₃.objs.size (d.ux ps * d.uy ps) m₁) ?_ _ 0 _ _ (Nat.zero_add _) ?_
    · rintro k i s₀ _ hik ⟨h₄, tk₄, u', rfl, K₀, F₄, hI, N₄⟩ hnext
      have hI₀ : s.heap.get? h₃.objs.size = none := by
        cases e : s.heap.get? h₃.objs.size with
        | none => rfl
        | some o => exact absurd (Heap.lt_size (F₃.keep _ _ e)) (Nat.lt_irrefl _)
      refine seg_forLoop (fun _ => rfl) ?_
      rw [over_loop]
      cases k with
      | zero =>
        obtain rfl : i = d.ux ps * d.uy ps := hik
        refine (LCg.range_walks (by exact rfl) 0 (d.ux ps * d.uy ps)).done _ _ _ hI fun h₅ tk₅ hk₅ => ?_
        refine seg_over ?_
        refine seg_end (.ok (.ret .none)) ⟨rfl, rfl, _, _, rfl, ?_, ?_⟩
        · exact (LCg.fr_but F₄ hk₅ (Nat.ne_of_lt hlt) hI₀).keep
        · exact others_ck K₀ (LCg.fr_but F₄ hk₅ (Nat.ne_of_lt hlt) hI₀).keep (LCg.news_but N₄ hk₅ (others_off N₄ hI ⟨rfl, _, rfl⟩))
      | succ k =>
        refine (LCg.range_walks (by exact rfl) 0 (d.ux ps * d.uy ps)).item i _ _ _ (by omega) hI fun v h₅ tk₅ hP hst hk₅ => ?_
        obtain ⟨tI, rfl⟩ := hP
        rw [Int.zero_add]
        have hLI : @Ne Nat L' h₃.objs.size := Nat.ne_of_lt hlt
        have hI₅ : h₅.get? h₃.objs.size = some _ := hst
        have F₅ := LCg.fr_but F₄ hk₅ hLI hI₀
        have N₅ : News s.heap L' h₅ ((h₃.objs.size, _) :: others s.heap L' s₀.heap) := fun p hp => by
          rcases List.mem_cons.mp hp with rfl | hp
          · exact ⟨hI₅, Ne.symm hLI, hI₀⟩
          · exact LCg.news_but N₄ hk₅ (others_off N₄ hI ⟨rfl, _, rfl⟩) p hp
        generalize hnw₄ : others s.heap L' s₀.heap = nw₄ at N₅
        subst hm₁
        refine wpAny_mono (E := fun _ _ => False) ?_ (fun _ _ e => e) (fun _ _ e => e.elim)
        k_steps
        refine seg_execs_cons ?_
        refine seg_Expr_Yield rfl rfl rfl ?_
        rw [over_loop]
        refine wpAny_mono (E := fun _ _ => False) ?_ (fun _ _ e => e) (fun _ _ e => e.elim)
        k_steps
        rw [fmodN, fdivN]
        rename News s.heap L' _ _ => NB
        rename Fr s.heap L' _ _ => FB
        have CB := others_ck K₀ FB.keep (by rw [hnw₄]; exact fun p hp => NB p (List.mem_cons_of_mem _ hp))
        have HB := new_off FB
        have NI := fun h₂ (k : Kp _ h₂) => News.grown NB k _ (List.mem_cons_self ..)
        refine unhalt ?_
        refine unit_at_call (by k_asm) (by k_asm) (by k_asm) (by k_asm) (by first | exact rfl | assumption) (rm hd rfl) (rm hu rfl) (FrameAt.kp (kp_fr (by k_asm)) hf) ok (ScanAt.kp (kp_fr (by k_asm)) hs) po (Nat.le_trans (Nat.mod_le ..) (by omega)) (Nat.le_trans (Nat.div_le_self ..) (by omega)) ?_
        intro D₂ vs₂ n₂ tl₂ h₂ tk₂ F₂ KP₂ f₂ T₂ o₂
        have N₂ := News.grown (by k_asm) KP₂
        k_sweep
        k_steps
        rename_i kap hkap
        have hiN : d.ux ps * d.uy ps - 1 - k = i := by omega
        refine ⟨D₂, vs₂, n₂, tl₂, h₃.objs.size, { cls := .type "range_iterator", data := .fields #[rawInt (0 + ((i + 1 : Nat) : Int) * 1), rawInt (((d.ux ps * d.uy ps : Nat) : Int) - ((i + 1 : Nat) : Int)), rawInt 1] }, _, _, _, rfl, rfl, CB.trans KP₂.ck, by k_asm, fun p hp => ?_, ⟨rfl, _, rfl⟩, ?_, fun p hp b o n c e q => ?_, o₂, fun s₅ F₅ hI₅ => ?_⟩
        · rcases List.mem_cons.mp hp with rfl | hp
          · exact NI _ KP₂
          · exact ⟨(f₂ p hp).1, HB _ (f₂ p hp).2⟩
        · rw [hiN]; exact T₂
        · have h1 := CB b o n c e
          rw [← q, (f₂ p hp).2] at h1
          cases h1
        · refine hkap .none s₅ (seg_again rfl (hnext k rfl s₅ ?_))
          obtain ⟨u₅, hu₅⟩ := ((Ovr.of (st := [Str.ofString "index"]) (u := u')).set (x := Str.ofString "index") (v := some (.int (i : Int) tI)) (List.mem_singleton.mpr rfl)).ex
          refine ⟨s₅.heap, s₅.toks, u₅, rfl, F₅.keep, hu₅ ▸ F₅, hI₅, others_news⟩
    · refine ⟨_, _, m₁, rfl, KG, ?_, ?_, ?_⟩
      · rw [show ovr [Str.ofString "index"] m₁ m₁ = m₁ from funext fun z => by dsimp only [ovr]; split <;> rfl]
        exact F₃.push _
      · show IsRangeIter _ _ _ _ _
        rw [hsz]
        simpa using Heap.get?_push_size _ rfl
      · rw [hnw]
        exact N₃.grown fun _ _ e => Heap.get?_push_of_some _ e
end
/-- the tuples of a ledger alone -/
theorem Tups.only {l : List (Addr × Obj)} : ∀ {vs : List Value} {bs : List Blk}, Tups l vs bs → ∃ l', (∀ p ∈ l', p ∈ l) ∧ Tups l' vs bs ∧ ∀ p ∈ l', ¬ isRI p.2
  | [], [], _ => ⟨[], fun _ h => (nomatch h), trivial, fun _ h => (nomatch h)⟩
  | v :: vs, b :: bs, ⟨⟨a, t, e, h⟩, r⟩ => by
    obtain ⟨l', h1, h2, h3⟩ := Tups.only r
    refine ⟨(a, blkO b t) :: l', fun p hp => ?_, ⟨⟨a, t, e, List.mem_cons_self ..⟩, h2.mono fun p hp => List.mem_cons_of_mem _ hp⟩, fun p hp => ?_⟩
    · rcases List.mem_cons.mp hp with rfl | hp
      · exact h
      · exact h1 p hp
    · rcases List.mem_cons.mp hp with rfl | hp
      · rintro ⟨_, xs, q⟩; cases q
      · exact h3 p hp
  | [], _ :: _, h => h.elim
  | _ :: _, [], h => h.elim
noncomputable def Lists (l : List (Addr × Obj)) : List Value → List (List Blk) → Prop
  | [], [] => True
  | v :: vs, b :: bs => (∃ a us n, v = .ref a ∧ (a, listOf us.toArray n) ∈ l ∧ Tups l us b) ∧ Lists l vs bs
  | _, _ => False
theorem Lists.mono {l l' : List (Addr × Obj)} (k : ∀ p ∈ l, p ∈ l') : ∀ {vs : List Value} {bs : List (List Blk)}, Lists l vs bs → Lists l' vs bs
  | [], [], _ => trivial
  | _ :: _, _ :: _, ⟨⟨a, u, n, e, h, t⟩, r⟩ => ⟨⟨a, u, n, e, k _ h, t.mono k⟩, Lists.mono k r⟩
  | [], _ :: _, h => h.elim
  | _ :: _, [], h => h.elim
theorem Lists.snoc {l : List (Addr × Obj)} {a : Addr} {us : List Value} {n : Nat} {b : List Blk} : ∀ {vs : List Value} {bs : List (List Blk)}, Lists l vs bs → (a, listOf us.toArray n) ∈ l → Tups l us b → Lists l (vs ++ [.ref a]) (bs ++ [b])
  | [], [], _, h, t => ⟨⟨a, us, n, rfl, h, t⟩, trivial⟩
  | _ :: _, _ :: _, ⟨x, r⟩, h, t => ⟨x, Lists.snoc r h t⟩
  | [], _ :: _, h, _, _ => h.elim
  | _ :: _, [], h, _, _ => h.elim
theorem setGen_push {s : Shared} {gens : Array GenState} {x y : GenState} (e : s.gens = gens.push x) : s.setGen gens.size y = { s with gens := gens.push y } := by
  unfold Shared.setGen
  rw [e]
  congr 1
  apply Array.ext_getElem?
  intro i
  rw [Array.getElem?_setIfInBounds]
  by_cases h : gens.size = i
  · subst h; simp
  · rw [if_neg h]
    simp only [Array.getElem?_push]
    rw [if_neg (fun q => h q.symm), if_neg (fun q => h q.symm)]
section
open PyProof.Rows.LCg
variable {prog : Program} {w : World} {A : Around} {E : Value → Shared → Prop} {s : Shared} {env : Env}
/-- an element that makes a list anew -/
def EltOk (prog : Program) (w : World) (A : Around) (env : Env) (elt : PySem.Expr) (x : Str) (scope : Scope) (cl : List (Str × Addr)) (g : Heap) (L2 : Addr) (f : Nat → List Blk) (N : Nat) : Prop :=
  ∀ i D1 vs n led C oC m₂ m h tk (s : Shared) (E' : Value → Shared → Prop), i < N → NsObj oC m₂ → m₂ x = some (.ref D1) → Fr g L2 h m → News g L2 h ((C, oC) :: (D1, listOf vs.toArray n) :: led) → Tups led vs (f i) → (∀ p ∈ (D1, listOf vs.toArray n) :: led, p.1 ≠ C) →
    wpAny (model prog w) A (eval elt (compEnvC scope cl C env)) (fun y s₂ => ∃ D2 h' tk', y = .ref D2 ∧ s₂ = { s with heap := h', toks := tk' } ∧ Fr g L2 h' m ∧
      News g L2 h' ((D2, lst vs) :: (C, oC) :: (D1, listOf vs.toArray n) :: led) ∧ ∀ p ∈ (C, oC) :: (D1, listOf vs.toArray n) :: led, p.1 ≠ D2) E' { s with heap := h, toks := tk }
def GSrc (prog : Program) (w : World) (A : Around) (env : Env) (elt : PySem.Expr) (x : Str) (scope : Scope) (cl : List (Str × Addr)) (Q : Value → Shared → Prop) (xv : Value) (s₁ : Shared) : Prop :=
  ∃ (s0 : Shared) (g : Heap) (G : Addr) (oG : Obj) (L2 : Addr) (m₂ : Str → Option Value) (gs : GenState) (h' : Heap) (tk' N : Nat) (f : Nat → List Blk),
    xv = .ref G ∧ s₁ = { s0 with heap := h', toks := tk', gens := s0.gens.push gs } ∧ N ≤ sizeLine ∧ Fr g L2 h' m₂ ∧ News g L2 h' [(G, oG)] ∧ h'.IsGen G s0.gens.size ∧ oG.cls = .type "generator" ∧ g.NoLimit ∧ UGo prog w A g L2 f N N m₂ [] gs ∧
    EltOk prog w A env elt x scope cl g L2 f N ∧
    ∀ D vs n tl h tk, Kp g h → (∀ p ∈ (D, listOf vs.toArray n) :: tl, h.get? p.1 = some p.2 ∧ g.get? p.1 = none) → Lists tl vs ((List.range N).map f) → (∀ p ∈ tl, p.1 ≠ D) → Q (.ref D) { s0 with heap := h, toks := tk, gens := s0.gens.push .finished }
theorem ri_ne {g h : Heap} {L I C : Addr} {oI oC : Obj} {l : List (Addr × Obj)} (N : News g L h l) (hI : (I, oI) ∈ l) (hC : (C, oC) ∈ l) (r : isRI oI) (c : ¬ isRI oC) : (@Ne Nat I C) := fun e => by
  have h1 := (N _ hI).1
  have h2 := (N _ hC).1
  dsimp only at h1 h2
  rw [show I = C from e, h2] at h1
  exact c (Option.some.inj h1 ▸ r)
theorem nsobj_ri {o : Obj} {m : Str → Option Value} (x : NsObj o m) : ¬ isRI o := by
  obtain ⟨es, ep, e, _⟩ := x
  rintro ⟨_, xs, q⟩
  rw [e] at q
  cases q
theorem lst_ri {vs : Array Value} {n : Nat} : ¬ isRI (listOf vs n) := by rintro ⟨_, xs, q⟩; cases q
/-- the comprehension over a generator, between two turns -/
inductive GInv (prog : Program) (w : World) (A : Around) (g : Heap) (L2 : Addr) (f : Nat → List Blk) (N : Nat) (s0 : Shared) (C D G : Addr) (oG : Obj) : Nat → Shared → Prop
  | mk (h : Heap) (tk : Nat) (gs : GenState) (m : Str → Option Value) (own : List (Addr × Obj)) (oC : Obj) (mC : Str → Option Value) (ys : List Value) (tl : List (Addr × Obj)) (i : Nat) (hi : i ≤ N) (hyl : ys.length = i) (go : UGo prog w A g L2 f N (N - i) m own gs) (F : Fr g L2 h m)
      (Nw : News g L2 h (own ++ (C, oC) :: (D, lst ys) :: (G, oG) :: tl)) (hoC : NsObj oC mC) (hL : Lists tl ys ((List.range i).map f)) (hoff : ∀ p ∈ tl, ¬ isRI p.2 ∧ p.1 ≠ C ∧ p.1 ≠ D) : GInv prog w A g L2 f N s0 C D G oG (N + 1 - i) { s0 with heap := h, toks := tk, gens := s0.gens.push gs }
theorem compLoop_G {elt iter : PySem.Expr} {x : Str} {px : Pos} {scope : Scope} {cl : List (Str × Addr)} {pos : Pos} {R : Result → Shared → Prop} {g : Heap} {L2 G C D : Addr} {oG oC₀ : Obj} {s0 : Shared} {N : Nat} {f : Nat → List Blk} {h₀ : Heap} {tk₀ : Nat} {m₀ mC₀ : Str → Option Value} {gs₀ : GenState}
    (hh : A.handled = none) (hroom : A.depth < recursionLimit) (hkind : scope.kind = .function) (hx : scope.names.lookup x = some .local) (hsz : N ≤ sizeLine) (NL : g.NoLimit)
    (hIG : ∀ h : Heap, h.get? G = some oG → h.IsGen G s0.gens.size) (cG : oG.cls = .type "generator") (hDC : (@Ne Nat D C)) (hGC : (@Ne Nat G C)) (hGD : (@Ne Nat G D))
    (eltOk : EltOk prog w A env elt x scope cl g L2 f N) (go₀ : UGo prog w A g L2 f N N m₀ [] gs₀) (F₀ : Fr g L2 h₀ m₀) (N₀ : News g L2 h₀ ((C, oC₀) :: (D, lst []) :: (G, oG) :: [])) (hoC₀ : NsObj oC₀ mC₀)
    (hR : ∀ h tk vs tl, (∃ m, h.Ns C m) → Kp g h → (∀ p ∈ (D, lst vs) :: tl, h.get? p.1 = some p.2 ∧ g.get? p.1 = none ∧ p.1 ≠ C) → Lists tl vs ((List.range N).map f) → (∀ p ∈ tl, p.1 ≠ D) → R (.ok .next) { s0 with heap := h, toks := tk, gens := s0.gens.push .finished }) :
    codeAny (model prog w) A (.compLoop (.ListComp elt [⟨.Name x px, iter, [], 0⟩] scope pos) 0 (.ref G) (.ref D) (compEnvC scope cl C env)) R { s0 with heap := h₀, toks := tk₀, gens := s0.gens.push gs₀ } := by
  have hGr : ¬ isRI oG := by rintro ⟨q, _⟩; rw [cG] at q; exact absurd q (by decide)
  refine codeAny_compLoop_tests (GInv prog w A g L2 f N s0 C D G oG) ?_ (N + 1)
    (.mk h₀ tk₀ gs₀ m₀ [] oC₀ mC₀ [] [] 0 (Nat.zero_le _) rfl go₀ F₀ N₀ hoC₀ trivial fun _ h => nomatch h)
  rintro k _ ⟨h, tk, gs, m, own, oC, mC, ys, tl, i, hi, hyl, go, F, Nw, hoC, hL, hoff⟩
  have NL' := NL.keeps F.keep
  have hgs : (s0.gens.push gs)[s0.gens.size]? = some gs := Array.getElem?_push_size ..
  have Nw' : News g L2 h ((C, oC) :: (D, lst ys) :: (G, oG) :: tl) := fun p hp => Nw p (List.mem_append_right _ hp)
  have nri : ∀ p ∈ (C, oC) :: (D, lst ys) :: (G, oG) :: tl, ¬ isRI p.2 := all_cons (nsobj_ri hoC) (all_cons lst_ri (all_cons hGr fun p hp => (hoff p hp).1))
  have hCm : (C, oC) ∈ (C, oC) :: (D, lst ys) :: (G, oG) :: tl := .head _
  have hDm : (D, lst ys) ∈ (C, oC) :: (D, lst ys) :: (G, oG) :: tl := .tail _ (.head _)
  have hGm : (G, oG) ∈ (C, oC) :: (D, lst ys) :: (G, oG) :: tl := .tail _ (.tail _ (.head _))
  have eR := setGen_push (s := { s0 with heap := h, toks := tk, gens := s0.gens.push gs }) (y := .running) rfl
  by_cases hlt : i < N
  · obtain ⟨j, hj⟩ : ∃ j, N - i = j + 1 := ⟨N - i - 1, by lia⟩
    rw [hj] at go
    refine wpAny_pyNext_gen (P := uP g L2) (Y := uY g L2 f N) (n := j + 1) hh NL' hroom (hIG _ (Nw' (G, oG) hGm).1) hgs ?_ (fun v s₁ gs' hy => ?_) (fun s₁ hp => absurd hp.1 (Nat.succ_ne_zero j))
    · rw [eR]
      exact go _ F fun p hp => (Nw p (List.mem_append_left _ hp)).1
    · rw [eR] at hy
      obtain ⟨D1, vs, n, tl1, I, oI, m', h₂, tk₂, rfl, rfl, ck, F₂, N₂, rI, T₂, fr₂, o₂, kap⟩ := hy
      rw [setGen_push (gens := s0.gens) (y := gs') rfl]
      have hiN : N - 1 - (j + 1 - 1) = i := by lia
      rw [hiN] at T₂
      obtain ⟨tl2, hsub2, T2, hri2⟩ := T₂.only
      have fr : ∀ p ∈ (D1, listOf vs.toArray n) :: tl1, ∀ q ∈ (C, oC) :: (D, lst ys) :: (G, oG) :: tl, p.1 ≠ q.1 := fun p hp q hq => fr₂ p hp q.1 q.2 (Nw' q hq).2.1 (nri q hq) (Nw' q hq).1
      have up : ∀ p ∈ (C, oC) :: (D, lst ys) :: (G, oG) :: tl, h₂.get? p.1 = some p.2 := fun p hp => ck _ _ (Nw' p hp).2.1 (nri p hp) (Nw' p hp).1
      have hIri : ∀ p ∈ (C, oC) :: (D, lst ys) :: (G, oG) :: tl, p.1 ≠ I := fun p hp e => by
        have h1 := up p hp
        rw [e, (N₂ (I, oI) (.head _)).1] at h1
        exact nri p hp (Option.some.inj h1 ▸ rI)
      refine wpAny_assign_Name (wpAny_storeName_local (lookup_relabel_local hx) (hoC.ns (up _ hCm)) (fun h₃ hn₃ hs₃ => ?_) (by simp [compEnvC, relabel, hkind]))
      refine wpAny_tests_nil ?_
      simp only [if_true]
      obtain ⟨oC', heC, hoC'⟩ := ns_obj hn₃
      have F₃ : Fr g L2 h₃ m' := F₂.change hs₃ (Nw' _ hCm).2.1 (Nw' _ hCm).2.2
      have zI := N₂ (I, oI) (.head _)
      have zD1 := N₂ (D1, listOf vs.toArray n) (.tail _ (.head _))
      have N₃ : News g L2 h₃ ((C, oC') :: (D1, listOf vs.toArray n) :: ((I, oI) :: (D, lst ys) :: (G, oG) :: (tl ++ tl2))) :=
        all_cons ⟨heC, (Nw' _ hCm).2⟩ (all_cons ⟨hs₃.extBut _ _ (fr _ (.head _) _ hCm) zD1.1, zD1.2⟩ (all_cons ⟨hs₃.extBut _ _ (Ne.symm (hIri _ hCm)) zI.1, zI.2⟩ (all_cons ⟨hs₃.extBut _ _ hDC (up _ hDm), (Nw' _ hDm).2⟩ (all_cons ⟨hs₃.extBut _ _ hGC (up _ hGm), (Nw' _ hGm).2⟩
          (all_app (fun p hp => ⟨hs₃.extBut _ _ (hoff p hp).2.1 (up p (.tail _ (.tail _ (.tail _ hp)))), (Nw' p (.tail _ (.tail _ (.tail _ hp)))).2⟩) fun p hp => ⟨hs₃.extBut _ _ (fr p (.tail _ (hsub2 p hp)) _ hCm) (N₂ p (.tail _ (.tail _ (hsub2 p hp)))).1, (N₂ p (.tail _ (.tail _ (hsub2 p hp)))).2⟩)))))
      refine wpAny_mono (eltOk i D1 vs n _ C oC' _ m' h₃ (tk₂ + 1) { s0 with gens := s0.gens.push gs' } _ hlt hoC' (by simp) F₃ N₃ (T2.mono fun p hp => .tail _ (.tail _ (.tail _ (List.mem_append_right _ hp))))
        (all_cons (fr _ (.head _) _ hCm) (all_cons (Ne.symm (hIri _ hCm)) (all_cons hDC (all_cons hGC (all_app (fun p hp => (hoff p hp).2.1) fun p hp => fr p (.tail _ (hsub2 p hp)) _ hCm)))))) (fun y s₄ h₄ => ?_) fun _ _ e => e
      obtain ⟨D2, h₄, tk₄, rfl, rfl, F₄, N₄, off₄⟩ := h₄
      have zD := (N₄ (D, lst ys) (.tail _ (.tail _ (.tail _ (.tail _ (.head _)))))).1
      refine append_at (hsz := by show ys.toArray.size ≤ sizeLine; rw [List.size_toArray, hyl]; exact Nat.le_trans hi hsz) zD fun h₅ hs₅ hD₅ => ?_
      have hD2D : D2 ≠ D := Ne.symm (off₄ (D, lst ys) (.tail _ (.tail _ (.tail _ (.head _)))))
      have up₅ : ∀ p ∈ (D2, lst vs) :: (C, oC') :: (D1, listOf vs.toArray n) :: ((I, oI) :: (D, lst ys) :: (G, oG) :: (tl ++ tl2)), p.1 ≠ D → h₅.get? p.1 = some p.2 ∧ p.1 ≠ L2 ∧ g.get? p.1 = none := fun p hp hne => ⟨hs₅.extBut _ _ hne (N₄ p hp).1, (N₄ p hp).2⟩
      refine ⟨N + 1 - (i + 1), by lia, .mk h₅ tk₄ gs' m' [(I, oI)] oC' _ (ys ++ [.ref D2]) ((D2, lst vs) :: (tl ++ tl2)) (i + 1) hlt (by rw [List.length_append, hyl]; rfl) ?_ (F₄.change hs₅ (Nw' _ hDm).2.1 (Nw' _ hDm).2.2) ?_ hoC' ?_ ?_⟩
      · rw [show N - (i + 1) = j by lia]
        exact fun s'' F'' hp => kap s'' F'' (hp (I, oI) (List.mem_singleton.mpr rfl))
      · exact all_cons (up₅ _ (.tail _ (.tail _ (.tail _ (.head _)))) (Ne.symm (hIri _ hDm))) (all_cons (up₅ _ (.tail _ (.head _)) (Ne.symm hDC)) (all_cons ⟨hD₅.trans (congrArg some (lst_snoc ys _)), (Nw' _ hDm).2⟩ (all_cons (up₅ _ (.tail _ (.tail _ (.tail _ (.tail _ (.tail _ (.head _)))))) hGD) (all_cons (up₅ _ (.head _) hD2D)
          (all_app (fun p hp => up₅ p (.tail _ (.tail _ (.tail _ (.tail _ (.tail _ (.tail _ (List.mem_append_left _ hp))))))) (hoff p hp).2.2) fun p hp => up₅ p (.tail _ (.tail _ (.tail _ (.tail _ (.tail _ (.tail _ (List.mem_append_right _ hp))))))) (fr p (.tail _ (hsub2 p hp)) _ hDm))))))
      · rw [List.range_succ, List.map_append]
        exact (hL.mono fun p hp => .tail _ (List.mem_append_left _ hp)).snoc (.head _) (T2.mono fun p hp => .tail _ (List.mem_append_right _ hp))
      · exact all_cons ⟨lst_ri, Ne.symm (off₄ (C, oC') (.head _)), hD2D⟩ (all_app hoff fun p hp => ⟨hri2 p hp, fr p (.tail _ (hsub2 p hp)) _ hCm, fr p (.tail _ (hsub2 p hp)) _ hDm⟩)
  · obtain rfl : i = N := Nat.le_antisymm hi (Nat.not_lt.mp hlt)
    rw [Nat.sub_self] at go
    refine wpAny_pyNext_gen (P := uP g L2) (Y := uY g L2 f i) (n := 0) hh NL' hroom (hIG _ (Nw' (G, oG) hGm).1) hgs ?_ (fun v s₁ gs' hy => ?_) (fun s₁ hp h'' hk'' => ?_)
    · rw [eR]
      exact go _ F fun p hp => (Nw p (List.mem_append_left _ hp)).1
    · obtain ⟨D1, vs, n, tl1, I, oI, m', h₂, tk₂, rfl, rfl, ck, F₂, N₂, rI, T₂, fr₂, o₂, kap⟩ := hy
      exact (kap { s0 with heap := h₂ } F₂ (N₂ (I, oI) (.head _)).1).elim
    · rw [eR] at hp
      obtain ⟨-, h₂, tk₂, rfl, k₂, ck⟩ := hp
      rw [setGen_push (gens := s0.gens) (y := .finished) rfl]
      have up : ∀ p ∈ (C, oC) :: (D, lst ys) :: (G, oG) :: tl, h''.get? p.1 = some p.2 := fun p hp => hk'' _ _ (ck _ _ (Nw' p hp).2.1 (nri p hp) (Nw' p hp).1)
      exact hR h'' tk₂ ys tl ⟨_, hoC.ns (up (C, oC) hCm)⟩ (k₂.trans hk'') (all_cons ⟨up _ hDm, (Nw' (D, lst ys) hDm).2.2, hDC⟩ fun p hp => ⟨up _ (.tail _ (.tail _ (.tail _ hp))), (Nw' p (.tail _ (.tail _ (.tail _ hp)))).2.2, (hoff p hp).2.1⟩) hL (fun p hp => (hoff p hp).2.2)
theorem ListComp_G {elt iter : PySem.Expr} {x : Str} {px : Pos} {scope : Scope} {cl : List (Str × Addr)} {pos : Pos} {Q : Value → Shared → Prop} (hh : A.handled = none) (hroom : A.depth < recursionLimit)
    (hclos : closureFor scope env = pure cl) (hcell : ∀ y ∈ scope.names, y.2 ≠ .cell) (hkind : scope.kind = .function)
    (hnames : ∀ y ∈ scope.names, y.2 = .local → scope.names.lookup y.1 = some .local) (hx : scope.names.lookup x = some .local)
    (h : wpAny (model prog w) A (eval iter env) (fun xv s₁ => Halt (GSrc prog w A env elt x scope cl Q xv s₁)) E s)
    (hs : ∀ x, foldedSetIterable iter env x = pure x := by intro _; rfl) :
    wpAny (model prog w) A (eval (.ListComp elt [⟨.Name x px, iter, [], 0⟩] scope pos) env) Q E s := by
  rw [eval_ListComp]
  refine wpAny_comprehension_free (use := none) rfl hs hclos hkind hnames (wpAny_mono h (fun xv s₁ h₁ => ?_) fun _ _ e => e)
  obtain ⟨s0, g, G, oG, L2, m₂, gs, h', tk', N, f, rfl, rfl, hsz, F, NG, IG, cG, NL, go, eltOk, fin⟩ := h₁
  refine wpAny_pyIter_gen IG ?_
  refine wpAny_newObj_type (wpAny_newFunctionEnv hcell (by intro y hy; simp at hy) (fun h₁ hns₁ hsb₁ => ?_) hkind)
  dsimp only at hns₁ hsb₁ ⊢
  generalize hH2 : h'.push { cls := .type "list", dict := none, data := .seq ([] : List Value).toArray } = H2 at hns₁ hsb₁ ⊢
  have hC : H2.objs.size = h'.objs.size + 1 := by rw [← hH2, Heap.size_push]
  have hDC : (@Ne Nat h'.objs.size H2.objs.size) := by rw [hC]; exact Nat.ne_of_lt (Nat.lt_succ_self _)
  have below : ∀ b, b < h'.objs.size → b ≠ H2.objs.size ∧ b ≠ h'.objs.size := fun b hb => ⟨by rw [hC]; exact Nat.ne_of_lt (Nat.lt_succ_of_lt hb), Nat.ne_of_lt hb⟩
  have old : ∀ b o, h'.get? b = some o → h₁.get? b = some o := fun b o e => hsb₁.extBut b o (below b (Heap.lt_size e)).1 (Heap.get?_push_of_some _ (hH2 ▸ Heap.get?_push_of_some _ e))
  have hacc : h₁.get? h'.objs.size = some (lst []) := hsb₁.extBut _ _ hDC (Heap.get?_push_of_some _ (hH2 ▸ Heap.get?_push_size _ rfl))
  have fresh₀ : ∀ a, h'.objs.size ≤ a → g.get? a = none := fun a ha => by
    cases e : g.get? a with
    | none => rfl
    | some o' => exact absurd (Heap.lt_size (F.keep a o' e)) (Nat.not_lt.mpr ha)
  have hD₀ := fresh₀ _ (Nat.le_refl _)
  have hC₀ := fresh₀ H2.objs.size (by rw [hC]; exact Nat.le_succ _)
  have hLlt : L2 < h'.objs.size := F.ns.lt
  have zG := NG (G, oG) (List.mem_singleton.mpr rfl)
  have hGlt : G < h'.objs.size := Heap.lt_size zG.1
  obtain ⟨oC, heC, hoC⟩ := ns_obj hns₁
  have hIG : ∀ h : Heap, h.get? G = some oG → h.IsGen G s0.gens.size := fun h e => by
    obtain ⟨o, nm, qn, ho, r⟩ := IG
    rw [zG.1] at ho
    cases ho
    exact ⟨_, nm, qn, e, r⟩
  have loop : ∀ s₃ : Shared, s₃ = { s0 with heap := h₁, toks := tk' + ([] : List (Str × Value)).length, gens := s0.gens.push gs } →
      codeAny (model prog w) A (.compLoop (.ListComp elt [⟨.Name x px, iter, [], 0⟩] scope pos) 0 (.ref G) (.ref h'.objs.size) (compEnvC scope cl H2.objs.size env)) (compPost (model prog w) A E none Q (.ref h'.objs.size) H2.objs.size) s₃ := by
    rintro s₃ rfl
    refine compLoop_G (oC₀ := oC) hh hroom hkind hx hsz NL hIG cG hDC (below G hGlt).1 (below G hGlt).2 eltOk go (F.keeps old) (fun p hp => ?_) hoC (fun h tk vs tl hns k hl hL ho => ?_)
    · simp only [List.mem_cons, List.not_mem_nil, or_false] at hp
      rcases hp with rfl | rfl | rfl
      · exact ⟨heC, Ne.symm (below L2 hLlt).1, hC₀⟩
      · exact ⟨hacc, Ne.symm (below L2 hLlt).2, hD₀⟩
      · exact ⟨old _ _ zG.1, zG.2⟩
    · obtain ⟨mC, hns⟩ := hns
      refine ⟨mC, hns, fun h'' hs'' => fin _ vs vs.length tl h'' tk (fun b o e => hs''.extBut b o (fun q => by rw [q, hC₀] at e; cases e) (k b o e)) (fun p hp => ?_) hL ho⟩
      exact ⟨hs''.extBut _ _ (hl p hp).2.2 (hl p hp).1, (hl p hp).2.1⟩
  exact codeAny_compStart_list (loop _ rfl) (wpAny_pyIter_gen (hIG _ (old _ _ zG.1)) (loop _ rfl))
end
section
variable {prog : Program} {w : World} {p : Program} {loose : List Str} {mean : ExcName → Option Value} {mg mb : Str → Option Value} {dp un : Nat} {gd : Option (List Code)} {cn : Str} {cs : Scope} {a : Addr} {ccd : Value} {cl : List (Str × Addr)} {outer : List Env} {A₀ : Around} {base h₀ : Heap} {L : Addr} {m : Str → Option Value} {Q E : Value → Shared → Prop} {news : List (Addr × Obj)} {s : Shared}

theorem component_call {a' b' : Nat} {vi vq : Value} {ta tb : Tok} (B : Below A₀ base outer h₀) (F : Fr h₀ L s.heap m) (X : (hd.heap_1 w.params).In h₀) (T : Top p loose mean mg mb h₀) (hk : cs.kind = .function) (N : News h₀ L s.heap news) (hd : dp ≤ 940) (_hu : un ≤ 9400)
    (h : ∀ x r h' tk', Fr h₀ L h' m → News h₀ L h' ((x, instObj 80 r.dx) :: (r.dx, dictOf (coEs w (a', b') r) 4) :: news) → (∀ p ∈ news, p.1 ≠ x ∧ p.1 ≠ r.dx) → (@Ne Nat x r.dx) → Q (.ref x) { s with heap := h', toks := tk' }) :
    wpAny (model prog w) (ktrTop dp un gd cn cs L a ccd cl outer) (call (.ref 80) [vi, .int (a' : Int) ta, .int (b' : Int) tb, vq]) Q E s := by
  refine call_cls F X N (by k_is) (by k_is) (by k_is) ?_
  intro x dx h₁ F₁ N₁ l1 l2
  have o1 : ∀ p ∈ news, p.1 ≠ dx := fun p hp => Nat.ne_of_lt (l1 p hp)
  have o2 : ∀ p ∈ news, p.1 ≠ x := fun p hp => Nat.ne_of_lt (Nat.lt_trans (l1 p hp) l2)
  have hne : @Ne Nat x dx := Ne.symm (Nat.ne_of_lt l2)
  have N' := N₁
  refine code_defN (binds := [(Str.ofString "self", .ref x), (Str.ofString "ident", vi), (Str.ofString "across", .int (a' : Int) ta), (Str.ofString "down", .int (b' : Int) tb), (Str.ofString "quant", vq)]) B F₁ X (news := (x, instObj 80 dx) :: (dx, dictOf [] 0) :: news) N₁ T rfl rfl hk (by k_is) (by k_is) (by ktr_room) (BindsTo.of_eq rfl) (locs rfl) ?_ rfl rfl rfl (by decide)
  intro g L' h₂ KP FG F₂ N₂ B₂ X₂ T₂ env' A' q' e'
  k_steps
  rename News h₀ L _ _ => kN
  rename Fr h₀ L _ _ => kF
  exact h x ⟨dx, 0, [], fun i => [vi, vq].getD i .none, fun i => [_, _, ta, _, tb, _].getD i 0⟩ _ _ kF kN (fun p hp => ⟨o2 p hp, o1 p hp⟩) hne
theorem frameobj_call {d : Fm} {vk vp : Value} {lc : Addr} {crs : List Addr} {tH tW tn : Tok} (B : Below A₀ base outer h₀) (F : Fr h₀ L s.heap m) (X : (hd.heap_1 w.params).In h₀) (T : Top p loose mean mg mb h₀) (hk : cs.kind = .function) (N : News h₀ L s.heap news) (hd : dp ≤ 940) (_hu : un ≤ 9400)
    (h : ∀ x r h' tk', r.lc = lc → r.crs = crs → Fr h₀ L h' m → News h₀ L h' ((x, instObj 146 r.dx) :: (r.dx, dictOf (frEs w d r) 6) :: news) → (∀ p ∈ news, p.1 ≠ x ∧ p.1 ≠ r.dx) → (@Ne Nat x r.dx) → Q (.ref x) { s with heap := h', toks := tk' }) :
    wpAny (model prog w) (ktrTop dp un gd cn cs L a ccd cl outer) (call (.ref 146) [vk, vp, .int (d.H : Int) tH, .int (d.W : Int) tW, .ref lc, .int (d.n : Int) tn]) Q E s := by
  refine call_cls F X N (by k_is) (by k_is) (by k_is) ?_
  intro x dx h₁ F₁ N₁ l1 l2
  have o1 : ∀ p ∈ news, p.1 ≠ dx := fun p hp => Nat.ne_of_lt (l1 p hp)
  have o2 : ∀ p ∈ news, p.1 ≠ x := fun p hp => Nat.ne_of_lt (Nat.lt_trans (l1 p hp) l2)
  have hne : @Ne Nat x dx := Ne.symm (Nat.ne_of_lt l2)
  have N' := N₁
  refine code_defN (binds := [(Str.ofString "self", .ref x), (Str.ofString "kind", vk), (Str.ofString "precision", vp), (Str.ofString "height", .int (d.H : Int) tH), (Str.ofString "width", .int (d.W : Int) tW), (Str.ofString "components", .ref lc), (Str.ofString "n", .int (d.n : Int) tn)]) B F₁ X (news := (x, instObj 146 dx) :: (dx, dictOf [] 0) :: news) N₁ T rfl rfl hk (by k_is) (by k_is) (by ktr_room) (BindsTo.of_eq rfl) (locs rfl) ?_ rfl rfl rfl (by decide)
  intro g L' h₂ KP FG F₂ N₂ B₂ X₂ T₂ env' A' q' e'
  k_steps
  rename News h₀ L _ _ => kN
  rename Fr h₀ L _ _ => kF
  exact h x ⟨dx, lc, crs, fun i => [vk, vp].getD i .none, fun i => [_, _, _, tH, _, tW, _, _, tn].getD i 0⟩ _ _ rfl rfl kF kN (fun p hp => ⟨o2 p hp, o1 p hp⟩) hne
theorem scanobj_call {lp : Addr} {v0 v1 v2 v3 v4 v5 : Value} (B : Below A₀ base outer h₀) (F : Fr h₀ L s.heap m) (X : (hd.heap_1 w.params).In h₀) (T : Top p loose mean mg mb h₀) (hk : cs.kind = .function) (N : News h₀ L s.heap news) (hd : dp ≤ 940) (_hu : un ≤ 9400)
    (h : ∀ x r h' tk', r.lc = lp → Fr h₀ L h' m → News h₀ L h' ((x, instObj 181 r.dx) :: (r.dx, dictOf (scEs w r) 7) :: news) → (∀ p ∈ news, p.1 ≠ x ∧ p.1 ≠ r.dx) → (@Ne Nat x r.dx) → Q (.ref x) { s with heap := h', toks := tk' }) :
    wpAny (model prog w) (ktrTop dp un gd cn cs L a ccd cl outer) (call (.ref 181) [.ref lp, v0, v1, v2, v3, v4, v5]) Q E s := by
  refine call_cls F X N (by k_is) (by k_is) (by k_is) ?_
  intro x dx h₁ F₁ N₁ l1 l2
  have o1 : ∀ p ∈ news, p.1 ≠ dx := fun p hp => Nat.ne_of_lt (l1 p hp)
  have o2 : ∀ p ∈ news, p.1 ≠ x := fun p hp => Nat.ne_of_lt (Nat.lt_trans (l1 p hp) l2)
  have hne : @Ne Nat x dx := Ne.symm (Nat.ne_of_lt l2)
  have N' := N₁
  refine code_defN (binds := [(Str.ofString "self", .ref x), (Str.ofString "places", .ref lp), (Str.ofString "dc_slots", v0), (Str.ofString "ac_slots", v1), (Str.ofString "start", v2), (Str.ofString "end", v3), (Str.ofString "high", v4), (Str.ofString "low", v5)]) B F₁ X (news := (x, instObj 181 dx) :: (dx, dictOf [] 0) :: news) N₁ T rfl rfl hk (by k_is) (by k_is) (by ktr_room) (BindsTo.of_eq rfl) (locs rfl) ?_ rfl rfl rfl (by decide)
  intro g L' h₂ KP FG F₂ N₂ B₂ X₂ T₂ env' A' q' e'
  k_steps
  rename News h₀ L _ _ => kN
  rename Fr h₀ L _ _ => kF
  exact h x ⟨dx, lp, [], fun i => [v0, v1, v2, v3, v4, v5].getD i .none, fun i => [_, _, _, _, _, _, _].getD i 0⟩ _ _ rfl kF kN (fun p hp => ⟨o2 p hp, o1 p hp⟩) hne
end
theorem KpB.kp_of {as : List Addr} {h h' : Heap} (k : KpB as h h') {l : List (Addr × Obj)} (N : ∀ p ∈ l, h.get? p.1 = some p.2) (off : ∀ p ∈ l, p.1 ∉ as) : ∀ p ∈ l, h'.get? p.1 = some p.2 := fun p hp => k _ _ (off p hp) (N p hp)
theorem News.kpb {g h h' : Heap} {L src : Addr} {l : List (Addr × Obj)} {q : Addr × Obj} (N : News g L h l) (k : KpB [src] h h') (off : ∀ p ∈ l, p.1 ≠ src) (N' : News g L h' [q]) : News g L h' (q :: l) := fun p hp => by
  rcases List.mem_cons.mp hp with rfl | hp
  · exact N' _ (List.mem_cons_self ..)
  · exact ⟨k _ _ (by simpa using off p hp) (N p hp).1, (N p hp).2⟩
theorem News.sub {g h : Heap} {L : Addr} {l l' : List (Addr × Obj)} (N : News g L h l) (k : ∀ p ∈ l', p ∈ l) : News g L h l' := fun p hp => N p (k p hp)
section
variable {prog : Program} {w : World} {A A₀ : Around} {E : Value → Shared → Prop} {s : Shared} {K : Frag} {C L : Addr} {h₀ base : Heap} {m mg mb : Str → Option Value} {news : List (Addr × Obj)} {p : Program} {loose : List Str} {mean : ExcName → Option Value}
/-- a def whose names a comprehension captures -/
theorem code_defK {env : Env} {outer : List Env} {R : Result → Shared → Prop} {name qual : Str} {params : Arguments} {body : List Stmt} {scope : Scope} {dV kV doc pm cdv ct oc : Value} {an od : Option Addr} {osl : Array (Option Value)} {f : Addr} {args : Args} {binds : List (Str × Value)}
    (B : Below A₀ base outer h₀) (F : Fr h₀ L s.heap m) (X₀ : K.In h₀) (N : News h₀ L s.heap news) (T : Top p loose mean mg mb h₀) (hA : A.frames = some (env :: outer)) (hf : env.frame = some L) (hke : env.scope.kind = .function)
    (ho : K.lookup f = some ⟨oc, od, .func (fnOf name qual params body scope dV kV doc pm an cdv ct), osl⟩) (hcd : codeIn K cdv qual = true) (hroom : A.depth < recursionLimit)
    (hbind : BindsTo s (fnOf name qual params body scope dV kV doc pm an cdv ct) args binds) (hkind : (binds.all fun y => scope.names.lookup y.1 == some .local || scope.names.lookup y.1 == some .cell) = true)
    (hnd : ((cellsFrom 0 scope.names []).map (·.1)).Nodup)
    (h : ∀ g L' h₁ tk cells, KpB (news.map (·.1)) s.heap g → Fr h₀ L g m → Fr g L' h₁ (bindL (envOfC qual scope L' f cdv).kindOf binds fun _ => none) → News g L' h₁ (cells ++ news) →
      CellsAre (bindC (envOfC qual scope L' f cdv).kindOf binds fun _ => none) (cellsFrom (L' + 1) scope.names []) cells → (∀ p ∈ cells, s.heap.get? p.1 = none) → Below A base (env :: outer) g → K.In g → Top p loose mean mg mb g →
      let env' := envOfC qual scope L' f cdv
      let A' := A.deeper env'
      let q' : Flow → Shared → Prop := fun fl s' => LeaveK h₀ L m g R (match fl with | .ret v => v | _ => .none) s'
      let e' : Value → Shared → Prop := fun e s' => wpAny (model prog w) A' (leaving env' e) (fun _ s'' => R (.error e) s'') (fun e' s'' => R (.error e') s'') s'
      wpAny (model prog w) A' (execs body env') q' e' { s with heap := h₁, toks := tk })
    (hco : scope.isCoroutine = false) (hgen : scope.isGenerator = false) (hk : scope.kind = .function) : codeAny (model prog w) A (.call (.ref f) args) R s := by
  obtain ⟨FG, BG, st, lv⟩ := groundX (R := R) B F N hA hf hke
  have kb : KpB (news.map (·.1)) s.heap (hideAll s.heap (news.map (·.1))) := fun b o hb e => hideAll_get _ e hb
  refine codeAny_call_function (fd := fnX name qual params body scope [] dV kV doc pm an cdv ct) hroom ((X₀.keeps F.keep) _ _ ho) rfl hco hgen rfl (codeRec_of (X₀.keeps F.keep) hcd) (hbind _ _ _ _ ?_)
  refine wpAny_newFunctionEnv_cells hk (kindsX hkind _) fun env' he s' x => ?_
  subst he
  have hk₁ := x.toInCall.keep
  refine ⟨(T.nolimit.keeps F.keep).keeps hk₁, codeAny_func ?_⟩
  obtain ⟨h₁, tk, rfl, _⟩ := x.done
  obtain ⟨cells, NC, Y⟩ := Cl.news (h₀ := s.heap) (Nat.le_refl _) fun n c hm => ⟨x.cell n c (lookup_of_mem_nodup (cellsFrom_names scope.names 0 (s.heap.objs.size + 1) [] [] rfl ▸ hnd) hm), x.above n c hm⟩
  refine wpAny_mono (h _ s.heap.objs.size h₁ tk cells kb FG ⟨x.toInCall.ns, fun b o e => hk₁ b o (of_hideAll _ e), Nat.le_of_eq (hideAll_size _ _)⟩ (fun p hp => ?_) Y (fun p hp => (NC p hp).2.2) BG (X₀.keeps st) (T.keeps st)) (fun fl s' hl => lv _ _ hl) fun _ _ y => y
  rcases List.mem_append.mp hp with hp | hp
  · refine ⟨(NC p hp).1, (NC p hp).2.1, ?_⟩
    cases q : (hideAll s.heap (news.map (·.1))).get? p.1 with
    | none => rfl
    | some o => have := of_hideAll _ q; rw [(NC p hp).2.2] at this; cases this
  · exact ⟨hk₁ _ _ (N p hp).1, Nat.ne_of_lt (Heap.lt_size (N p hp).1), hideAll_none _ (List.mem_map_of_mem hp)⟩
end
/-- a list of components on a ledger -/
noncomputable def CompsLed (w : World) (l : List (Addr × Obj)) : List Value → List (Nat × Nat) → Prop
  | [], [] => True
  | v :: vs, x :: xs => (∃ c r, v = .ref c ∧ (c, instObj 80 r.dx) ∈ l ∧ (r.dx, dictOf (coEs w x r) 4) ∈ l) ∧ CompsLed w l vs xs
  | _, _ => False
theorem CompsLed.mono {w : World} {l l' : List (Addr × Obj)} (k : ∀ p ∈ l, p ∈ l') : ∀ {vs : List Value} {xs : List (Nat × Nat)}, CompsLed w l vs xs → CompsLed w l' vs xs
  | [], [], _ => trivial
  | _ :: _, _ :: _, ⟨⟨c, r, e, h1, h2⟩, q⟩ => ⟨⟨c, r, e, k _ h1, k _ h2⟩, CompsLed.mono k q⟩
  | [], _ :: _, h => h.elim
  | _ :: _, [], h => h.elim
theorem CompsLed.snoc {w : World} {l : List (Addr × Obj)} {c : Addr} {r : Rep} {x : Nat × Nat} : ∀ {vs : List Value} {xs : List (Nat × Nat)}, CompsLed w l vs xs → (c, instObj 80 r.dx) ∈ l → (r.dx, dictOf (coEs w x r) 4) ∈ l → CompsLed w l (vs ++ [.ref c]) (xs ++ [x])
  | [], [], _, h1, h2 => ⟨⟨c, r, rfl, h1, h2⟩, trivial⟩
  | _ :: _, _ :: _, ⟨a, q⟩, h1, h2 => ⟨a, CompsLed.snoc q h1 h2⟩
  | [], _ :: _, h, _, _ => h.elim
  | _ :: _, [], h, _, _ => h.elim
theorem CompsLed.refs {w : World} {l : List (Addr × Obj)} : ∀ {vs : List Value} {xs : List (Nat × Nat)}, CompsLed w l vs xs → ∃ crs : List Addr, vs = crs.map Value.ref ∧ ∀ h : Heap, (∀ p ∈ l, h.get? p.1 = some p.2) → CompsAt w h crs xs
  | [], [], _ => ⟨[], rfl, fun _ _ => trivial⟩
  | _ :: _, _ :: _, ⟨⟨c, r, e, h1, h2⟩, q⟩ => by
    obtain ⟨crs, e', q'⟩ := CompsLed.refs q
    exact ⟨c :: crs, by rw [e, e']; rfl, fun h k => ⟨⟨r, inst_of (k _ h1) (k _ h2)⟩, q' h k⟩⟩
  | [], _ :: _, h => h.elim
  | _ :: _, [], h => h.elim
theorem fresh_kpb {g h : Heap} {src : Addr} (k : KpB [src] h g) {D : Addr} (n : D ≠ src) (e : g.get? D = none) : h.get? D = none := by
  cases q : h.get? D with
  | none => rfl
  | some o => rw [k D o (by simpa using n) q] at e; cases e
section
variable {prog : Program} {w : World} {p : Program} {loose : List Str} {mean : ExcName → Option Value} {mg mb : Str → Option Value} {dp un : Nat} {gd : Option (List Code)} {cn : Str} {cs : Scope} {a : Addr} {ccd : Value} {cl : List (Str × Addr)} {outer : List Env} {A₀ : Around} {base h₀ : Heap} {L : Addr} {m : Str → Option Value} {Q E : Value → Shared → Prop} {news : List (Addr × Obj)} {s : Shared}

theorem frame_call {src : Addr} {x y : Int} {tp tq : Tok} {nn : Nat} {vk : Value} (B : Below A₀ base outer h₀) (F : Fr h₀ L s.heap m) (X : (hd.heap_1 w.params).In h₀) (T : Top p loose mean mg mb h₀) (hk : cs.kind = .function) (N : News h₀ L s.heap [(src, srcO x y tp tq nn)]) (hd : dp ≤ 920) (hu : un ≤ 9200)
    (hq : 0 ≤ y) (hq2 : y < 2147483648)
    (h : ∀ (fr : Addr) (d : Fm) (l : List (Addr × Obj)) x' y' tp' tq' nn' (h' : Heap) tk', d.Ok → d.W ≤ 4 * d.n ∧ d.H ≤ 3 * d.n → (∀ p ∈ l, h'.get? p.1 = some p.2 ∧ s.heap.get? p.1 = none) → (∀ h : Heap, (∀ p ∈ l, h.get? p.1 = some p.2) → FrameAt w h fr d) →
      0 ≤ y' → y' < 2147483648 → Fr h₀ L h' m → News h₀ L h' [(src, srcO x' y' tp' tq' nn')] → KpB [src] s.heap h' → Q (.ref fr) { s with heap := h', toks := tk' }) :
    wpAny (model prog w) (ktrTop dp un gd cn cs L a ccd cl outer) (call (.ref 211) [.ref src, vk]) Q E s := by
  refine wpAny_call ?_
  refine code_defK (binds := [(Str.ofString "source", .ref src), (Str.ofString "kind", vk)]) B F X (news := [(src, srcO x y tp tq nn)]) N T rfl rfl hk (by k_is) (by k_is) (rl hd rfl) (BindsTo.of_eq rfl) (by rfl) (by decide) ?_ rfl rfl rfl
  intro g L' h₁ tk cells KP FG F₁ N₁ Y CN B₁ X₁ T₁ env' A' q' e'
  obtain ⟨oc, hE, d1⟩ := CellsAre.one Y
  subst hE
  clear Y
  have hc0 := CN _ (List.mem_singleton.mpr rfl)
  clear CN
  have hcs : @Ne Nat (L' + 1) src := fun e => by
    have h1 := (N _ (List.mem_singleton.mpr rfl)).1
    rw [← show L' + 1 = src from e, hc0] at h1
    cases h1
  k_steps
  rename News g L' _ _ => NB
  rename (∀ p : Addr × Obj, p ∈ _ → _ < _) => lt1
  have NS : News g L' _ [(src, srcO x y tp tq nn)] := News.sub NB (by simp)
  have NC : News g L' _ [(L' + 1, oc)] := News.sub NB (by simp)
  refine unhalt ?_
  refine one_call (n := 3) (by k_asm) (by k_asm) (by k_asm) (by k_asm) (by first | exact rfl | assumption) NS (rm hd rfl) (rm hu rfl) hq hq2 ⟨_, (NB _ (List.mem_cons_self ..)).1, rfl, _, rfl⟩ (Ne.symm (Nat.ne_of_lt (lt1 (src, srcO x y tp tq nn) (by simp)))) rfl (by decide) (by decide) ?_
  intro k₁ v₁ x₁ y₁ tp₁ tq₁ nn₁ h₂ tk₂ hk1 hv1 hy1 hy1' F₂ NS₂ KP₂
  have N₂ := News.kpb NC KP₂ (fun p hp => by cases List.mem_singleton.mp hp; exact hcs) NS₂
  obtain ⟨side, ts, rfl, hside⟩ : ∃ (side : Nat) (ts : Tok), v₁ = .int (side : Int) ts ∧ (side = 2 ∨ side = 4) := by
    match k₁, hk1 with
    | 0, _ => exact ⟨2, _, (Option.some.inj hv1).symm, .inl rfl⟩
    | 1, _ => exact ⟨2, _, (Option.some.inj hv1).symm, .inl rfl⟩
    | 2, _ => exact ⟨4, _, (Option.some.inj hv1).symm, .inr rfl⟩
  k_sweep
  k_steps
  rename News g L' _ _ => NB2
  rename (_ < _ ∧ _) => lt2
  have NS2 : News g L' _ [(src, srcO x₁ y₁ tp₁ tq₁ nn₁)] := News.sub NB2 (by simp)
  have NC2 : News g L' _ [(L' + 1, oc)] := News.sub NB2 (by simp)
  refine unhalt ?_
  refine one_call (n := 4) (by k_asm) (by k_asm) (by k_asm) (by k_asm) (by first | exact rfl | assumption) NS2 (rm hd rfl) (rm hu rfl) hy1 hy1' ⟨_, (NB2 _ (List.mem_cons_self ..)).1, rfl, _, rfl⟩ (Ne.symm (Nat.ne_of_lt lt2.1)) rfl (by decide) (by decide) ?_
  intro k₂ v₂ x₂ y₂ tp₂ tq₂ nn₂ h₂ tk₂ hk2 hv2 hy2 hy2' F₂ NS₂ KP₂
  have N₂ := News.kpb NC2 KP₂ (fun p hp => by cases List.mem_singleton.mp hp; exact hcs) NS₂
  obtain ⟨many, ts2, rfl, hm1, hm3⟩ : ∃ (many : Nat) (ts : Tok), v₂ = .int (many : Int) ts ∧ 1 ≤ many ∧ many ≤ 3 := by
    match k₂, hk2 with
    | 0, _ => exact ⟨1, _, (Option.some.inj hv2).symm, by decide, by decide⟩
    | 1, _ => exact ⟨2, _, (Option.some.inj hv2).symm, by decide, by decide⟩
    | 2, _ => exact ⟨3, _, (Option.some.inj hv2).symm, by decide, by decide⟩
    | 3, _ => exact ⟨3, _, (Option.some.inj hv2).symm, by decide, by decide⟩
  k_sweep
  k_steps
  refine unhalt ?_
  refine LCg.Assign_ListComp_U (cl := [(Str.ofString "source", L' + 1)]) (by k_asm) rfl (by rfl) (by rfl) (by decide) rfl (by decide) rfl rfl rfl ?_
  k_steps
  refine unhalt ?_
  refine LCg.CompSrc.range (n := many) rfl (by k_asm) (by k_asm) (by k_asm) (rsm many (by omega)) (rsz many) (by rw [sizeLine_eq]; omega) (fun g₂ => compRest_of (n := many)
    (fun i ys nx => ∃ x y tp tq nn cs l, nx = (src, srcO x y tp tq nn) :: (L' + 1, oc) :: l ∧ 0 ≤ y ∧ y < 2147483648 ∧ CompsLed w l ys cs ∧ cs.length = i ∧ (∀ c ∈ cs, 1 ≤ c.1 ∧ c.1 ≤ 3 ∧ 1 ≤ c.2 ∧ c.2 ≤ 2) ∧ (∀ p ∈ l, p.1 ≠ src)) ?step ?fin _ 0 (Nat.zero_add _) [] _ ⟨_, _, _, _, _, [], [], rfl, hy2, hy2', trivial, rfl, fun _ h => (nomatch h), fun _ h => (nomatch h)⟩)
  case step =>
    rintro i ys _ hi ⟨x₃, y₃, tp₃, tq₃, nn₃, cs₃, l₃, rfl, hy3, hy3', hL3, hlen3, hok3, hoff3⟩ v I oI C oC D m₂ h tk E' hP hN hx F₂ N₂ off ne
    obtain ⟨tpl, rfl⟩ := hP
    have q1 := off.1.1
    have q2 := off.1.2.1
    have q3 := off.1.2.2
    have offS : ∀ p ∈ (I, oI) :: (C, oC) :: (D, LCg.lst ys) :: (L' + 1, oc) :: l₃, p.1 ≠ src := fun p hp => by
      revert hp; revert p
      exact all_cons (Ne.symm q1) (all_cons (Ne.symm q2) (all_cons (Ne.symm q3) (all_cons (hcs) (fun p hp => hoff3 p hp))))
    k_steps
    rename News g L' _ _ => NA
    have NS3 : News g L' _ [(src, srcO x₃ y₃ tp₃ tq₃ nn₃)] := News.sub NA (by simp)
    have NR3 : News g L' _ ((I, oI) :: (C, oC) :: (D, LCg.lst ys) :: (L' + 1, oc) :: l₃) := News.sub NA (by repeat' first | refine all_cons ?_ ?_ | exact List.Mem.head _ | exact List.Mem.tail _ (List.Mem.head _) | exact List.Mem.tail _ (List.Mem.tail _ (List.Mem.head _)) | exact List.Mem.tail _ (List.Mem.tail _ (List.Mem.tail _ (List.Mem.head _))) | exact List.Mem.tail _ (List.Mem.tail _ (List.Mem.tail _ (List.Mem.tail _ (List.Mem.head _)))) | exact List.Mem.tail _ (List.Mem.tail _ (List.Mem.tail _ (List.Mem.tail _ (List.Mem.tail _ (List.Mem.head _))))) | exact List.Mem.tail _ (List.Mem.tail _ (List.Mem.tail _ (List.Mem.tail _ (List.Mem.tail _ (List.Mem.tail _ (List.Mem.head _)))))) | exact List.Mem.tail _ (List.Mem.tail _ (List.Mem.tail _ (List.Mem.tail _ (List.Mem.tail _ (List.Mem.tail _ (List.Mem.tail _ (List.Mem.head _))))))) | exact List.Mem.tail _ (List.Mem.tail _ (List.Mem.tail _ (List.Mem.tail _ (List.Mem.tail _ (List.Mem.tail _ (List.Mem.tail _ (List.Mem.tail _ (List.Mem.head _)))))))) | exact fun _ h => h | exact fun _ h => List.Mem.tail _ (h) | exact fun _ h => List.Mem.tail _ (List.Mem.tail _ (h)) | exact fun _ h => List.Mem.tail _ (List.Mem.tail _ (List.Mem.tail _ (h))) | exact fun _ h => List.Mem.tail _ (List.Mem.tail _ (List.Mem.tail _ (List.Mem.tail _ (h)))) | exact fun _ h => List.Mem.tail _ (List.Mem.tail _ (List.Mem.tail _ (List.Mem.tail _ (List.Mem.tail _ (h))))) | exact fun _ h => List.Mem.tail _ (List.Mem.tail _ (List.Mem.tail _ (List.Mem.tail _ (List.Mem.tail _ (List.Mem.tail _ (h)))))) | exact fun _ h => List.Mem.tail _ (List.Mem.tail _ (List.Mem.tail _ (List.Mem.tail _ (List.Mem.tail _ (List.Mem.tail _ (List.Mem.tail _ (h))))))) | exact fun _ h => List.Mem.tail _ (List.Mem.tail _ (List.Mem.tail _ (List.Mem.tail _ (List.Mem.tail _ (List.Mem.tail _ (List.Mem.tail _ (List.Mem.tail _ (h)))))))) | exact all_nil)
    refine unhalt ?_
    refine take_call (top := 3) (by k_asm) (by k_asm) (by k_asm) (by k_asm) (by first | exact rfl | assumption) NS3 (rm hd rfl) (rm hu rfl) hy3 hy3' (by decide) (by decide) ?_
    intro k₄ t₄ x₄ y₄ tp₄ tq₄ nn₄ h₄ tk₄ hk4 hy4 hy4' F₄ NS₄ KP₄
    have N₄ := News.kpb NR3 KP₄ offS NS₄
    k_sweep
    k_steps
    rename News g L' _ _ => NA4
    have NS4 : News g L' _ [(src, srcO x₄ y₄ tp₄ tq₄ nn₄)] := News.sub NA4 (by simp)
    have NR4 : News g L' _ ((I, oI) :: (C, oC) :: (D, LCg.lst ys) :: (L' + 1, oc) :: l₃) := News.sub NA4 (by repeat' first | refine all_cons ?_ ?_ | exact List.Mem.head _ | exact List.Mem.tail _ (List.Mem.head _) | exact List.Mem.tail _ (List.Mem.tail _ (List.Mem.head _)) | exact List.Mem.tail _ (List.Mem.tail _ (List.Mem.tail _ (List.Mem.head _))) | exact List.Mem.tail _ (List.Mem.tail _ (List.Mem.tail _ (List.Mem.tail _ (List.Mem.head _)))) | exact List.Mem.tail _ (List.Mem.tail _ (List.Mem.tail _ (List.Mem.tail _ (List.Mem.tail _ (List.Mem.head _))))) | exact List.Mem.tail _ (List.Mem.tail _ (List.Mem.tail _ (List.Mem.tail _ (List.Mem.tail _ (List.Mem.tail _ (List.Mem.head _)))))) | exact List.Mem.tail _ (List.Mem.tail _ (List.Mem.tail _ (List.Mem.tail _ (List.Mem.tail _ (List.Mem.tail _ (List.Mem.tail _ (List.Mem.head _))))))) | exact List.Mem.tail _ (List.Mem.tail _ (List.Mem.tail _ (List.Mem.tail _ (List.Mem.tail _ (List.Mem.tail _ (List.Mem.tail _ (List.Mem.tail _ (List.Mem.head _)))))))) | exact fun _ h => h | exact fun _ h => List.Mem.tail _ (h) | exact fun _ h => List.Mem.tail _ (List.Mem.tail _ (h)) | exact fun _ h => List.Mem.tail _ (List.Mem.tail _ (List.Mem.tail _ (h))) | exact fun _ h => List.Mem.tail _ (List.Mem.tail _ (List.Mem.tail _ (List.Mem.tail _ (h)))) | exact fun _ h => List.Mem.tail _ (List.Mem.tail _ (List.Mem.tail _ (List.Mem.tail _ (List.Mem.tail _ (h))))) | exact fun _ h => List.Mem.tail _ (List.Mem.tail _ (List.Mem.tail _ (List.Mem.tail _ (List.Mem.tail _ (List.Mem.tail _ (h)))))) | exact fun _ h => List.Mem.tail _ (List.Mem.tail _ (List.Mem.tail _ (List.Mem.tail _ (List.Mem.tail _ (List.Mem.tail _ (List.Mem.tail _ (h))))))) | exact fun _ h => List.Mem.tail _ (List.Mem.tail _ (List.Mem.tail _ (List.Mem.tail _ (List.Mem.tail _ (List.Mem.tail _ (List.Mem.tail _ (List.Mem.tail _ (h)))))))) | exact all_nil)
    refine unhalt ?_
    refine take_call (top := 2) (by k_asm) (by k_asm) (by k_asm) (by k_asm) (by first | exact rfl | assumption) NS4 (rm hd rfl) (rm hu rfl) hy4 hy4' (by decide) (by decide) ?_
    intro k₅ t₅ x₅ y₅ tp₅ tq₅ nn₅ h₅ tk₅ hk5 hy5 hy5' F₅ NS₅ KP₅
    have N₅ := News.kpb NR4 KP₅ offS NS₅
    k_sweep
    k_steps
    rw [show (1 : Int) + (k₄ : Int) = ((1 + k₄ : Nat) : Int) by omega, show (1 : Int) + (k₅ : Int) = ((1 + k₅ : Nat) : Int) by omega]
    refine unhalt ?_
    refine component_call (news := (src, srcO x₅ y₅ tp₅ tq₅ nn₅) :: (I, oI) :: (C, oC) :: (D, LCg.lst ys) :: (L' + 1, oc) :: l₃) (by k_asm) (by k_asm) (by k_asm) (by k_asm) (by first | exact rfl | assumption) (by k_asm) (rm hd rfl) (rm hu rfl) ?_
    intro c₆ r₆ h₆ tk₆ F₆ N₆ o₆ ne₆
    have oI := o₆ (I, oI) (by simp)
    have oC' := o₆ (C, oC) (by simp)
    have oD := o₆ (D, LCg.lst ys) (by simp)
    refine LCg.CompEnd.intro F₆ N₆ ((src, srcO x₅ y₅ tp₅ tq₅ nn₅) :: (L' + 1, oc) :: (c₆, instObj 80 r₆.dx) :: (r₆.dx, dictOf (coEs w (1 + k₄, 1 + k₅) r₆) 4) :: l₃) (fun p hp => ?_) ⟨off.1, off.2.1, ⟨Ne.symm oI.1, Ne.symm oC'.1, Ne.symm oD.1⟩, ⟨Ne.symm oI.2, Ne.symm oC'.2, Ne.symm oD.2⟩, off.2.2⟩ trivial
      ⟨_, _, _, _, _, cs₃ ++ [(1 + k₄, 1 + k₅)], _, rfl, hy5, hy5', (hL3.mono fun p hp => List.mem_cons_of_mem _ (List.mem_cons_of_mem _ hp)).snoc (List.mem_cons_self ..) (List.mem_cons_of_mem _ (List.mem_cons_self ..)), by rw [List.length_append, hlen3]; rfl, fun c hc => ?_, fun p hp => ?_⟩
    · revert hp; revert p
      exact (by repeat' first | refine all_cons ?_ ?_ | exact List.Mem.head _ | exact List.Mem.tail _ (List.Mem.head _) | exact List.Mem.tail _ (List.Mem.tail _ (List.Mem.head _)) | exact List.Mem.tail _ (List.Mem.tail _ (List.Mem.tail _ (List.Mem.head _))) | exact List.Mem.tail _ (List.Mem.tail _ (List.Mem.tail _ (List.Mem.tail _ (List.Mem.head _)))) | exact List.Mem.tail _ (List.Mem.tail _ (List.Mem.tail _ (List.Mem.tail _ (List.Mem.tail _ (List.Mem.head _))))) | exact List.Mem.tail _ (List.Mem.tail _ (List.Mem.tail _ (List.Mem.tail _ (List.Mem.tail _ (List.Mem.tail _ (List.Mem.head _)))))) | exact List.Mem.tail _ (List.Mem.tail _ (List.Mem.tail _ (List.Mem.tail _ (List.Mem.tail _ (List.Mem.tail _ (List.Mem.tail _ (List.Mem.head _))))))) | exact List.Mem.tail _ (List.Mem.tail _ (List.Mem.tail _ (List.Mem.tail _ (List.Mem.tail _ (List.Mem.tail _ (List.Mem.tail _ (List.Mem.tail _ (List.Mem.head _)))))))) | exact fun _ h => h | exact fun _ h => List.Mem.tail _ (h) | exact fun _ h => List.Mem.tail _ (List.Mem.tail _ (h)) | exact fun _ h => List.Mem.tail _ (List.Mem.tail _ (List.Mem.tail _ (h))) | exact fun _ h => List.Mem.tail _ (List.Mem.tail _ (List.Mem.tail _ (List.Mem.tail _ (h)))) | exact fun _ h => List.Mem.tail _ (List.Mem.tail _ (List.Mem.tail _ (List.Mem.tail _ (List.Mem.tail _ (h))))) | exact fun _ h => List.Mem.tail _ (List.Mem.tail _ (List.Mem.tail _ (List.Mem.tail _ (List.Mem.tail _ (List.Mem.tail _ (h)))))) | exact fun _ h => List.Mem.tail _ (List.Mem.tail _ (List.Mem.tail _ (List.Mem.tail _ (List.Mem.tail _ (List.Mem.tail _ (List.Mem.tail _ (h))))))) | exact fun _ h => List.Mem.tail _ (List.Mem.tail _ (List.Mem.tail _ (List.Mem.tail _ (List.Mem.tail _ (List.Mem.tail _ (List.Mem.tail _ (List.Mem.tail _ (h)))))))) | exact all_nil)
    · rcases List.mem_append.mp hc with hc | hc
      · exact hok3 c hc
      · cases List.mem_singleton.mp hc
        dsimp only
        omega
    · have os := o₆ (src, srcO x₅ y₅ tp₅ tq₅ nn₅) (by simp)
      simp only [List.mem_cons] at hp
      rcases hp with rfl | rfl | hp
      · exact Ne.symm os.1
      · exact Ne.symm os.2
      · exact hoff3 p hp
  case fin =>
    rintro ys _ ⟨x₃, y₃, tp₃, tq₃, nn₃, cs₃, l₃, rfl, hy3, hy3', hL3, hlen3, hok3, hoff3⟩ D h₃ tk F₂ N₂ off
    obtain ⟨crs, rfl, hcrs⟩ := hL3.refs
    have offS : ∀ p ∈ (D, LCg.lst (crs.map Value.ref)) :: (L' + 1, oc) :: l₃, p.1 ≠ src := fun p hp => by
      revert hp; revert p
      exact all_cons (Ne.symm off.1) (all_cons (hcs) (fun p hp => hoff3 p hp))
    have sub : ∀ (x y : Int) (tp tq : Tok) (nn : Nat), ∀ p ∈ (D, LCg.lst (crs.map Value.ref)) :: (L' + 1, oc) :: l₃, p ∈ (src, srcO x y tp tq nn) :: (D, LCg.lst (crs.map Value.ref)) :: (L' + 1, oc) :: l₃ := fun _ _ _ _ _ p hp => List.mem_cons_of_mem _ hp
    have NS3 : News g L' h₃ [(src, srcO x₃ y₃ tp₃ tq₃ nn₃)] := News.sub N₂ (by simp)
    have NR3 : News g L' h₃ ((D, LCg.lst (crs.map Value.ref)) :: (L' + 1, oc) :: l₃) := News.sub N₂ (by repeat' first | refine all_cons ?_ ?_ | exact List.Mem.head _ | exact List.Mem.tail _ (List.Mem.head _) | exact List.Mem.tail _ (List.Mem.tail _ (List.Mem.head _)) | exact List.Mem.tail _ (List.Mem.tail _ (List.Mem.tail _ (List.Mem.head _))) | exact List.Mem.tail _ (List.Mem.tail _ (List.Mem.tail _ (List.Mem.tail _ (List.Mem.head _)))) | exact List.Mem.tail _ (List.Mem.tail _ (List.Mem.tail _ (List.Mem.tail _ (List.Mem.tail _ (List.Mem.head _))))) | exact List.Mem.tail _ (List.Mem.tail _ (List.Mem.tail _ (List.Mem.tail _ (List.Mem.tail _ (List.Mem.tail _ (List.Mem.head _)))))) | exact List.Mem.tail _ (List.Mem.tail _ (List.Mem.tail _ (List.Mem.tail _ (List.Mem.tail _ (List.Mem.tail _ (List.Mem.tail _ (List.Mem.head _))))))) | exact List.Mem.tail _ (List.Mem.tail _ (List.Mem.tail _ (List.Mem.tail _ (List.Mem.tail _ (List.Mem.tail _ (List.Mem.tail _ (List.Mem.tail _ (List.Mem.head _)))))))) | exact fun _ h => h | exact fun _ h => List.Mem.tail _ (h) | exact fun _ h => List.Mem.tail _ (List.Mem.tail _ (h)) | exact fun _ h => List.Mem.tail _ (List.Mem.tail _ (List.Mem.tail _ (h))) | exact fun _ h => List.Mem.tail _ (List.Mem.tail _ (List.Mem.tail _ (List.Mem.tail _ (h)))) | exact fun _ h => List.Mem.tail _ (List.Mem.tail _ (List.Mem.tail _ (List.Mem.tail _ (List.Mem.tail _ (h))))) | exact fun _ h => List.Mem.tail _ (List.Mem.tail _ (List.Mem.tail _ (List.Mem.tail _ (List.Mem.tail _ (List.Mem.tail _ (h)))))) | exact fun _ h => List.Mem.tail _ (List.Mem.tail _ (List.Mem.tail _ (List.Mem.tail _ (List.Mem.tail _ (List.Mem.tail _ (List.Mem.tail _ (h))))))) | exact fun _ h => List.Mem.tail _ (List.Mem.tail _ (List.Mem.tail _ (List.Mem.tail _ (List.Mem.tail _ (List.Mem.tail _ (List.Mem.tail _ (List.Mem.tail _ (h)))))))) | exact all_nil)
    dsimp only
    k_steps
    rw [show (3 : Int) * (side : Int) = ((3 * side : Nat) : Int) by omega]
    refine unhalt ?_
    refine take_call (top := 3 * side) (by k_asm) F₂ (by k_asm) (by k_asm) (by first | exact rfl | assumption) NS3 (rm hd rfl) (rm hu rfl) hy3 hy3' (by omega) (by omega) ?_
    intro k₄ t₄ x₄ y₄ tp₄ tq₄ nn₄ h₄ tk₄ hk4 hy4 hy4' F₄ NS₄ KP₄
    have N₄ := News.kpb NR3 KP₄ offS NS₄
    have NR4 := News.sub N₄ (sub _ _ _ _ _)
    clear F₂ N₂ NS3 NR3
    k_sweep
    k_steps
    rw [show (4 : Int) * (side : Int) = ((4 * side : Nat) : Int) by omega]
    refine unhalt ?_
    refine take_call (top := 4 * side) (by k_asm) F₄ (by k_asm) (by k_asm) (by first | exact rfl | assumption) NS₄ (rm hd rfl) (rm hu rfl) hy4 hy4' (by omega) (by omega) ?_
    intro k₅ t₅ x₅ y₅ tp₅ tq₅ nn₅ h₅ tk₅ hk5 hy5 hy5' F₅ NS₅ KP₅
    have N₅ := News.kpb NR4 KP₅ offS NS₅
    clear F₄ N₄ NS₄ NR4
    k_sweep
    k_steps
    rw [show (1 : Int) + (k₄ : Int) = ((1 + k₄ : Nat) : Int) by omega, show (1 : Int) + (k₅ : Int) = ((1 + k₅ : Nat) : Int) by omega]
    refine unhalt ?_
    refine frameobj_call (d := ⟨1 + k₅, 1 + k₄, side, cs₃⟩) (crs := crs) (by k_asm) (by k_asm) (by k_asm) (by k_asm) (by first | exact rfl | assumption) N₅ (rm hd rfl) (rm hu rfl) ?_
    intro fr r h₆ tk₆ hlc hcr F₆ N₆ o₆ ne₆
    clear F₅ N₅ NS₅
    k_sweep
    k_steps
    rename News h₀ L _ _ => kN
    have os := o₆ (src, srcO x₅ y₅ tp₅ tq₅ nn₅) (by simp)
    refine h fr ⟨1 + k₅, 1 + k₄, side, cs₃⟩ ((fr, instObj 146 r.dx) :: (r.dx, dictOf (frEs w ⟨1 + k₅, 1 + k₄, side, cs₃⟩ r) 6) :: (D, LCg.lst (crs.map Value.ref)) :: l₃) x₅ y₅ tp₅ tq₅ nn₅ _ _ ?_ ⟨by dsimp only; omega, by dsimp only; omega⟩ (fun p hp => ?_) (fun h' hl => ?_) hy5 hy5' ?_ (News.sub kN (by simp)) (KpB.trans KP (Kp.but (Fr.keep (by k_asm))))
    · refine ⟨by dsimp only; omega, by dsimp only; omega, by dsimp only; omega, by dsimp only; omega, by dsimp only; omega, by dsimp only; omega, ?_, by dsimp only; omega, hok3⟩
      intro e
      dsimp only at e
      rw [e] at hlen3
      simp at hlen3
      omega
    · have hz := N₆ p (by simp only [List.mem_cons] at hp ⊢; rcases hp with h | h | h | h <;> simp [h])
      refine ⟨hz.1, fresh_kpb KP ?_ hz.2.2⟩
      simp only [List.mem_cons] at hp
      rcases hp with rfl | rfl | rfl | hp
      · exact Ne.symm os.1
      · exact Ne.symm os.2
      · exact Ne.symm off.1
      · exact hoff3 p hp
    · refine ⟨r, inst_of (hl _ (List.mem_cons_self ..)) (hl _ (List.mem_cons_of_mem _ (List.mem_cons_self ..))), ?_, hcr ▸ hcrs h' fun p hp => hl p (by simp [hp])⟩
      rw [hlc, hcr]
      exact ⟨_, hl (D, LCg.lst (crs.map Value.ref)) (by simp), rfl, _, rfl⟩
    · k_asm
end
/-- what the law counts of a component: wide and high -/
abbrev Sz := Nat × Nat × Nat
abbrev szO (x : Sz) (t : Nat → Tok) : Obj := listOf [.int (x.1 : Nat) (t 0), .int (x.2.1 : Nat) (t 1), .int (x.2.2 : Nat) (t 2)].toArray 0
def wideOf (d : Fm) (x : Nat × Nat) : Sz := (d.pw x, d.bw x, d.mx * x.1)
def highOf (d : Fm) (x : Nat × Nat) : Sz := (d.ph x, d.bh x, d.my * x.2)
noncomputable def SizesLed (l : List (Addr × Obj)) (d : Fm) : List Value → List (Nat × Nat) → Prop
  | [], [] => True
  | v :: vs, x :: xs => (∃ a b c n t u, v = .ref a ∧ (a, listOf [.ref b, .ref c].toArray n) ∈ l ∧ (b, szO (wideOf d x) t) ∈ l ∧ (c, szO (highOf d x) u) ∈ l) ∧ SizesLed l d vs xs
  | _, _ => False
theorem SizesLed.mono {l l' : List (Addr × Obj)} {d : Fm} (k : ∀ p ∈ l, p ∈ l') : ∀ {vs : List Value} {xs : List (Nat × Nat)}, SizesLed l d vs xs → SizesLed l' d vs xs
  | [], [], _ => trivial
  | _ :: _, _ :: _, ⟨⟨a, b, c, n, t, u, e, h1, h2, h3⟩, q⟩ => ⟨⟨a, b, c, n, t, u, e, k _ h1, k _ h2, k _ h3⟩, SizesLed.mono k q⟩
  | [], _ :: _, h => h.elim
  | _ :: _, [], h => h.elim
theorem SizesLed.snoc {l : List (Addr × Obj)} {d : Fm} {x : Nat × Nat} {a b c : Addr} {n : Nat} {t u : Nat → Tok} : ∀ {vs : List Value} {xs : List (Nat × Nat)}, SizesLed l d vs xs → (a, listOf [.ref b, .ref c].toArray n) ∈ l → (b, szO (wideOf d x) t) ∈ l → (c, szO (highOf d x) u) ∈ l → SizesLed l d (vs ++ [.ref a]) (xs ++ [x])
  | [], [], _, h1, h2, h3 => ⟨⟨a, b, c, n, t, u, rfl, h1, h2, h3⟩, trivial⟩
  | _ :: _, _ :: _, ⟨y, q⟩, h1, h2, h3 => ⟨y, SizesLed.snoc q h1 h2 h3⟩
  | [], _ :: _, h, _, _, _ => h.elim
  | _ :: _, [], h, _, _, _ => h.elim
theorem SizesLed.length {l : List (Addr × Obj)} {d : Fm} : ∀ {vs : List Value} {xs : List (Nat × Nat)}, SizesLed l d vs xs → vs.length = xs.length
  | [], [], _ => rfl
  | _ :: _, _ :: _, h => congrArg (· + 1) (SizesLed.length h.2)
  | [], _ :: _, h => h.elim
  | _ :: _, [], h => h.elim
theorem SizesLed.get {l : List (Addr × Obj)} {d : Fm} : ∀ {vs : List Value} {xs : List (Nat × Nat)}, SizesLed l d vs xs → ∀ {i : Nat} {x : Nat × Nat}, xs[i]? = some x →
    ∃ a b c n t u, vs[i]? = some (.ref a) ∧ (a, listOf [.ref b, .ref c].toArray n) ∈ l ∧ (b, szO (wideOf d x) t) ∈ l ∧ (c, szO (highOf d x) u) ∈ l
  | [], [], _, _, _, e => by cases e
  | v :: _, _ :: _, ⟨⟨a, b, c, n, t, u, e', h1, h2, h3⟩, _⟩, 0, _, e => by cases e; exact ⟨a, b, c, n, t, u, by rw [e']; rfl, h1, h2, h3⟩
  | _ :: vs, _ :: xs, ⟨_, q⟩, i + 1, x, e => by
    rw [List.getElem?_cons_succ] at e ⊢
    exact SizesLed.get q e
  | [], _ :: _, h, _, _, _ => h.elim
  | _ :: _, [], h, _, _, _ => h.elim
def SizesAt (d : Fm) (h : Heap) (sz : Addr) : Prop := ∃ vs n l, h.get? sz = some (listOf vs.toArray n) ∧ SizesLed l d vs d.cs ∧ ∀ p ∈ l, h.get? p.1 = some p.2
theorem SizesAt.kp {d : Fm} {h h' : Heap} {sz : Addr} (k : Kp h h') (a : SizesAt d h sz) : SizesAt d h' sz := let ⟨vs, n, l, e, q, r⟩ := a; ⟨vs, n, l, k _ _ e, q, fun p hp => k _ _ (r p hp)⟩
theorem sizes_turn {g h : Heap} {L : Addr} {s : Shared} {tk : Nat} {m m₀ : Str → Option Value} {st : List Str} {I fnd a b c : Addr} {oI : Obj} {vs : List Value} {n na i : Nat} {tl : List (Addr × Obj)} {d : Fm} {x : Nat × Nat} {t u : Nat → Tok}
    (F : Fr g L h m) (N : News g L h ((a, listOf [.ref b, .ref c].toArray na) :: (c, szO (highOf d x) u) :: (b, szO (wideOf d x) t) :: (I, oI) :: (fnd, listOf (vs.toArray.push (.ref a)) (n + 1)) :: tl))
    (hS : SizesLed tl d vs (d.cs.take i)) (hx : d.cs[i]? = some x) (ha : c < a ∧ b < a ∧ I < a ∧ fnd < a ∧ AllLt a tl) (hIc : @Ne Nat I c) (hfc : @Ne Nat fnd c) (hIb : @Ne Nat I b) (hfb : @Ne Nat fnd b) (hfI : @Ne Nat fnd I)
    (ht : ∀ p ∈ tl, p.1 ≠ I) (hoff : ∀ p ∈ tl, p.1 ≠ fnd) (hO : Ovr st m₀ m) :
    TurnEnd g L s I oI (fun m' nx' => Ovr st m₀ m' ∧ ∃ vs n tl, nx' = (fnd, listOf vs.toArray n) :: tl ∧ SizesLed tl d vs (d.cs.take (i + 1)) ∧ ∀ p ∈ tl, p.1 ≠ fnd) .next { s with heap := h, toks := tk } := by
  obtain ⟨ac, ab, aI, af, -⟩ := ha
  rw [List.push_toArray] at N
  refine TurnEnd.intro F N ((fnd, listOf (vs ++ [Value.ref a]).toArray (n + 1)) :: (a, listOf [.ref b, .ref c].toArray na) :: (c, szO (highOf d x) u) :: (b, szO (wideOf d x) t) :: tl) (fun p hp => ?_) (fun p hp => ?_) ⟨hO, _, _, _, rfl, ?_, fun p hp => ?_⟩
  · revert hp; revert p
    exact all_cons (.tail _ (.tail _ (.tail _ (.head _)))) (all_cons (.tail _ (.tail _ (.tail _ (.tail _ (.head _))))) (all_cons (.head _) (all_cons (.tail _ (.head _)) (all_cons (.tail _ (.tail _ (.head _))) (fun p hp => .tail _ (.tail _ (.tail _ (.tail _ (.tail _ hp)))))))))
  · revert hp; revert p
    exact all_cons (hfI) (all_cons (Ne.symm (Nat.ne_of_lt aI)) (all_cons (Ne.symm hIc) (all_cons (Ne.symm hIb) (fun p hp => ht p hp))))
  · rw [List.take_add_one, hx]
    have h0 := hS.mono (l' := (a, listOf [.ref b, .ref c].toArray na) :: (c, szO (highOf d x) u) :: (b, szO (wideOf d x) t) :: tl) fun p hp => List.mem_cons_of_mem _ (List.mem_cons_of_mem _ (List.mem_cons_of_mem _ hp))
    exact SizesLed.snoc (x := x) (a := a) (b := b) (c := c) (n := na) (t := t) (u := u) h0 (.head _) (.tail _ (.tail _ (.head _))) (.tail _ (.head _))
  · revert hp; revert p
    exact all_cons (Ne.symm (Nat.ne_of_lt af)) (all_cons (Ne.symm hfc) (all_cons (Ne.symm hfb) (fun p hp => hoff p hp)))
section
variable {prog : Program} {w : World} {p : Program} {loose : List Str} {mean : ExcName → Option Value} {mg mb : Str → Option Value} {dp un : Nat} {gd : Option (List Code)} {cn : Str} {cs : Scope} {a : Addr} {ccd : Value} {cl : List (Str × Addr)} {outer : List Env} {A₀ : Around} {base h₀ : Heap} {L : Addr} {m : Str → Option Value} {Q E : Value → Shared → Prop} {news : List (Addr × Obj)} {s : Shared}

theorem sizes_call {fr : Addr} {d : Fm} (B : Below A₀ base outer h₀) (F : Fr h₀ L s.heap m) (X : (hd.heap_1 w.params).In h₀) (T : Top p loose mean mg mb h₀) (hk : cs.kind = .function) (hd : dp ≤ 930) (hu : un ≤ 9300)
    (hf : FrameAt w s.heap fr d) (ok : d.Ok)
    (h : ∀ (sz : Addr) (l : List (Addr × Obj)) (h' : Heap) tk', (∀ p ∈ l, h'.get? p.1 = some p.2 ∧ s.heap.get? p.1 = none) → (∀ h : Heap, (∀ p ∈ l, h.get? p.1 = some p.2) → SizesAt d h sz) → Fr h₀ L h' m → Kp s.heap h' → Q (.ref sz) { s with heap := h', toks := tk' }) :
    wpAny (model prog w) (ktrTop dp un gd cn cs L a ccd cl outer) (call (.ref 223) [.ref fr]) Q E s := by
  refine wpAny_call ?_
  refine code_def0 (binds := [(Str.ofString "frame", .ref fr)]) B F X T rfl rfl hk (by k_is) (by k_is) (rl hd rfl) (BindsTo.of_eq rfl) (locs rfl) ?_ rfl rfl rfl (by decide)
  intro g L' h₁ KP FG F₁ N₁ B₁ X₁ T₁ env' A' q' e'
  obtain ⟨r, fi⟩ := hf.kp KP
  have hI := fi.inst
  have hlen := fi.size
  have hn1 := ok.n1
  have hn2 := ok.n2
  k_steps
  refine unhalt ?_
  refine LCg.ListComp_U (cl := []) (by k_asm) rfl (by decide) rfl (by decide) rfl ?_
  k_steps
  refine unhalt ?_
  refine LCg.CompSrc.base rfl (by k_asm) News.nil fi.list (by rw [hlen, sizeLine_eq]; have := ok.len; omega) (fun g₂ => compRest_of (n := (r.crs.map Value.ref).toArray.size)
    (fun i ys nw => IntsAre ys ((d.cs.take i).map fun x => (x.1 : Int)) ∧ nw = []) ?step ?fin _ 0 (Nat.zero_add _) [] [] ⟨.nil, rfl⟩)
  case step =>
    rintro i ys _ hi ⟨hys, rfl⟩ v I oI C oC D m₂ h tk E' hP hN hx F₂ N₂ off ne
    have hi' : i < d.cs.length := hlen ▸ hi
    have hxi : d.cs[i]? = some d.cs[i] := List.getElem?_eq_getElem hi'
    obtain ⟨c, r', hc, hC⟩ := fi.item hxi
    obtain rfl : .ref c = v := Option.some.inj (hc.symm.trans hP)
    k_steps
    refine unhalt ?_
    refine LCg.CompEnd.intro F₂ N₂ [] (fun _ h => h) trivial (.inl fi.list) ⟨?_, rfl⟩
    rw [List.take_add_one, hxi, List.map_append]
    exact hys.append (IntsAre.cons _ _ .nil)
  case fin =>
    rintro ys _ ⟨hys, rfl⟩ D h₃ tk F₂ N₂ off
    rw [hlen, List.take_length] at hys
    have hpos : 0 < (d.cs.map fun x => (x.1 : Int)).length := by rw [List.length_map]; exact List.length_pos_iff.mpr ok.ne
    dsimp only
    k_steps
    rename (_ ∈ List.map _ _) => hM
    have eA := most_eq (f := fun x : Nat × Nat => x.1) hM (by assumption)
    subst eA
    clear hM hpos hys off
    refine unhalt ?_
    refine LCg.ListComp_U (cl := []) (by k_asm) rfl (by decide) rfl (by decide) rfl ?_
    k_steps
    refine unhalt ?_
    refine LCg.CompSrc.base rfl (by k_asm) News.nil fi.list (by rw [hlen, sizeLine_eq]; have := ok.len; omega) (fun g₂ => compRest_of (n := (r.crs.map Value.ref).toArray.size)
      (fun i ys nw => IntsAre ys ((d.cs.take i).map fun x => (x.2 : Int)) ∧ nw = []) ?step2 ?fin2 _ 0 (Nat.zero_add _) [] [] ⟨.nil, rfl⟩)
    case step2 =>
      rintro i ys _ hi ⟨hys, rfl⟩ v I oI C oC D m₂ h tk E' hP hN hx F₂ N₂ off ne
      have hi' : i < d.cs.length := hlen ▸ hi
      have hxi : d.cs[i]? = some d.cs[i] := List.getElem?_eq_getElem hi'
      obtain ⟨c, r', hc, hC⟩ := fi.item hxi
      obtain rfl : .ref c = v := Option.some.inj (hc.symm.trans hP)
      k_steps
      refine unhalt ?_
      refine LCg.CompEnd.intro F₂ N₂ [] (fun _ h => h) trivial (.inl fi.list) ⟨?_, rfl⟩
      rw [List.take_add_one, hxi, List.map_append]
      exact hys.append (IntsAre.cons _ _ .nil)
    case fin2 =>
      rintro ys _ ⟨hys, rfl⟩ D₂ h₃ tk F₂ N₂ off
      rw [hlen, List.take_length] at hys
      have hpos : 0 < (d.cs.map fun x => (x.2 : Int)).length := by rw [List.length_map]; exact List.length_pos_iff.mpr ok.ne
      dsimp only
      k_steps
      rename (_ ∈ List.map _ _) => hM
      have eD := most_eq (f := fun x : Nat × Nat => x.2) hM (by assumption)
      subst eD
      clear hM hpos hys off
      refine unhalt ?_
      rename_i fnd _ ltD _ NB _ _
      have NB' := News.sub (l' := [(fnd, listOf #[] 0)]) NB (by simp)
      clear NB ltD
      refine For_list [Str.ofString "one", Str.ofString "wide"] (by k_asm) rfl rfl rfl ?_
      k_steps
      refine unhalt ⟨_, _, _, _, fun i nx => ∃ vs n tl, nx = (fnd, listOf vs.toArray n) :: tl ∧ SizesLed tl d vs (d.cs.take i) ∧ (∀ p ∈ tl, p.1 ≠ fnd), rfl, by k_asm, by k_asm, fun _ _ _ => .inl fi.list, ⟨[], 0, [], rfl, trivial, fun _ h => (nomatch h)⟩, ?_, ?_⟩
      · rintro i u _ v I oI h tk hit ⟨vs, n, tl, rfl, hS, hoff⟩ off F₃ N₃ Qt hQ
        have hi' : i < d.cs.length := by rw [← hlen]; exact (Array.getElem?_eq_some_iff.mp hit).1
        have hxi : d.cs[i]? = some d.cs[i] := List.getElem?_eq_getElem hi'
        have hxm := ok.each _ (List.mem_of_getElem? hxi)
        obtain ⟨c, r', hc, hC⟩ := fi.item hxi
        obtain rfl : .ref c = v := Option.some.inj (hc.symm.trans hit)
        have hfI : @Ne Nat fnd I := off _ (List.mem_cons_self ..)
        have hA1 := ok.A1
        have hD1 := ok.D1
        k_steps
        refine unhalt ?_
        refine counted_call (by k_asm) F₃ (by k_asm) (by k_asm) (by first | exact rfl | assumption) (rm hd rfl) (rm hu rfl) ok.w2 hxm.2.1 hA1.1 hA1.2 hn1 hn2 ?_
        intro D₄ t₄ t₅ t₆ h₄ tk₄ F₄ KP₄ fr₄ hD₄
        obtain ⟨N₄, l₄⟩ := news_add (by k_asm) N₃ KP₄ fr₄ hD₄
        have l₄I : @Ne Nat I D₄ := l₄ (I, oI) (by simp)
        have l₄f : @Ne Nat fnd D₄ := l₄ (fnd, _) (List.mem_cons_of_mem _ (List.mem_cons_self ..))
        have l₄t : ∀ p ∈ tl, p.1 ≠ D₄ := fun p hp => l₄ p (by simp [hp])
        clear F₃ N₃ l₄
        k_sweep
        k_steps
        rename News g _ _ _ => NB
        refine unhalt ?_
        refine counted_call (by k_asm) (by k_asm) (by k_asm) (by k_asm) (by first | exact rfl | assumption) (rm hd rfl) (rm hu rfl) (Nat.le_trans ok.h2 (by decide)) (Nat.le_trans hxm.2.2.2 (by decide)) hD1.1 (Nat.le_trans hD1.2 (by decide)) hn1 hn2 ?_
        intro D₅ t₇ t₈ t₉ h₅ tk₅ F₅ KP₅ fr₅ hD₅
        obtain ⟨N₅, l₅⟩ := news_add (by k_asm) NB KP₅ fr₅ hD₅
        have l₅I : @Ne Nat I D₅ := l₅ (I, oI) (by simp)
        have l₅f : @Ne Nat fnd D₅ := l₅ (fnd, _) (List.mem_cons_of_mem _ (List.mem_cons_of_mem _ (List.mem_cons_self ..)))
        have l₅4 : @Ne Nat D₄ D₅ := l₅ (D₄, _) (List.mem_cons_self ..)
        have l₅t : ∀ p ∈ tl, p.1 ≠ D₅ := fun p hp => l₅ p (by simp [hp])
        have hvl : vs.length ≤ 3 := by
          rw [hS.length, List.length_take]
          exact Nat.le_trans (Nat.min_le_right _ _) ok.len
        clear NB l₅
        k_sweep
        k_steps
        refine hQ _ ?_
        rename News g _ _ _ => NB
        rename (_ < _ ∧ _) => lt5
        exact sizes_turn (d := d) (x := d.cs[i]) (i := i) (t := fun i => [t₄, t₅, t₆].getD i 0) (u := fun i => [t₇, t₈, t₉].getD i 0) (by k_asm) NB hS hxi lt5 l₅I l₅f l₄I l₄f hfI (fun p hp => off p (List.mem_cons_of_mem _ hp)) hoff ((Ovr.of.set (by decide)).set (by decide))
      · rintro u _ hh tk ⟨vs, n, tl, rfl, hS, hoff⟩ F₃ N₃
        k_steps
        rename News g _ _ _ => gN
        rw [hlen, show d.cs.take d.cs.length = d.cs from List.take_length] at hS
        refine h fnd ((fnd, listOf vs.toArray n) :: tl) _ _ (fun p hp => ⟨(gN _ hp).1, fresh_of KP gN hp⟩) (fun h' hl => ⟨vs, n, tl, hl _ (List.mem_cons_self ..), hS, fun p hp => hl p (List.mem_cons_of_mem _ hp)⟩) ?_ (KP.trans ?_)
        · k_asm
        · exact Fr.keep (by k_asm)
end
theorem ne_pair {prog : Program} {w : World} {A : Around} {E : Value → Shared → Prop} {s : Shared} {a b : Addr} {x y x' y' : Int} {t u t' u' : Tok} {oa ob : Obj} {na nb : Nat} {Q : Value → Shared → Prop} (ha : s.heap.get? a = some oa) (hb : s.heap.get? b = some ob)
    (ca : oa.cls = .type "tuple") (cb : ob.cls = .type "tuple") (da : oa.data = .seq #[.int x t, .int y u] na) (db : ob.data = .seq #[.int x' t', .int y' u'] nb) (hx : x = x') (hy : y = y') (hu : A.units + 64 < cLine) (h : Q (.bool false) s) :
    wpAny (model prog w) A (compareOp .NotEq (.ref a) (.ref b)) Q E s := by
  subst hx hy
  refine ne_dataH (reads_tuple_at ha ca da (ReadsAll.cons (Reads.int _ _) (ReadsAll.cons (Reads.int _ _) ReadsAll.nil))) (reads_tuple_at hb cb db (ReadsAll.cons (Reads.int _ _) (ReadsAll.cons (Reads.int _ _) ReadsAll.nil))) ?_ ?_ hu ?_
  · simp [SeqAt.shaped, PyData.canLay0, PyData.canLayAll0, PyData.depth, PyData.depthAll]
  · simp [SeqAt.shaped, PyData.canLay0, PyData.canLayAll0, PyData.depth, PyData.depthAll]
  · simpa [PyData.eqv, PyData.eqvAll] using h
section
variable {prog : Program} {w : World} {p : Program} {loose : List Str} {mean : ExcName → Option Value} {mg mb : Str → Option Value} {dp un : Nat} {gd : Option (List Code)} {cn : Str} {cs : Scope} {a : Addr} {ccd : Value} {cl : List (Str × Addr)} {outer : List Env} {A₀ : Around} {base h₀ : Heap} {L : Addr} {m : Str → Option Value} {Q E : Value → Shared → Prop} {news : List (Addr × Obj)} {s : Shared}

theorem sizes_right_call {fr sz : Addr} {d : Fm} (B : Below A₀ base outer h₀) (F : Fr h₀ L s.heap m) (X : (hd.heap_1 w.params).In h₀) (T : Top p loose mean mg mb h₀) (hk : cs.kind = .function) (hd : dp ≤ 910) (hu : un ≤ 9100)
    (hf : FrameAt w s.heap fr d) (ok : d.Ok) (hs : SizesAt d s.heap sz)
    (h : ∀ (h' : Heap) tk', Fr h₀ L h' m → Kp s.heap h' → Q (.bool true) { s with heap := h', toks := tk' }) :
    wpAny (model prog w) (ktrTop dp un gd cn cs L a ccd cl outer) (call (.ref 230) [.ref fr, .ref sz]) Q E s := by
  refine wpAny_call ?_
  refine code_def0 (binds := [(Str.ofString "frame", .ref fr), (Str.ofString "sizes", .ref sz)]) B F X T rfl rfl hk (by k_is) (by k_is) (rl hd rfl) (BindsTo.of_eq rfl) (locs rfl) ?_ rfl rfl rfl (by decide)
  intro g L' h₁ KP FG F₁ N₁ B₁ X₁ T₁ env' A' q' e'
  have hcl : True → A'.units + 64 < cLine := fun _ => by show un + 3 + 64 < 9900; omega
  have hf' := hf.kp KP
  obtain ⟨r, fi⟩ := hf.kp KP
  have hI := fi.inst
  obtain ⟨vs, n, l, hsz, hS, hl⟩ := hs.kp KP
  have hlen := hS.length
  have hlen3 := ok.len
  have hlz : g.IsList sz vs.toArray := ⟨_, hsz, rfl, _, rfl⟩
  k_steps
  refine unhalt ?_
  refine For_range [Str.ofString "place", Str.ofString "wide", Str.ofString "high"] (by k_asm) rfl rfl rfl ?_
  k_steps
  refine unhalt ?_
  refine len_at (list_up hlz (by k_asm)) (by rw [List.size_toArray, hlen]) (by omega) ?_
  k_steps
  refine unhalt ⟨_, d.cs.length, _, _, _, _, _, fun _ nx => nx = [], rfl, by k_asm, by omega, by k_asm, News.nil, rfl, ?_, ?_⟩
  · rintro i u _ t I oI h tk hi rfl off F₃ N₃ Qt hQ
    have hxi : d.cs[i]? = some d.cs[i] := List.getElem?_eq_getElem hi
    obtain ⟨a, b, c, na, tw, th, hv, ha, hb, hc⟩ := hS.get hxi
    have la : g.IsList a #[.ref b, .ref c] := ⟨_, hl _ ha, rfl, _, rfl⟩
    have lb : g.IsList b #[.int ((d.pw d.cs[i] : Nat) : Int) (tw 0), .int ((d.bw d.cs[i] : Nat) : Int) (tw 1), .int ((d.mx * d.cs[i].1 : Nat) : Int) (tw 2)] := ⟨_, hl _ hb, rfl, _, rfl⟩
    have lc : g.IsList c #[.int ((d.ph d.cs[i] : Nat) : Int) (th 0), .int ((d.bh d.cs[i] : Nat) : Int) (th 1), .int ((d.my * d.cs[i].2 : Nat) : Int) (th 2)] := ⟨_, hl _ hc, rfl, _, rfl⟩
    k_steps
    refine unhalt ?_
    refine item_at (list_up hlz (by k_asm)) rfl (by omega) (by simpa using hv) ?_
    k_steps
    refine kun_list (by k_asm) (by k_asm) (list_up la (by k_asm)) rfl rfl rfl ?_
    intro h₄ F₄ N₄
    clear F₃ N₃
    k_sweep
    k_steps
    refine unhalt ?_
    refine plane_size_call (by k_asm) (by k_asm) (by k_asm) (by k_asm) (by first | exact rfl | assumption) (rm hd rfl) (rm hu rfl) (FrameAt.kp (kp_fr (by k_asm)) hf') ok hxi ?_
    intro D₅ t₅ t₆ h₅ tk₅ F₅ KP₅ fr₅ hD₅
    obtain ⟨N₅, l₅⟩ := news_add (by k_asm) (by k_asm) KP₅ fr₅ hD₅
    k_sweep
    k_steps
    rename News g _ _ _ => NB
    have hA := (NB _ (.tail _ (.head _))).1
    have hB := (NB _ (.head _)).1
    refine ne_pair hA hB (by exact rfl) (by exact rfl) (by exact rfl) (by exact rfl) (by exact rfl) (by exact rfl) (hcl trivial) ?_
    have NI := News.sub (l' := [(I, oI)]) NB (fun p hp => .tail _ (.tail _ hp))
    clear NB hA hB
    k_sweep
    k_steps
    refine unhalt ?_
    refine blocks_call (by k_asm) (by k_asm) (by k_asm) (by k_asm) (by first | exact rfl | assumption) (rm hd rfl) (rm hu rfl) (FrameAt.kp (kp_fr (by k_asm)) hf') ok hxi ?_
    intro D₆ t₇ t₈ h₆ tk₆ F₆ KP₆ fr₆ hD₆
    obtain ⟨N₆, l₆⟩ := news_add (by k_asm) (by k_asm) KP₆ fr₆ hD₆
    k_sweep
    k_steps
    rename News g _ _ _ => NB
    have hA := (NB _ (.tail _ (.head _))).1
    have hB := (NB _ (.head _)).1
    refine ne_pair hA hB (by exact rfl) (by exact rfl) (by exact rfl) (by exact rfl) (by exact rfl) (by exact rfl) (hcl trivial) ?_
    have NI := News.sub (l' := [(I, oI)]) NB (fun p hp => .tail _ (.tail _ hp))
    clear NB hA hB
    k_sweep
    k_steps
    refine unhalt ?_
    refine padded_call (by k_asm) (by k_asm) (by k_asm) (by k_asm) (by first | exact rfl | assumption) (rm hd rfl) (rm hu rfl) (FrameAt.kp (kp_fr (by k_asm)) hf') ok hxi ?_
    intro D₇ t₉ ta h₇ tk₇ F₇ KP₇ fr₇ hD₇
    obtain ⟨N₇, l₇⟩ := news_add (by k_asm) (by k_asm) KP₇ fr₇ hD₇
    k_sweep
    k_steps
    rename News g _ _ _ => NB
    have hA := (NB _ (.tail _ (.head _))).1
    have hB := (NB _ (.head _)).1
    refine ne_pair hA hB (by exact rfl) (by exact rfl) (by exact rfl) (by exact rfl) (by simp) (by simp) (hcl trivial) ?_
    have NI := News.sub (l' := [(I, oI)]) NB (fun p hp => .tail _ (.tail _ hp))
    clear NB hA hB
    k_sweep
    k_steps
    exact hQ _ (TurnEnd.intro (by k_asm) (by k_asm) [] (fun _ h => h) (fun _ h => (nomatch h)) ⟨((Ovr.of.set (by decide)).set (by decide)).set (by decide), rfl⟩)
  · rintro u _ hh tk rfl F₃ N₃
    k_steps
    refine h _ _ ?_ (KP.trans ?_)
    · k_asm
    · exact Fr.keep (by k_asm)
end
theorem off1_mem {D : Addr} : ∀ {l : List (Addr × Obj)}, LCg.Off1 D l → ∀ p ∈ l, p.1 ≠ D
  | [], _, _, h => nomatch h
  | _ :: _, x, p, h => by
    rcases List.mem_cons.mp h with rfl | h
    · exact x.1
    · exact off1_mem x.2 p h
/-- one turn of the list of single blocks -/
theorem one_turn {g h : Heap} {L I C D D2 T W V : Addr} {oI oC ow o2 : Obj} {ys : List Value} {l : List (Addr × Obj)} {m : Str → Option Value} {s : Shared} {tk i : Nat} {f : Nat → List Blk} {dt : Data} {z1 z2 z3 z4 : Int} {t1 t2 t3 t4 : Tok} (b : Blk)
    (F : Fr g L h m) (N : News g L h ((D2, listOf #[.ref T] 0) :: (T, tupO [.int z1 t1, .int z2 t2, .int z3 t3, .int z4 t4]) :: (I, oI) :: (C, oC) :: (D, LCg.lst ys) :: (W, ow) :: (V, o2) :: l))
    (off : LCg.Off3 I C D ((W, ow) :: (V, o2) :: l)) (l1 : I < T ∧ C < T ∧ D < T ∧ W < T ∧ V < T ∧ AllLt T l) (l2 : T < D2 ∧ I < D2 ∧ C < D2 ∧ D < D2 ∧ W < D2 ∧ V < D2 ∧ AllLt D2 l)
    (dw : ow.data = dt) (hL : Lists l ys ((List.range i).map f)) (hoff : ∀ p ∈ l, p.1 ≠ V ∧ p.1 ≠ W) (hb : (b.1 : Int) = z1 ∧ (b.2.1 : Int) = z2 ∧ (b.2.2.1 : Int) = z3 ∧ (b.2.2.2 : Int) = z4) (hf : f i = [b]) :
    LCg.CompEnd g L m s I oI C oC D (LCg.lst ys) (fun _ => True) (fun y news' => ∃ ow l, news' = (W, ow) :: (V, o2) :: l ∧ ow.data = dt ∧ Lists l (ys ++ [y]) ((List.range (i + 1)).map f) ∧ ∀ p ∈ l, p.1 ≠ V ∧ p.1 ≠ W) (.ref D2) { s with heap := h, toks := tk } := by
  obtain ⟨rfl, rfl, rfl, rfl⟩ := hb
  obtain ⟨a1, a2, a3, a4, a5, -⟩ := l1
  obtain ⟨b1, b2, b3, b4, b5, b6, -⟩ := l2
  have e : tupO [.int (b.1 : Int) t1, .int (b.2.1 : Int) t2, .int (b.2.2.1 : Int) t3, .int (b.2.2.2 : Int) t4] = blkO b (fun i => [t1, t2, t3, t4].getD i 0) := rfl
  rw [e] at N
  refine LCg.CompEnd.intro F N ((W, ow) :: (V, o2) :: (D2, listOf #[.ref T] 0) :: (T, blkO b (fun i => [t1, t2, t3, t4].getD i 0)) :: l) (fun p hp => ?_) ⟨off.1, off.2.1, ⟨Ne.symm (Nat.ne_of_lt b2), Ne.symm (Nat.ne_of_lt b3), Ne.symm (Nat.ne_of_lt b4)⟩, ⟨Ne.symm (Nat.ne_of_lt a1), Ne.symm (Nat.ne_of_lt a2), Ne.symm (Nat.ne_of_lt a3)⟩, off.2.2⟩ trivial ⟨ow, _, rfl, dw, ?_, fun p hp => ?_⟩
  · revert hp; revert p
    exact (by repeat' first | refine all_cons ?_ ?_ | exact List.Mem.head _ | exact List.Mem.tail _ (List.Mem.head _) | exact List.Mem.tail _ (List.Mem.tail _ (List.Mem.head _)) | exact List.Mem.tail _ (List.Mem.tail _ (List.Mem.tail _ (List.Mem.head _))) | exact List.Mem.tail _ (List.Mem.tail _ (List.Mem.tail _ (List.Mem.tail _ (List.Mem.head _)))) | exact List.Mem.tail _ (List.Mem.tail _ (List.Mem.tail _ (List.Mem.tail _ (List.Mem.tail _ (List.Mem.head _))))) | exact List.Mem.tail _ (List.Mem.tail _ (List.Mem.tail _ (List.Mem.tail _ (List.Mem.tail _ (List.Mem.tail _ (List.Mem.head _)))))) | exact List.Mem.tail _ (List.Mem.tail _ (List.Mem.tail _ (List.Mem.tail _ (List.Mem.tail _ (List.Mem.tail _ (List.Mem.tail _ (List.Mem.head _))))))) | exact List.Mem.tail _ (List.Mem.tail _ (List.Mem.tail _ (List.Mem.tail _ (List.Mem.tail _ (List.Mem.tail _ (List.Mem.tail _ (List.Mem.tail _ (List.Mem.head _)))))))) | exact fun _ h => h | exact fun _ h => List.Mem.tail _ (h) | exact fun _ h => List.Mem.tail _ (List.Mem.tail _ (h)) | exact fun _ h => List.Mem.tail _ (List.Mem.tail _ (List.Mem.tail _ (h))) | exact fun _ h => List.Mem.tail _ (List.Mem.tail _ (List.Mem.tail _ (List.Mem.tail _ (h)))) | exact fun _ h => List.Mem.tail _ (List.Mem.tail _ (List.Mem.tail _ (List.Mem.tail _ (List.Mem.tail _ (h))))) | exact fun _ h => List.Mem.tail _ (List.Mem.tail _ (List.Mem.tail _ (List.Mem.tail _ (List.Mem.tail _ (List.Mem.tail _ (h)))))) | exact fun _ h => List.Mem.tail _ (List.Mem.tail _ (List.Mem.tail _ (List.Mem.tail _ (List.Mem.tail _ (List.Mem.tail _ (List.Mem.tail _ (h))))))) | exact fun _ h => List.Mem.tail _ (List.Mem.tail _ (List.Mem.tail _ (List.Mem.tail _ (List.Mem.tail _ (List.Mem.tail _ (List.Mem.tail _ (List.Mem.tail _ (h)))))))) | exact all_nil)
  · rw [List.range_succ, List.map_append]
    show Lists _ _ (_ ++ [f i])
    rw [hf]
    exact Lists.snoc (us := [.ref T]) (hL.mono fun p hp => List.mem_cons_of_mem _ (List.mem_cons_of_mem _ hp)) (List.mem_cons_self ..) ⟨⟨_, _, rfl, List.mem_cons_of_mem _ (List.mem_cons_self ..)⟩, trivial⟩
  · revert hp; revert p
    exact all_cons (⟨Ne.symm (Nat.ne_of_lt b6), Ne.symm (Nat.ne_of_lt b5)⟩) (all_cons (⟨Ne.symm (Nat.ne_of_lt a5), Ne.symm (Nat.ne_of_lt a4)⟩) (fun p hp => hoff p hp))
section
variable {prog : Program} {w : World} {p : Program} {loose : List Str} {mean : ExcName → Option Value} {mg mb : Str → Option Value} {dp un : Nat} {gd : Option (List Code)} {cn : Str} {cs : Scope} {a : Addr} {ccd : Value} {cl : List (Str × Addr)} {outer : List Env} {A₀ : Around} {base h₀ : Heap} {L : Addr} {m : Str → Option Value} {Q E : Value → Shared → Prop} {news : List (Addr × Obj)} {s : Shared}

/-- what the law's own list of units comes to -/
abbrev DueQ (h₀ : Heap) (L : Addr) (m : Str → Option Value) (s : Shared) (d : Fm) (ps : List Nat) (Q : Value → Shared → Prop) : Prop :=
  ∀ D vs n tl h' tk', Fr h₀ L h' m → Kp s.heap h' → (∀ p ∈ (D, listOf vs.toArray n) :: tl, h'.get? p.1 = some p.2 ∧ s.heap.get? p.1 = none) → Lists tl vs ((List.range (d.ux ps * d.uy ps)).map fun i => unitL d ps (i % d.ux ps) (i / d.ux ps)) → (∀ p ∈ tl, p.1 ≠ D) → Q (.ref D) { s with heap := h', toks := tk' }
theorem due_one_call {fr sz pl : Addr} {d : Fm} {ps : List Nat} {vps : List Value} (B : Below A₀ base outer h₀) (F : Fr h₀ L s.heap m) (X : (hd.heap_1 w.params).In h₀) (T : Top p loose mean mg mb h₀) (hk : cs.kind = .function) (hd : dp ≤ 930) (hu : un ≤ 9300)
    (ok : d.Ok) (hz : SizesAt d s.heap sz) (hp : s.heap.IsList pl vps.toArray) (are : IntsAre vps (zints ps)) (po : PsOk d ps) (hone : ps.length = 1)
    (h : DueQ h₀ L m s d ps Q) :
    wpAny (model prog w) (ktrTop dp un gd cn cs L a ccd cl outer) (call (.ref 235) [.ref fr, .ref sz, .ref pl]) Q E s := by
  obtain ⟨q, rfl⟩ : ∃ q, ps = [q] := by
    match ps, hone with
    | [q], _ => exact ⟨q, rfl⟩
  obtain ⟨tq, rfl⟩ : ∃ t, vps = [.int (q : Int) t] := by
    cases are with
    | cons n t r => cases r; exact ⟨t, rfl⟩
  have hq : q < d.cs.length := po.lt q (by simp)
  refine wpAny_call ?_
  refine code_defK (binds := [(Str.ofString "frame", .ref fr), (Str.ofString "sizes", .ref sz), (Str.ofString "places", .ref pl)]) B F X (news := []) News.nil T rfl rfl hk (by k_is) (by k_is) (rl hd rfl) (BindsTo.of_eq rfl) (by rfl) (by decide) ?_ rfl rfl rfl
  intro g L' h₁ tk cells KB FG F₁ N₁ Y CN B₁ X₁ T₁ env' A' q' e'
  have KP : Kp s.heap g := fun b o e => KB b o (fun h => nomatch h) e
  obtain ⟨o1, o2, hE, d1, d2⟩ := CellsAre.two Y
  subst hE
  clear Y CN KB
  obtain ⟨vs, n, l, hze, hS, hl⟩ := hz.kp KP
  have hlz : g.IsList sz vs.toArray := ⟨_, hze, rfl, _, rfl⟩
  obtain ⟨a, b, c, na, tw, th, hv, ha, hb, hc⟩ := hS.get (List.getElem?_eq_getElem hq)
  have la : g.IsList a #[.ref b, .ref c] := ⟨_, hl _ ha, rfl, _, rfl⟩
  have lb : g.IsList b #[.int ((d.pw d.cs[q] : Nat) : Int) (tw 0), .int ((d.bw d.cs[q] : Nat) : Int) (tw 1), .int ((d.mx * d.cs[q].1 : Nat) : Int) (tw 2)] := ⟨_, hl _ hb, rfl, _, rfl⟩
  have lc : g.IsList c #[.int ((d.ph d.cs[q] : Nat) : Int) (th 0), .int ((d.bh d.cs[q] : Nat) : Int) (th 1), .int ((d.my * d.cs[q].2 : Nat) : Int) (th 2)] := ⟨_, hl _ hc, rfl, _, rfl⟩
  have hP := list_kp hp KP
  have hbw := ok.bw_le (List.getElem_mem hq)
  have hbh := ok.bh_le (List.getElem_mem hq)
  obtain ⟨u1, u2, -, -⟩ := ok.u po
  have hx0 : d.x0 [q] = d.cs[q] := by simp [Fm.x0, hq]
  have hux : d.ux [q] = d.bw d.cs[q] := by rw [Fm.ux, if_pos (show [q].length = 1 from rfl), hx0]
  have huy : d.uy [q] = d.bh d.cs[q] := by rw [Fm.uy, if_pos (show [q].length = 1 from rfl), hx0]
  rw [hux] at u1 u2
  have u0 := cpos u1
  have u3 := clt u2 (z := 100000) rfl
  have u0' : _ := show [((d.pw d.cs[q] : Nat) : Int), ((d.bw d.cs[q] : Nat) : Int), ((d.mx * d.cs[q].1 : Nat) : Int)].getD (Int.toNat 1) 0 = ((d.bw d.cs[q] : Nat) : Int) from rfl
  k_steps
  refine unhalt ?_
  refine len_at (list_up hP (by k_asm)) (show _ = 1 from rfl) (by omega) ?_
  k_steps
  refine unhalt ?_
  refine item_at (list_up hlz (by k_asm)) (i := q) rfl (ok.idx (List.getElem?_eq_getElem hq)) (by simpa using hv) ?_
  k_steps
  refine kun_list (by k_asm) (by k_asm) (list_up la (by k_asm)) rfl rfl rfl ?_
  intro h₄ F₄ N₄
  k_sweep
  k_steps
  refine unhalt ?_
  refine LCg.ListComp_U (cl := [(Str.ofString "wide", L' + 2), (Str.ofString "places", L' + 1)]) (by k_asm) (by rfl) (by decide) rfl (by decide) rfl ?_
  k_steps
  refine unhalt ?_
  rename (_ = Data.cell (some (Value.ref b))) => dw
  have hN : d.bw d.cs[q] * d.bh d.cs[q] ≤ 192 := Nat.mul_le_mul hbw hbh
  refine LCg.CompSrc.range (n := d.bw d.cs[q] * d.bh d.cs[q]) rfl (by k_asm) (by k_asm) (by k_asm) (rsm _ (by omega)) (rsz _) (by rw [sizeLine_eq]; omega) (fun g₂ => compRest_of (n := d.bw d.cs[q] * d.bh d.cs[q])
    (fun i ys nx => ∃ ow l, nx = (L' + 1 + 1, ow) :: (L' + 1, o2) :: l ∧ ow.data = Data.cell (some (Value.ref b)) ∧ Lists l ys ((List.range i).map fun i => unitL d [q] (i % d.ux [q]) (i / d.ux [q])) ∧ (∀ p ∈ l, p.1 ≠ L' + 1 ∧ p.1 ≠ L' + 1 + 1)) ?step ?fin _ 0 (Nat.zero_add _) [] _ ⟨_, [], rfl, dw, trivial, fun _ h => (nomatch h)⟩)
  case step =>
    rintro i ys _ hi ⟨ow, l, rfl, dw2, hL, hoff⟩ v I oI C oC D m₂ h tk E' hP hN hx F₂ N₂ off ne
    obtain ⟨tpl, rfl⟩ := hP
    k_steps
    refine unhalt ?_
    rename (_ < _ ∧ _ < _ ∧ _ < _ ∧ _ < _ ∧ _ < _ ∧ _ < _ ∧ AllLt _ l) => lt2
    rename (_ < _ ∧ _ < _ ∧ _ < _ ∧ _ < _ ∧ _ < _ ∧ AllLt _ l) => lt1
    rename News g L' _ _ => NB
    rename Fr g L' _ _ => FB
    refine one_turn (0, q, i % d.bw d.cs[q], i / d.bw d.cs[q]) FB NB off lt1 lt2 dw2 hL hoff ⟨rfl, rfl, ?_, ?_⟩ ?_
    · show ((i % d.bw d.cs[q] : Nat) : Int) = (0 + (i : Int)).fmod ((d.bw d.cs[q] : Nat) : Int)
      rw [Int.zero_add, fmodN]
    · show ((i / d.bw d.cs[q] : Nat) : Int) = (0 + (i : Int)).fdiv ((d.bw d.cs[q] : Nat) : Int)
      rw [Int.zero_add, fdivN]
    · rw [hux, unitL, if_pos (show [q].length = 1 from rfl)]
      rfl
  case fin =>
    rintro ys _ ⟨ow, l, rfl, dw2, hL, hoff⟩ D h₃ tk F₂ N₂ off
    dsimp only
    k_steps
    have NL := News.sub (l' := (D, LCg.lst ys) :: l) N₂ (by repeat' first | refine all_cons ?_ ?_ | exact List.Mem.head _ | exact List.Mem.tail _ (List.Mem.head _) | exact List.Mem.tail _ (List.Mem.tail _ (List.Mem.head _)) | exact List.Mem.tail _ (List.Mem.tail _ (List.Mem.tail _ (List.Mem.head _))) | exact List.Mem.tail _ (List.Mem.tail _ (List.Mem.tail _ (List.Mem.tail _ (List.Mem.head _)))) | exact List.Mem.tail _ (List.Mem.tail _ (List.Mem.tail _ (List.Mem.tail _ (List.Mem.tail _ (List.Mem.head _))))) | exact List.Mem.tail _ (List.Mem.tail _ (List.Mem.tail _ (List.Mem.tail _ (List.Mem.tail _ (List.Mem.tail _ (List.Mem.head _)))))) | exact List.Mem.tail _ (List.Mem.tail _ (List.Mem.tail _ (List.Mem.tail _ (List.Mem.tail _ (List.Mem.tail _ (List.Mem.tail _ (List.Mem.head _))))))) | exact List.Mem.tail _ (List.Mem.tail _ (List.Mem.tail _ (List.Mem.tail _ (List.Mem.tail _ (List.Mem.tail _ (List.Mem.tail _ (List.Mem.tail _ (List.Mem.head _)))))))) | exact fun _ h => h | exact fun _ h => List.Mem.tail _ (h) | exact fun _ h => List.Mem.tail _ (List.Mem.tail _ (h)) | exact fun _ h => List.Mem.tail _ (List.Mem.tail _ (List.Mem.tail _ (h))) | exact fun _ h => List.Mem.tail _ (List.Mem.tail _ (List.Mem.tail _ (List.Mem.tail _ (h)))) | exact fun _ h => List.Mem.tail _ (List.Mem.tail _ (List.Mem.tail _ (List.Mem.tail _ (List.Mem.tail _ (h))))) | exact fun _ h => List.Mem.tail _ (List.Mem.tail _ (List.Mem.tail _ (List.Mem.tail _ (List.Mem.tail _ (List.Mem.tail _ (h)))))) | exact fun _ h => List.Mem.tail _ (List.Mem.tail _ (List.Mem.tail _ (List.Mem.tail _ (List.Mem.tail _ (List.Mem.tail _ (List.Mem.tail _ (h))))))) | exact fun _ h => List.Mem.tail _ (List.Mem.tail _ (List.Mem.tail _ (List.Mem.tail _ (List.Mem.tail _ (List.Mem.tail _ (List.Mem.tail _ (List.Mem.tail _ (h)))))))) | exact all_nil)
    refine h D ys _ l _ _ ?_ (KP.trans ?_) (fun p hp => ⟨(NL p hp).1, fresh_of KP NL hp⟩) ?_ (fun p hp => ?_)
    · k_asm
    · exact F₂.keep
    · rw [hux, huy] at *
      exact hL
    · exact off1_mem off p (List.mem_cons_of_mem _ (List.mem_cons_of_mem _ hp))
end
theorem cdiv_fit {x y k a : Nat} (ha : 1 ≤ a) (h : x ≤ k * y) : (cdiv x (y * a) - 1) * a ≤ k - 1 := by
  rcases Nat.eq_zero_or_pos y with rfl | hy
  · simp [cdiv]
  · rcases Nat.eq_zero_or_pos (cdiv x (y * a) - 1) with e | e
    · rw [e]; lia
    · have h1 : cdiv x (y * a) * (y * a) ≤ x + y * a - 1 := Nat.div_mul_le_self ..
      obtain ⟨z, hz⟩ : ∃ z, cdiv x (y * a) = z + 1 := ⟨cdiv x (y * a) - 1, by lia⟩
      rw [hz] at h1 ⊢
      rw [Nat.add_sub_cancel]
      rw [Nat.add_mul, Nat.one_mul] at h1
      have h2 : 0 < y * a := Nat.mul_pos hy ha
      have h3 : z * (y * a) < k * y := by lia
      have h4 : z * (y * a) = (z * a) * y := by rw [Nat.mul_comm y a, Nat.mul_assoc]
      rw [h4] at h3
      have := Nat.lt_of_mul_lt_mul_right h3
      lia
theorem Fm.Ok.fit {d : Fm} (ok : d.Ok) (hw : d.W ≤ 4 * d.n ∧ d.H ≤ 3 * d.n) : (1 ≤ d.mx ∧ d.mx ≤ 4) ∧ (1 ≤ d.my ∧ d.my ≤ 3) ∧ ∀ x ∈ d.cs, (d.mx - 1) * x.1 ≤ 3 ∧ (d.my - 1) * x.2 ≤ 2 := by
  have a1 := ok.A1.1
  have d1 := ok.D1.1
  have p1 := Nat.mul_pos ok.n1 a1
  have p2 := Nat.mul_pos ok.n1 d1
  refine ⟨⟨?_, ?_⟩, ⟨?_, ?_⟩, fun x hx => ⟨?_, ?_⟩⟩
  · exact (Nat.le_div_iff_mul_le p1).mpr (by have := ok.w1; lia)
  · exact cdiv_le p1 (by rw [← Nat.mul_assoc]; exact Nat.le_trans hw.1 (Nat.le_mul_of_pos_right _ a1))
  · exact (Nat.le_div_iff_mul_le p2).mpr (by have := ok.h1; lia)
  · exact cdiv_le p2 (by rw [← Nat.mul_assoc]; exact Nat.le_trans hw.2 (Nat.le_mul_of_pos_right _ d1))
  · exact Nat.le_trans (Nat.mul_le_mul_left _ (most_ge (f := fun x : Nat × Nat => x.1) hx)) (cdiv_fit a1 hw.1)
  · exact Nat.le_trans (Nat.mul_le_mul_left _ (most_ge (f := fun x : Nat × Nat => x.2) hx)) (cdiv_fit d1 hw.2)
abbrev rowO (r : R5) (T : Addr) (t : Nat → Tok) : Obj := listOf [.int (r.1 : Int) (t 0), .int (r.2.1 : Int) (t 1), .int (r.2.2.1 : Int) (t 2), .int (r.2.2.2.1 : Int) (t 3), .int (r.2.2.2.2 : Int) (t 4), .ref T].toArray 0
/-- rows on the heap, and their tuples -/
noncomputable def RowsLed (f : R5 → Blk) (l : List (Addr × Obj)) : List Value → List R5 → Prop
  | [], [] => True
  | v :: vs, r :: rs => (∃ a T t u, v = .ref a ∧ (a, rowO r T t) ∈ l ∧ (T, blkO (f r) u) ∈ l) ∧ RowsLed f l vs rs
  | _, _ => False
theorem RowsLed.mono {f : R5 → Blk} {l l' : List (Addr × Obj)} (k : ∀ p ∈ l, p ∈ l') : ∀ {vs : List Value} {rs : List R5}, RowsLed f l vs rs → RowsLed f l' vs rs
  | [], [], _ => trivial
  | _ :: _, _ :: _, ⟨⟨a, T, t, u, e, h1, h2⟩, r⟩ => ⟨⟨a, T, t, u, e, k _ h1, k _ h2⟩, RowsLed.mono k r⟩
  | [], _ :: _, h => h.elim
  | _ :: _, [], h => h.elim
theorem RowsLed.snoc {f : R5 → Blk} {l : List (Addr × Obj)} {a T : Addr} {r : R5} {t u : Nat → Tok} : ∀ {vs : List Value} {rs : List R5}, RowsLed f l vs rs → (a, rowO r T t) ∈ l → (T, blkO (f r) u) ∈ l → RowsLed f l (vs ++ [.ref a]) (rs ++ [r])
  | [], [], _, h1, h2 => ⟨⟨a, T, t, u, rfl, h1, h2⟩, trivial⟩
  | _ :: _, _ :: _, ⟨x, q⟩, h1, h2 => ⟨x, RowsLed.snoc q h1 h2⟩
  | [], _ :: _, h, _, _ => h.elim
  | _ :: _, [], h, _, _ => h.elim
theorem RowsLed.length {f : R5 → Blk} {l : List (Addr × Obj)} : ∀ {vs : List Value} {rs : List R5}, RowsLed f l vs rs → vs.length = rs.length
  | [], [], _ => rfl
  | _ :: _, _ :: _, h => congrArg (· + 1) (RowsLed.length h.2)
  | [], _ :: _, h => h.elim
  | _ :: _, [], h => h.elim
theorem rows_turn {g h : Heap} {L : Addr} {s : Shared} {tk : Nat} {m m₀ : Str → Option Value} {st : List Str} {I₁ I₂ rows W V D3 D4 D5 : Addr} {o₁ o₂ o3 ow ov : Obj} {vs : List Value} {n : Nat} {tl : List (Addr × Obj)} {f : R5 → Blk} {rs : List R5} {z1 z2 z3 z4 z5 y1 y2 y3 y4 : Int} {t1 t2 t3 t4 t5 u1 u2 u3 u4 : Tok} (r : R5)
    (F : Fr g L h m) (N : News g L h ((D5, listOf #[.int z1 t1, .int z2 t2, .int z3 t3, .int z4 t4, .int z5 t5, .ref D4] 0) :: (D4, tupO [.int y1 u1, .int y2 u2, .int y3 u3, .int y4 u4]) :: (D3, o3) :: (I₂, o₂) :: (I₁, o₁) :: (rows, listOf (vs.toArray.push (.ref D5)) (n + 1)) :: (W, ow) :: (V, ov) :: tl))
    (hr : (r.1 : Int) = z1 ∧ (r.2.1 : Int) = z2 ∧ (r.2.2.1 : Int) = z3 ∧ (r.2.2.2.1 : Int) = z4 ∧ (r.2.2.2.2 : Int) = z5) (hb : ((f r).1 : Int) = y1 ∧ ((f r).2.1 : Int) = y2 ∧ ((f r).2.2.1 : Int) = y3 ∧ ((f r).2.2.2 : Int) = y4)
    (hT : RowsLed f tl vs rs) (l4 : D3 < D4 ∧ I₂ < D4 ∧ I₁ < D4 ∧ rows < D4 ∧ W < D4 ∧ V < D4 ∧ AllLt D4 tl) (l5 : D4 < D5 ∧ D3 < D5 ∧ I₂ < D5 ∧ I₁ < D5 ∧ rows < D5 ∧ W < D5 ∧ V < D5 ∧ AllLt D5 tl)
    (off : ∀ p ∈ (I₁, o₁) :: (rows, listOf vs.toArray n) :: (W, ow) :: (V, ov) :: tl, p.1 ≠ I₂) (hTo : ∀ p ∈ tl, p.1 ∉ [I₁, rows, W, V]) (hO : Ovr st m₀ m) :
    TurnEnd g L s I₂ o₂ (fun m' nx' => Ovr st m₀ m' ∧ ∃ vs n tl, nx' = (I₁, o₁) :: (rows, listOf vs.toArray n) :: (W, ow) :: (V, ov) :: tl ∧ RowsLed f tl vs (rs ++ [r]) ∧ ∀ p ∈ tl, p.1 ∉ [I₁, rows, W, V]) .next { s with heap := h, toks := tk } := by
  obtain ⟨rfl, rfl, rfl, rfl, rfl⟩ := hr
  obtain ⟨rfl, rfl, rfl, rfl⟩ := hb
  obtain ⟨-, a2, a3, a4, a5, a6, -⟩ := l4
  obtain ⟨-, -, b3, b4, b5, b6, b7, -⟩ := l5
  obtain ⟨oR, e1⟩ : ∃ o, o = rowO r D4 (fun i => [t1, t2, t3, t4, t5].getD i 0) := ⟨_, rfl⟩
  obtain ⟨oB, e2⟩ : ∃ o, o = blkO (f r) (fun i => [u1, u2, u3, u4].getD i 0) := ⟨_, rfl⟩
  have NA : News g L h ((D5, oR) :: (D4, oB) :: (D3, o3) :: (I₂, o₂) :: (I₁, o₁) :: (rows, listOf (vs ++ [Value.ref D5]).toArray (n + 1)) :: (W, ow) :: (V, ov) :: tl) := by
    rw [e1, e2, ← List.push_toArray]
    exact N
  clear N
  refine TurnEnd.intro F NA ((I₁, o₁) :: (rows, listOf (vs ++ [Value.ref D5]).toArray (n + 1)) :: (W, ow) :: (V, ov) :: (D5, oR) :: (D4, oB) :: tl) (fun p hp => ?_) (fun p hp => ?_)
    ⟨hO, vs ++ [Value.ref D5], n + 1, (D5, oR) :: (D4, oB) :: tl, rfl, (hT.mono fun p hp => List.mem_cons_of_mem _ (List.mem_cons_of_mem _ hp)).snoc (T := D4) (t := fun i => [t1, t2, t3, t4, t5].getD i 0) (u := fun i => [u1, u2, u3, u4].getD i 0) (by rw [← e1]; exact List.mem_cons_self ..) (by rw [← e2]; exact List.mem_cons_of_mem _ (List.mem_cons_self ..)), fun p hp => ?_⟩
  · revert hp; revert p
    exact (by repeat' first | refine all_cons ?_ ?_ | exact List.Mem.head _ | exact List.Mem.tail _ (List.Mem.head _) | exact List.Mem.tail _ (List.Mem.tail _ (List.Mem.head _)) | exact List.Mem.tail _ (List.Mem.tail _ (List.Mem.tail _ (List.Mem.head _))) | exact List.Mem.tail _ (List.Mem.tail _ (List.Mem.tail _ (List.Mem.tail _ (List.Mem.head _)))) | exact List.Mem.tail _ (List.Mem.tail _ (List.Mem.tail _ (List.Mem.tail _ (List.Mem.tail _ (List.Mem.head _))))) | exact List.Mem.tail _ (List.Mem.tail _ (List.Mem.tail _ (List.Mem.tail _ (List.Mem.tail _ (List.Mem.tail _ (List.Mem.head _)))))) | exact List.Mem.tail _ (List.Mem.tail _ (List.Mem.tail _ (List.Mem.tail _ (List.Mem.tail _ (List.Mem.tail _ (List.Mem.tail _ (List.Mem.head _))))))) | exact List.Mem.tail _ (List.Mem.tail _ (List.Mem.tail _ (List.Mem.tail _ (List.Mem.tail _ (List.Mem.tail _ (List.Mem.tail _ (List.Mem.tail _ (List.Mem.head _)))))))) | exact fun _ h => h | exact fun _ h => List.Mem.tail _ (h) | exact fun _ h => List.Mem.tail _ (List.Mem.tail _ (h)) | exact fun _ h => List.Mem.tail _ (List.Mem.tail _ (List.Mem.tail _ (h))) | exact fun _ h => List.Mem.tail _ (List.Mem.tail _ (List.Mem.tail _ (List.Mem.tail _ (h)))) | exact fun _ h => List.Mem.tail _ (List.Mem.tail _ (List.Mem.tail _ (List.Mem.tail _ (List.Mem.tail _ (h))))) | exact fun _ h => List.Mem.tail _ (List.Mem.tail _ (List.Mem.tail _ (List.Mem.tail _ (List.Mem.tail _ (List.Mem.tail _ (h)))))) | exact fun _ h => List.Mem.tail _ (List.Mem.tail _ (List.Mem.tail _ (List.Mem.tail _ (List.Mem.tail _ (List.Mem.tail _ (List.Mem.tail _ (h))))))) | exact fun _ h => List.Mem.tail _ (List.Mem.tail _ (List.Mem.tail _ (List.Mem.tail _ (List.Mem.tail _ (List.Mem.tail _ (List.Mem.tail _ (List.Mem.tail _ (h)))))))) | exact all_nil)
  · revert hp; revert p
    exact all_cons (off (I₁, o₁) (List.mem_cons_self ..)) (all_cons (off (rows, listOf vs.toArray n) (.tail _ (.head _))) (all_cons (off (W, ow) (.tail _ (.tail _ (.head _)))) (all_cons (off (V, ov) (.tail _ (.tail _ (.tail _ (.head _))))) (all_cons (Ne.symm (Nat.ne_of_lt b3)) (all_cons (Ne.symm (Nat.ne_of_lt a2)) (fun p hp => off p (.tail _ (.tail _ (.tail _ (.tail _ hp))))))))))
  · rcases List.mem_cons.mp hp with rfl | hp
    · exact notc (Ne.symm (Nat.ne_of_lt b4)) (notc (Ne.symm (Nat.ne_of_lt b5)) (notc (Ne.symm (Nat.ne_of_lt b6)) (notc (Ne.symm (Nat.ne_of_lt b7)) List.not_mem_nil)))
    · rcases List.mem_cons.mp hp with rfl | hp
      · exact notc (Ne.symm (Nat.ne_of_lt a3)) (notc (Ne.symm (Nat.ne_of_lt a4)) (notc (Ne.symm (Nat.ne_of_lt a5)) (notc (Ne.symm (Nat.ne_of_lt a6)) List.not_mem_nil)))
      · exact hTo p hp
theorem RowsLed.mem {f : R5 → Blk} {l : List (Addr × Obj)} : ∀ {vs : List Value} {rs : List R5}, RowsLed f l vs rs → ∀ {v : Value}, v ∈ vs → ∃ r a T t u, r ∈ rs ∧ v = .ref a ∧ (a, rowO r T t) ∈ l ∧ (T, blkO (f r) u) ∈ l
  | [], [], _, _, h => nomatch h
  | _ :: _, r :: _, ⟨⟨a, T, t, u, e, h1, h2⟩, q⟩, v, h => by
    rcases List.mem_cons.mp h with rfl | h
    · exact ⟨r, a, T, t, u, List.mem_cons_self .., e, h1, h2⟩
    · obtain ⟨r', a', T', t', u', m, x⟩ := RowsLed.mem q h
      exact ⟨r', a', T', t', u', List.mem_cons_of_mem _ m, x⟩
  | [], _ :: _, h, _, _ => h.elim
  | _ :: _, [], h, _, _ => h.elim
theorem RowsLed.get {f : R5 → Blk} {l : List (Addr × Obj)} : ∀ {vs : List Value} {rs : List R5}, RowsLed f l vs rs → ∀ {i : Nat} {v : Value}, vs[i]? = some v → ∃ r a T t u, rs[i]? = some r ∧ v = .ref a ∧ (a, rowO r T t) ∈ l ∧ (T, blkO (f r) u) ∈ l
  | [], [], _, _, _, h => by cases h
  | _ :: _, r :: _, ⟨⟨a, T, t, u, e, h1, h2⟩, _⟩, 0, _, h => by cases h; exact ⟨r, a, T, t, u, rfl, e, h1, h2⟩
  | _ :: vs, _ :: rs, ⟨_, q⟩, i + 1, v, h => by
    rw [List.getElem?_cons_succ] at h ⊢
    exact RowsLed.get q h
  | [], _ :: _, h, _, _, _ => h.elim
  | _ :: _, [], h, _, _, _ => h.elim
def natOf : Value → Nat
  | .int n _ => n.toNat
  | _ => 0
/-- the row that a value is on a heap -/
def rowV (h : Heap) (v : Value) : R5 := match v with
  | .ref a => match h.get? a with
    | some o => match o.data with
      | .seq xs _ => (natOf (xs.getD 0 .none), natOf (xs.getD 1 .none), natOf (xs.getD 2 .none), natOf (xs.getD 3 .none), natOf (xs.getD 4 .none))
      | _ => (0, 0, 0, 0, 0)
    | none => (0, 0, 0, 0, 0)
  | _ => (0, 0, 0, 0, 0)
theorem rowV_of {h : Heap} {a T : Addr} {r : R5} {t : Nat → Tok} (e : h.get? a = some (rowO r T t)) : rowV h (.ref a) = r := by
  unfold rowV
  dsimp only
  rw [e]
  obtain ⟨r1, r2, r3, r4, r5⟩ := r
  rfl
theorem RowsLed.map {f : R5 → Blk} {l : List (Addr × Obj)} {h : Heap} (k : ∀ p ∈ l, h.get? p.1 = some p.2) : ∀ {vs : List Value} {rs : List R5}, RowsLed f l vs rs → vs.map (rowV h) = rs
  | [], [], _ => rfl
  | _ :: _, _ :: _, ⟨⟨a, T, t, u, e, h1, _⟩, q⟩ => by
    rw [List.map_cons, RowsLed.map k q, e, rowV_of (k _ h1)]
  | [], _ :: _, h => h.elim
  | _ :: _, [], h => h.elim
theorem RowsLed.of_map {f : R5 → Blk} {l : List (Addr × Obj)} {h : Heap} (k : ∀ p ∈ l, h.get? p.1 = some p.2) {vs : List Value} {rs : List R5} (L : RowsLed f l vs rs) : ∀ (ws : List Value), (∀ v ∈ ws, v ∈ vs) → RowsLed f l ws (ws.map (rowV h))
  | [], _ => trivial
  | v :: ws, hm => by
    obtain ⟨r, a, T, t, u, _, e, h1, h2⟩ := L.mem (hm v (List.mem_cons_self ..))
    refine ⟨⟨a, T, t, u, e, ?_, ?_⟩, RowsLed.of_map k L ws fun x hx => hm x (List.mem_cons_of_mem _ hx)⟩
    · rw [e, rowV_of (k _ h1)]; exact h1
    · rw [e, rowV_of (k _ h1)]; exact h2
theorem zip_map {α : Type} {g : Keyed → α} : ∀ {vs : List Value}, (vs.zip vs).map g = vs.map fun v => g (v, v)
  | [] => rfl
  | _ :: vs => by rw [List.zip_cons_cons, List.map_cons, List.map_cons, zip_map]
theorem zip_mem : ∀ {vs : List Value} {p : Keyed}, p ∈ vs.zip vs → p.1 ∈ vs ∧ p.2 = p.1
  | [], _, h => nomatch h
  | v :: vs, p, h => by
    rw [List.zip_cons_cons] at h
    rcases List.mem_cons.mp h with rfl | h
    · exact ⟨List.mem_cons_self .., rfl⟩
    · exact ⟨List.mem_cons_of_mem _ (zip_mem h).1, (zip_mem h).2⟩
theorem nodup_inj {α : Type} {g : α → Nat} : ∀ {l : List α}, (l.map g).Nodup → ∀ {x y : α}, x ∈ l → y ∈ l → g x = g y → x = y
  | [], _, _, _, h, _, _ => nomatch h
  | z :: l, nd, x, y, hx, hy, e => by
    rw [List.map_cons, List.nodup_cons] at nd
    rcases List.mem_cons.mp hx with rfl | hx'
    · rcases List.mem_cons.mp hy with rfl | hy
      · rfl
      · exact absurd (e ▸ List.mem_map_of_mem (f := g) hy) nd.1
    · rcases List.mem_cons.mp hy with rfl | hy'
      · exact absurd (e ▸ List.mem_map_of_mem (f := g) hx') nd.1
      · exact nodup_inj nd.2 hx' hy' e
def kap (h : Heap) (x : Keyed) : Nat := n5 (rowV h x.1)
def r5f (r : R5) (j : Nat) : Nat := match j with
  | 0 => r.1
  | 1 => r.2.1
  | 2 => r.2.2.1
  | 3 => r.2.2.2.1
  | _ => r.2.2.2.2
section
variable {prog : Program} {w : World} {A : Around} {E : Value → Shared → Prop} {s : Shared}
theorem sorted_R {l : Addr} {vs : List Value} {f : R5 → Blk} {led : List (Addr × Obj)} {mx my n : Nat} {c : Nat → Nat × Nat} {Q : Value → Shared → Prop} (hl : s.heap.IsList l vs.toArray) (hL : RowsLed f led vs (rowsL mx my n c)) (hled : ∀ p ∈ led, s.heap.get? p.1 = some p.2)
    (hu : A.in1.in1.units < cLine) (h1 : 1 ≤ mx ∧ mx ≤ 4) (h2 : 1 ≤ my ∧ my ≤ 3) (hn2 : 2 ≤ n) (hn : n ≤ 3) (hc : ∀ i, i < n → 1 ≤ (c i).1 ∧ (c i).1 ≤ 3 ∧ 1 ≤ (c i).2 ∧ (c i).2 ≤ 2 ∧ (mx - 1) * (c i).1 ≤ 3 ∧ (my - 1) * (c i).2 ≤ 2)
    (h : ∀ D ws (h' : Heap) n', Kp s.heap h' → s.heap.get? D = none → RowsLed f led ws (allW mx my n c) → h'.get? D = some (listOf (List.toArray ws) n') → Q (.ref D) { s with heap := h' }) :
    wpAny (model prog w) A (call (.builtin "sorted") [.ref l]) Q E s := by
  have small : small5 mx n c := ⟨h1.1, by lia, by lia, fun i hi => by have := hc i hi; lia⟩
  have hmap := hL.map hled
  have hlen : vs.length = (rowsL mx my n c).length := hL.length
  have hlow : 2 ≤ (rowsL mx my n c).length := by
    obtain ⟨k, rfl⟩ : ∃ k, n = k + 2 := ⟨n - 2, by lia⟩
    unfold rowsL
    rw [List.range_succ, List.range_succ, List.flatMap_append, List.flatMap_append, List.length_append, List.length_append]
    simp only [List.flatMap_cons, List.flatMap_nil, List.append_nil, rowsAt_len]
    have p1 := hc k (by lia)
    have p2 := hc (k + 1) (by lia)
    have q1 : 0 < mx * (c k).1 * (my * (c k).2) := Nat.mul_pos (Nat.mul_pos h1.1 p1.1) (Nat.mul_pos h2.1 p1.2.2.1)
    have q2 : 0 < mx * (c (k + 1)).1 * (my * (c (k + 1)).2) := Nat.mul_pos (Nat.mul_pos h1.1 p2.1) (Nat.mul_pos h2.1 p2.2.2.1)
    lia
  have hup : (rowsL mx my n c).length ≤ 1000 := by
    have := flat_len (n := n) (f := rowsAt mx my c) (B := 72) fun i hi => by
      rw [rowsAt_len]
      have p := hc i hi
      exact Nat.mul_le_mul (Nat.le_trans (Nat.mul_le_mul h1.2 p.2.1) (show 4 * 3 ≤ 12 by decide)) (Nat.le_trans (Nat.mul_le_mul h2.2 p.2.2.2.1) (show 3 * 2 ≤ 6 by decide))
    have e : ((List.range n).flatMap (rowsAt mx my c)).length = (rowsL mx my n c).length := rfl
    lia
  have nd := rowsL_apart (my := my) small
  have hkm : (pairsOf vs).toList.map (kap s.heap) = (rowsL mx my n c).map n5 := by
    rw [pairsOf_toList, zip_map, ← hmap, List.map_map]
    rfl
  have hbig : 64 ≤ (rowsL mx my n c).length → twoOk (rowsL mx my n c) = true := fun hb => (big_rows h1 h2 hn hc hb).2
  refine sorted_S (κ := kap s.heap) hl (by lia) (by lia) (fun h' k v hv => ?_) (fun s' Q' k hq => ?_) (fun D r h' n' k hD hp hs hg => ?_)
  · obtain ⟨r, a, T, t, u, _, rfl, m, _⟩ := hL.mem hv
    exact (Looks.ld (k _ _ (hled _ m))).andThen .now
  · refine run_rows hkm hlow nd (rowsL_first h1.1 h2.1 (by lia) fun i hi => ⟨(hc i hi).1, (hc i hi).2.2.1⟩) hbig (dec_rows hu (fun x hx => ?_) (fun x y hx hy e => ?_)) hq
    · rw [pairsOf_toList] at hx
      obtain ⟨m, -⟩ := zip_mem hx
      obtain ⟨r, a, T, t, u, hr, e, hm, _⟩ := hL.mem m
      refine ⟨a, r5f r, e, ⟨_, ⟨_, k _ _ (hled _ hm), rfl, _, rfl⟩, fun j hj => ?_, rfl⟩, ?_⟩
      · obtain ⟨a1, a2, a3, a4, a5⟩ := (mem_rowsL h1.1 fun i hi => ⟨(hc i hi).1, (hc i hi).2.2.1⟩).mp hr
        have p := hc _ a3
        match j, hj with
        | 0, _ => exact ⟨show r.1 < 128 by lia, _, rfl⟩
        | 1, _ => exact ⟨show r.2.1 < 128 by lia, _, rfl⟩
        | 2, _ => exact ⟨show r.2.2.1 < 128 by lia, _, rfl⟩
        | 3, _ => exact ⟨show r.2.2.2.1 < 128 by lia, _, rfl⟩
        | 4, _ => exact ⟨show r.2.2.2.2 < 128 by lia, _, rfl⟩
      · show n5 (rowV s.heap x.1) = _
        rw [e, rowV_of (hled _ hm)]
        rfl
    · rw [pairsOf_toList] at hx hy
      refine nodup_inj (g := fun v => n5 (rowV s.heap v)) (l := vs) ?_ (zip_mem hx).1 (zip_mem hy).1 e
      rw [← hmap, List.map_map] at nd
      exact nd
  · have hpl : r.toList.Perm (vs.zip vs) := by rw [← pairsOf_toList]; exact Array.perm_iff_toList_perm.mp hp
    have h21 : ∀ p ∈ r.toList, p.1 ∈ vs ∧ p.2 = p.1 := fun p hp => zip_mem (hpl.mem_iff.mp hp)
    have ew : (r.toList.map (·.2)).map (rowV s.heap) = r.toList.map fun p => rowV s.heap p.1 := by
      rw [List.map_map]
      exact List.map_congr_left fun p hp => by show rowV s.heap p.2 = _; rw [(h21 p hp).2]
    have esort : (r.toList.map fun p => rowV s.heap p.1) = allW mx my n c := by
      refine sorted_rows h1.1 small.2.1 small.2.2.1 small.2.2.2 ?_ ?_
      · rw [← hmap]
        have := hpl.map (fun p => rowV s.heap p.1)
        rw [zip_map] at this
        exact this
      · rw [List.pairwise_map] at hs ⊢
        exact hs
    refine h D (r.toList.map (·.2)) h' n' k hD ?_ (by rw [hg, show r.map (·.2) = (r.toList.map (·.2)).toArray from by rw [← Array.toList_map, Array.toArray_toList]])
    have := hL.of_map hled (r.toList.map (·.2)) fun v hv => by
      obtain ⟨p, hp, rfl⟩ := List.mem_map.mp hv
      rw [(h21 p hp).2]
      exact (h21 p hp).1
    rw [ew, esort] at this
    exact this
end
theorem allLt_ne {D : Addr} : ∀ {l : List (Addr × Obj)}, AllLt D l → ∀ p ∈ l, p.1 ≠ D
  | [], _, _, h => nomatch h
  | _ :: _, x, p, h => by
    rcases List.mem_cons.mp h with rfl | h
    · exact Nat.ne_of_lt x.1
    · exact allLt_ne x.2 p h
/-- groups of blocks on a ledger, each behind its key -/
noncomputable def GrpsLed (l : List (Addr × Obj)) : List Value → List Grp → Prop
  | [], [] => True
  | v :: vs, g :: gs => (∃ a k us n, v = .ref a ∧ (a, listOf (Value.ref k :: us).toArray n) ∈ l ∧ Tups l us g.2) ∧ GrpsLed l vs gs
  | _, _ => False
theorem GrpsLed.mono {l l' : List (Addr × Obj)} (k : ∀ p ∈ l, p ∈ l') : ∀ {vs : List Value} {gs : List Grp}, GrpsLed l vs gs → GrpsLed l' vs gs
  | [], [], _ => trivial
  | _ :: _, _ :: _, ⟨⟨a, ka, u, n, e, h, t⟩, r⟩ => ⟨⟨a, ka, u, n, e, k _ h, t.mono k⟩, GrpsLed.mono k r⟩
  | [], _ :: _, h => h.elim
  | _ :: _, [], h => h.elim
theorem GrpsLed.snoc {l : List (Addr × Obj)} {a k : Addr} {us : List Value} {n : Nat} {g : Grp} : ∀ {vs : List Value} {gs : List Grp}, GrpsLed l vs gs → (a, listOf (Value.ref k :: us).toArray n) ∈ l → Tups l us g.2 → GrpsLed l (vs ++ [.ref a]) (gs ++ [g])
  | [], [], _, h, t => ⟨⟨a, k, us, n, rfl, h, t⟩, trivial⟩
  | _ :: _, _ :: _, ⟨x, r⟩, h, t => ⟨x, GrpsLed.snoc r h t⟩
  | [], _ :: _, h, _, _ => h.elim
  | _ :: _, [], h, _, _ => h.elim
theorem GrpsLed.length {l : List (Addr × Obj)} : ∀ {vs : List Value} {gs : List Grp}, GrpsLed l vs gs → vs.length = gs.length
  | [], [], _ => rfl
  | _ :: _, _ :: _, h => congrArg (· + 1) (GrpsLed.length h.2)
  | [], _ :: _, h => h.elim
  | _ :: _, [], h => h.elim
theorem GrpsLed.get {l : List (Addr × Obj)} : ∀ {vs : List Value} {gs : List Grp}, GrpsLed l vs gs → ∀ {i : Nat} {v : Value}, vs[i]? = some v → ∃ a k us n g, gs[i]? = some g ∧ v = .ref a ∧ (a, listOf (Value.ref k :: us).toArray n) ∈ l ∧ Tups l us g.2
  | [], [], _, _, _, h => by cases h
  | _ :: _, g :: _, ⟨⟨a, ka, u, n, e, h', t⟩, _⟩, 0, _, h => by cases h; exact ⟨a, ka, u, n, g, rfl, e, h', t⟩
  | _ :: vs, _ :: gs, ⟨_, q⟩, i + 1, v, h => by
    rw [List.getElem?_cons_succ] at h ⊢
    exact GrpsLed.get q h
  | [], _ :: _, h, _, _, _ => h.elim
  | _ :: _, [], h, _, _, _ => h.elim
def GNil (fnd : Addr) (l nx : List (Addr × Obj)) : Prop := ∃ tl n, nx = (fnd, listOf #[] n) :: tl ∧ (∀ p ∈ l, p ∈ tl) ∧ ∀ p ∈ tl, p.1 ≠ fnd
def GCons (fnd : Addr) (l : List (Addr × Obj)) (P : List Grp) (k : Nat × Nat) (b : List Blk) (nx : List (Addr × Obj)) : Prop :=
  ∃ la ka us na vp nf t1 t2 tl, nx = (la, listOf (Value.ref ka :: us).toArray na) :: (fnd, listOf (vp ++ [Value.ref la]).toArray nf) :: tl ∧ GrpsLed tl vp P ∧ (ka, listOf [.int (k.1 : Int) t1, .int (k.2 : Int) t2].toArray 0) ∈ tl ∧
    Tups tl us b ∧ (∀ p ∈ l, p ∈ tl) ∧ (@Ne Nat la fnd) ∧ ∀ p ∈ tl, p.1 ∉ [la, fnd]
/-- the groups so far, on the ledger -/
def GLed (fnd : Addr) (l : List (Addr × Obj)) (G : List Grp) (nx : List (Addr × Obj)) : Prop := (G = [] ∧ GNil fnd l nx) ∨ ∃ P k b, G = P ++ [(k, b)] ∧ GCons fnd l P k b nx
theorem GLed.all {fnd : Addr} {l nx : List (Addr × Obj)} {G : List Grp} (h : GLed fnd l G nx) : ∃ vs nf, (fnd, listOf (List.toArray vs) nf) ∈ nx ∧ GrpsLed nx vs G := by
  rcases h with ⟨rfl, tl, n, rfl, _⟩ | ⟨P, k, b, rfl, la, ka, us, na, vp, nf, t1, t2, tl, rfl, hP, _, hT, _⟩
  · exact ⟨[], n, List.mem_cons_self .., trivial⟩
  · refine ⟨_, nf, List.mem_cons_of_mem _ (List.mem_cons_self ..), ?_⟩
    exact (hP.mono fun p hp => List.mem_cons_of_mem _ (List.mem_cons_of_mem _ hp)).snoc (List.mem_cons_self ..) (hT.mono fun p hp => List.mem_cons_of_mem _ (List.mem_cons_of_mem _ hp))
theorem GLed.sub {fnd : Addr} {l nx : List (Addr × Obj)} {G : List Grp} (h : GLed fnd l G nx) : ∀ p ∈ l, p ∈ nx := by
  rcases h with ⟨rfl, tl, n, rfl, hl, _⟩ | ⟨P, k, b, rfl, la, ka, us, na, vp, nf, t1, t2, tl, rfl, hP, _, hT, hl, _⟩
  · exact fun p hp => List.mem_cons_of_mem _ (hl p hp)
  · exact fun p hp => List.mem_cons_of_mem _ (List.mem_cons_of_mem _ (hl p hp))
section
variable {g h : Heap} {L : Addr} {s : Shared} {tk : Nat} {m m₀ : Str → Option Value} {st : List Str} {I fnd la ka T D2 D3 : Addr} {oI : Obj} {all l tl : List (Addr × Obj)} {f : R5 → Blk} {r : R5} {us vp : List Value} {na nf n3 : Nat} {P G : List Grp} {k : Nat × Nat} {b : List Blk} {t1 t2 : Tok} {u : Nat → Tok}
theorem grp_eq (F : Fr g L h m) (N : News g L h all) (sub : ∀ p ∈ (I, oI) :: (la, listOf ((Value.ref ka :: us).toArray.push (.ref T)) n3) :: (fnd, listOf (vp ++ [Value.ref la]).toArray nf) :: tl, p ∈ all)
    (hP : GrpsLed tl vp P) (hk : (ka, listOf [.int (k.1 : Int) t1, .int (k.2 : Int) t2].toArray 0) ∈ tl) (hT : Tups tl us b) (hl : ∀ p ∈ l, p ∈ tl) (hlf : (@Ne Nat la fnd)) (hoff : ∀ p ∈ tl, p.1 ∉ [la, fnd])
    (offI : ∀ p ∈ (la, listOf (Value.ref ka :: us).toArray na) :: (fnd, listOf (vp ++ [Value.ref la]).toArray nf) :: tl, p.1 ≠ I) (hr : (T, blkO (f r) u) ∈ tl) (e : k = (r.1, r.2.1)) (hO : Ovr st m₀ m) :
    TurnEnd g L s I oI (fun m' nx' => Ovr st m₀ m' ∧ GLed fnd l (grpStep f (P ++ [(k, b)]) r) nx') .next { s with heap := h, toks := tk } := by
  rw [List.push_toArray] at sub
  refine TurnEnd.intro F N ((la, listOf (Value.ref ka :: us ++ [Value.ref T]).toArray n3) :: (fnd, listOf (vp ++ [Value.ref la]).toArray nf) :: tl) sub (fun p hp => ?_) ⟨hO, .inr ⟨P, k, b ++ [f r], grpStep_eq e, la, ka, us ++ [.ref T], n3, vp, nf, t1, t2, tl, rfl, hP, hk, hT.snoc hr, hl, hlf, hoff⟩⟩
  revert hp; revert p
  exact all_cons (offI (la, listOf (Value.ref ka :: us).toArray na) (List.mem_cons_self ..)) (all_cons (offI (fnd, listOf (vp ++ [Value.ref la]).toArray nf) (.tail _ (.head _))) (fun p hp => offI p (.tail _ (.tail _ hp))))
theorem grp_new (F : Fr g L h m) (N : News g L h all) (sub : ∀ p ∈ (I, oI) :: (D3, listOf (#[Value.ref D2].push (.ref T)) n3) :: (fnd, listOf (vp.toArray.push (.ref D3)) nf) :: (D2, listOf [.int (r.1 : Int) t1, .int (r.2.1 : Int) t2].toArray 0) :: tl, p ∈ all)
    (hP : GrpsLed tl vp G) (hl : ∀ p ∈ l, p ∈ tl) (hf3 : (@Ne Nat fnd D3)) (h23 : (@Ne Nat D2 D3)) (h2f : (@Ne Nat D2 fnd)) (h2I : (@Ne Nat D2 I)) (h3I : (@Ne Nat D3 I)) (hfI : (@Ne Nat fnd I))
    (ho : ∀ p ∈ tl, p.1 ≠ fnd) (h3 : ∀ p ∈ tl, p.1 ≠ D3) (hI : ∀ p ∈ tl, p.1 ≠ I) (hr : (T, blkO (f r) u) ∈ tl) (e : grpStep f G r = G ++ [((r.1, r.2.1), [f r])]) (hO : Ovr st m₀ m) :
    TurnEnd g L s I oI (fun m' nx' => Ovr st m₀ m' ∧ GLed fnd l (grpStep f G r) nx') .next { s with heap := h, toks := tk } := by
  rw [List.push_toArray, List.push_toArray] at sub
  have sub' : ∀ p ∈ (I, oI) :: (D3, listOf (Value.ref D2 :: [Value.ref T]).toArray n3) :: (fnd, listOf (vp ++ [Value.ref D3]).toArray nf) :: (D2, listOf [Value.int (r.1 : Int) t1, Value.int (r.2.1 : Int) t2].toArray 0) :: tl, p ∈ all := sub
  refine TurnEnd.intro F N ((D3, listOf (Value.ref D2 :: [Value.ref T]).toArray n3) :: (fnd, listOf (vp ++ [Value.ref D3]).toArray nf) :: (D2, listOf [Value.int (r.1 : Int) t1, Value.int (r.2.1 : Int) t2].toArray 0) :: tl) sub' (fun p hp => ?_)
    ⟨hO, .inr ⟨G, (r.1, r.2.1), [f r], e, D3, D2, [.ref T], n3, vp, nf, t1, t2, _, rfl, hP.mono fun p hp => List.mem_cons_of_mem _ hp, List.mem_cons_self .., ⟨⟨T, u, rfl, List.mem_cons_of_mem _ hr⟩, trivial⟩, fun p hp => List.mem_cons_of_mem _ (hl p hp), Ne.symm hf3, fun p hp => ?_⟩⟩
  · revert hp; revert p
    exact all_cons (h3I) (all_cons (hfI) (all_cons (h2I) (fun p hp => hI p hp)))
  · rcases List.mem_cons.mp hp with rfl | hp
    · exact notc h23 (notc h2f List.not_mem_nil)
    · exact notc (h3 p hp) (notc (ho p hp) List.not_mem_nil)
end
/-- few groups, each of few blocks -/
def Few (N : Nat) (G : List Grp) : Prop := G.length ≤ N ∧ ∀ g ∈ G, g.2.length ≤ N
theorem few_step {f : R5 → Blk} {N : Nat} {G : List Grp} {r : R5} (h : Few N G) : Few (N + 1) (grpStep f G r) := by
  obtain ⟨h1, h2⟩ := h
  unfold grpStep
  split
  · refine ⟨by rw [List.length_append, List.length_singleton]; lia, fun g hg => ?_⟩
    rcases List.mem_append.mp hg with hg | hg
    · exact Nat.le_succ_of_le (h2 g hg)
    · rw [List.mem_singleton.mp hg]; exact Nat.succ_le_succ (Nat.zero_le _)
  · rename_i g hg
    have hm := List.mem_of_getLast? hg
    split
    · refine ⟨by rw [List.length_append, List.length_singleton, List.length_dropLast]; lia, fun g' hg' => ?_⟩
      rcases List.mem_append.mp hg' with hg' | hg'
      · exact Nat.le_succ_of_le (h2 g' (List.dropLast_subset _ hg'))
      · rw [List.mem_singleton.mp hg']
        show (g.2 ++ [f r]).length ≤ _
        rw [List.length_append, List.length_singleton]
        exact Nat.succ_le_succ (h2 g hm)
    · refine ⟨by rw [List.length_append, List.length_singleton]; lia, fun g' hg' => ?_⟩
      rcases List.mem_append.mp hg' with hg' | hg'
      · exact Nat.le_succ_of_le (h2 g' hg')
      · rw [List.mem_singleton.mp hg']; exact Nat.succ_le_succ (Nat.zero_le _)
theorem few_fold {f : R5 → Blk} : ∀ {l : List R5} {N : Nat} {G : List Grp}, Few N G → Few (N + l.length) (l.foldl (grpStep f) G)
  | [], _, _, h => h
  | r :: l, N, G, h => by
    rw [List.foldl_cons, List.length_cons, show N + (l.length + 1) = (N + 1) + l.length by lia]
    exact few_fold (few_step h)
theorem Few.mono {N M : Nat} {G : List Grp} (h : Few N G) (k : N ≤ M) : Few M G := ⟨Nat.le_trans h.1 k, fun g hg => Nat.le_trans (h.2 g hg) k⟩
theorem allW_len {mx my n : Nat} {c : Nat → Nat × Nat} (h1 : mx ≤ 4) (h2 : my ≤ 3) (hn : n ≤ 3) (hc : ∀ i, i < n → (c i).1 ≤ 3 ∧ (c i).2 ≤ 2) : (allW mx my n c).length ≤ 216 := by
  unfold allW
  refine Nat.le_trans (flat_len (B := 18) fun u _ => ?_) (Nat.mul_le_mul (Nat.mul_le_mul h1 h2) (Nat.le_refl 18))
  unfold unitW
  refine Nat.le_trans (flat_len (B := 6) fun i hi => ?_) (Nat.mul_le_mul hn (Nat.le_refl 6))
  have := hc i hi
  refine Nat.le_trans (flat_len (B := 3) fun dy _ => ?_) (Nat.mul_le_mul this.2 (Nat.le_refl 3))
  rw [List.length_map, List.length_range]
  exact this.1
section
variable {prog : Program} {w : World} {A : Around} {E : Value → Shared → Prop} {s : Shared} {h₀ : Heap} {L a : Addr} {m : Str → Option Value} {news : List (Addr × Obj)} {value slice : PySem.Expr} {Q : Value → Shared → Prop}
theorem slice_row {r : R5} {T : Addr} {t : Nat → Tok} {u : Tok} (F : Fr h₀ L s.heap m) (N : News h₀ L s.heap news) (ho : s.heap.get? a = some (rowO r T t))
    (h : ∀ D h', Fr h₀ L h' m → News h₀ L h' ((D, listOf [Value.int (r.1 : Int) (t 0), Value.int (r.2.1 : Int) (t 1)].toArray 0) :: news) → (∀ p ∈ news, p.1 < D) → Q (.ref D) { s with heap := h' })
    (hs : subscripted slice false (.ref a) (.ref s.heap.objs.size) = operate [.ref s.heap.objs.size, .ref a] (getItem (.ref a) (.ref s.heap.objs.size))) (ht : ∀ r, letTemporaryGo value (.ref a) r = pure ()) :
    wpAny (model prog w) A (subscriptTail value slice (.ref a) (.ref s.heap.objs.size)) Q E { s with heap := s.heap.push { cls := .type "slice", data := .fields #[.none, .int 2 u, .none] } } :=
  kms_slice_lit (lo := none) (hi := some 2) F N ⟨_, ho, rfl, _, rfl⟩ IsPart.none (IsPart.int _ _) (by rfl) h hs ht (by rw [sizeLine_eq]; exact Nat.le_of_ble_eq_true rfl)
theorem slice_tail {k : Addr} {us : List Value} {n : Nat} {u : Tok} (F : Fr h₀ L s.heap m) (N : News h₀ L s.heap news) (ho : s.heap.get? a = some (listOf (Value.ref k :: us).toArray n)) (hz : us.length ≤ 1000)
    (h : ∀ D h', Fr h₀ L h' m → News h₀ L h' ((D, listOf us.toArray 0) :: news) → (∀ p ∈ news, p.1 < D) → Q (.ref D) { s with heap := h' })
    (hs : subscripted slice false (.ref a) (.ref s.heap.objs.size) = operate [.ref s.heap.objs.size, .ref a] (getItem (.ref a) (.ref s.heap.objs.size))) (ht : ∀ r, letTemporaryGo value (.ref a) r = pure ()) :
    wpAny (model prog w) A (subscriptTail value slice (.ref a) (.ref s.heap.objs.size)) Q E { s with heap := s.heap.push { cls := .type "slice", data := .fields #[.int 1 u, .none, .none] } } :=
  kms_slice_lit (lo := some 1) (hi := none) (zs := us) F N ⟨_, ho, rfl, _, rfl⟩ (IsPart.int _ _) IsPart.none (by
    show ((Value.ref k :: us).drop (min 1 (us.length + 1))).take (us.length + 1 - min 1 (us.length + 1)) = us
    rw [Nat.min_eq_left (by lia)]
    simp) h hs ht (by rw [sizeLine_eq, List.size_toArray, List.length_cons]; lia)
/-- the last item of a list -/
theorem item_last {its : List Value} {v : Value} {n : Nat} {u : Tok} (ho : s.heap.get? a = some (listOf (its ++ [v]).toArray n)) (hz : its.length ≤ 1000000) (h : Q v s)
    (hs : subscripted slice false (.ref a) (.int (-1) u) = operate [.ref a, .int (-1) u] (getItem (.ref a) (.int (-1) u)) := by with_unfolding_all rfl) (hg : ∀ r, letTemporaryGo value (.ref a) r = pure () := by intro _; with_unfolding_all rfl) :
    wpAny (model prog w) A (subscriptTail value slice (.ref a) (.int (-1) u)) Q E s := by
  have hl : s.heap.IsList a (its ++ [v]).toArray := ⟨_, ho, rfl, _, rfl⟩
  refine subscriptTail_builtin hl.typeIs slot_list_getitem.lookup (wpAny_getItem_list_neg hl (by decide) (by rw [List.size_toArray, List.length_append, List.length_singleton]; lia) (by decide) ?_ h) hs hg
  rw [List.size_toArray, List.length_append, List.length_singleton]
  have e : (-1 + ((its.length + 1 : Nat) : Int)).toNat = its.length := by lia
  rw [e]
  simp
end
section
variable {prog : Program} {w : World} {p : Program} {loose : List Str} {mean : ExcName → Option Value} {mg mb : Str → Option Value} {dp un : Nat} {gd : Option (List Code)} {cn : Str} {cs : Scope} {a : Addr} {ccd : Value} {cl : List (Str × Addr)} {outer : List Env} {A₀ : Around} {base h₀ : Heap} {L : Addr} {m : Str → Option Value} {Q E : Value → Shared → Prop} {news : List (Addr × Obj)} {s : Shared}

local macro_rules
  | `(tactic| walk_at $k:str) => if ["call builtin:list.append", "subscriptTail Name Slice ref ref", "subscriptTail Name UnaryOp ref int", "call builtin:sorted", "compareOp Eq ref ref", "compareOp NotEq ref ref", "subscriptTail Name Name ref int", "subscriptTail Attribute Subscript ref int", "subscriptTail Name Subscript ref int", "subscriptTail Subscript Constant ref int"].contains k.getString then `(tactic| refine halt ?_) else Lean.Macro.throwUnsupported
theorem due_many_call {fr sz pl : Addr} {d : Fm} {ps : List Nat} {vps : List Value} (B : Below A₀ base outer h₀) (F : Fr h₀ L s.heap m) (X : (hd.heap_1 w.params).In h₀) (T : Top p loose mean mg mb h₀) (hk : cs.kind = .function) (hd : dp ≤ 930) (hu : un ≤ 9300)
    (hf : FrameAt w s.heap fr d) (ok : d.Ok) (hw : d.W ≤ 4 * d.n ∧ d.H ≤ 3 * d.n) (hz : SizesAt d s.heap sz) (hp : s.heap.IsList pl vps.toArray) (are : IntsAre vps (zints ps)) (po : PsOk d ps) (hone : ps.length ≠ 1)
    (h : DueQ h₀ L m s d ps Q) :
    wpAny (model prog w) (ktrTop dp un gd cn cs L a ccd cl outer) (call (.ref 235) [.ref fr, .ref sz, .ref pl]) Q E s := by
  have hlen := po.len
  obtain ⟨b1, b2, b3⟩ := ok.fit hw
  have hvl : vps.length = ps.length := by rw [IntsAre.length are, List.length_map]
  have hitem : ∀ i, i < ps.length → ∃ t, vps.toArray[i]? = some (.int ((ps.getD i 0 : Nat) : Int) t) := fun i hi => by
    obtain ⟨t, e⟩ := are.get i ((ps.getD i 0 : Nat) : Int) (by simp [hi])
    exact ⟨t, by simpa using e⟩
  clear are
  refine wpAny_call ?_
  refine code_defK (binds := [(Str.ofString "frame", .ref fr), (Str.ofString "sizes", .ref sz), (Str.ofString "places", .ref pl)]) B F X (news := []) News.nil T rfl rfl hk (by k_is) (by k_is) (rl hd rfl) (BindsTo.of_eq rfl) (by rfl) (by decide) ?_ rfl rfl rfl
  intro g L' h₁ tk cells KB FG F₁ N₁ Y CN B₁ X₁ T₁ env' A' q' e'
  have KP : Kp s.heap g := fun b o e => KB b o (fun h => nomatch h) e
  obtain ⟨o1, o2, hE, d1, d2⟩ := CellsAre.two Y
  subst hE
  clear Y CN KB
  obtain ⟨vs, n, l, hze, hS, hl⟩ := hz.kp KP
  have hlz : g.IsList sz vs.toArray := ⟨_, hze, rfl, _, rfl⟩
  obtain ⟨r, fi⟩ := hf.kp KP
  have hI := fi.inst
  have hn1 := ok.n1
  have hn2 := ok.n2
  have hP := list_kp hp KP
  have hc1 : ((ps.length : Nat) : Int) ≠ 1 := by omega
  k_steps
  refine unhalt ?_
  refine len_at (list_up hP (by k_asm)) (show _ = ps.length from by rw [List.size_toArray, hvl]) (by omega) ?_
  k_steps
  · exact absurd ‹((ps.length : Nat) : Int) = 1› hc1
  refine unhalt ?_
  rename_i rows _ _ _ _ _
  refine For_range [Str.ofString "at", Str.ofString "one", Str.ofString "high", Str.ofString "spot", Str.ofString "x", Str.ofString "y"] (by k_asm) rfl rfl rfl ?_
  k_steps
  refine unhalt ?_
  refine len_at (list_up hP (by k_asm)) (show _ = ps.length from by rw [List.size_toArray, hvl]) (by omega) ?_
  k_steps
  rename (∀ p : Addr × Obj, p ∈ _ → _ < _) => lt0
  have hWr : L' + 1 + 1 < rows := lt0 (L' + 1 + 1, o1) (by simp)
  have hVr : L' + 1 < rows := lt0 (L' + 1, o2) (by simp)
  have hRW : @Ne Nat rows (L' + 1 + 1) := Ne.symm (Nat.ne_of_lt hWr)
  refine unhalt ⟨_, ps.length, _, _, _, _, _, fun i nx => ∃ ow v0 vs n tl, ow.data = Data.cell v0 ∧ nx = (rows, listOf vs.toArray n) :: (L' + 1 + 1, ow) :: (L' + 1, o2) :: tl ∧ RowsLed (blkR (fun i => d.c (ps.getD i 0)) (fun i => ps.getD i 0)) tl vs ((List.range i).flatMap (rowsAt d.mx d.my fun i => d.c (ps.getD i 0))) ∧ ∀ p ∈ tl, p.1 ∉ [rows, L' + 1 + 1, L' + 1], rfl, by k_asm, by omega, by k_asm, by k_asm, ⟨_, _, [], 0, [], d1, rfl, trivial, fun _ h => nomatch h⟩, ?_, ?_⟩
  · intro i u nx ti I₁ o₁ h₃ tk₃ hi hK off₁ F₃ N₃ Qt₁ hQ₁
    obtain ⟨ow, v0, vr, nn, tl, dw, rfl, hT, hTo⟩ := hK
    have hTw : ∀ p ∈ tl, p.1 ≠ L' + 1 + 1 := fun p hp => (notl (notl (hTo p hp)).2).1
    obtain ⟨tp, hit⟩ := hitem i hi
    have hxx := po.at hi
    have hxm := ok.each _ (List.mem_of_getElem? hxx)
    obtain ⟨cc, rc, hcit, hC⟩ := fi.item hxx
    obtain ⟨a, b, c, na, tw, th, hv, ha, hb, hc⟩ := hS.get hxx
    have la : g.IsList a #[.ref b, .ref c] := ⟨_, hl _ ha, rfl, _, rfl⟩
    have lb : g.IsList b #[.int ((d.pw (d.c (ps.getD i 0)) : Nat) : Int) (tw 0), .int ((d.bw (d.c (ps.getD i 0)) : Nat) : Int) (tw 1), .int ((d.mx * (d.c (ps.getD i 0)).1 : Nat) : Int) (tw 2)] := ⟨_, hl _ hb, rfl, _, rfl⟩
    have lc : g.IsList c #[.int ((d.ph (d.c (ps.getD i 0)) : Nat) : Int) (th 0), .int ((d.bh (d.c (ps.getD i 0)) : Nat) : Int) (th 1), .int ((d.my * (d.c (ps.getD i 0)).2 : Nat) : Int) (th 2)] := ⟨_, hl _ hc, rfl, _, rfl⟩
    have hwd : d.mx * (d.c (ps.getD i 0)).1 ≤ 100 := Nat.le_trans (Nat.mul_le_mul b1.2 hxm.2.1) (by decide)
    have hhg : d.my * (d.c (ps.getD i 0)).2 ≤ 100 := Nat.le_trans (Nat.mul_le_mul b2.2 hxm.2.2.2) (by decide)
    k_steps
    refine unhalt ?_
    refine item_at (list_up hP (by k_asm)) rfl (by omega) hit ?_
    k_steps
    refine unhalt ?_
    refine item_at (list_up fi.list (by k_asm)) rfl (ok.idx hxx) hcit ?_
    k_steps
    refine unhalt ?_
    refine item_at (list_up hP (by k_asm)) rfl (by omega) hit ?_
    k_steps
    refine unhalt ?_
    refine item_at (list_up hlz (by k_asm)) rfl (ok.idx hxx) (by simpa using hv) ?_
    k_steps
    refine unhalt ?_
    refine item_at (list_up la (by k_asm)) (i := 0) rfl (by decide) rfl ?_
    k_steps
    refine unhalt ?_
    refine item_at (list_up lb (by k_asm)) (i := 2) (v := .int ((d.mx * (d.c (ps.getD i 0)).1 : Nat) : Int) (tw 2)) rfl (by decide) rfl ?_
    k_steps
    refine unhalt ?_
    refine item_at (list_up hP (by k_asm)) rfl (by omega) hit ?_
    k_steps
    refine unhalt ?_
    refine item_at (list_up hlz (by k_asm)) rfl (ok.idx hxx) (by simpa using hv) ?_
    k_steps
    refine unhalt ?_
    refine item_at (list_up la (by k_asm)) (i := 1) rfl (by decide) rfl ?_
    k_steps
    refine unhalt ?_
    refine item_at (list_up lc (by k_asm)) (i := 2) (v := .int ((d.my * (d.c (ps.getD i 0)).2 : Nat) : Int) (th 2)) rfl (by decide) rfl ?_
    k_steps
    have hIW : @Ne Nat I₁ (L' + 1 + 1) := Ne.symm (off₁ (L' + 1 + 1, ow) (by simp))
    have hVW : ∀ p ∈ (L' + 1, o2) :: tl, p.1 ≠ L' + 1 + 1 := fun p hp => by
      rcases List.mem_cons.mp hp with rfl | hp
      · exact Nat.ne_of_lt (Nat.lt_succ_self _)
      · exact hTw p hp
    rename (_ < _ ∧ _) => ltD
    rename News g L' _ _ => NB
    rename Fr g L' _ _ => FB
    refine storeX_C (v := .int ((d.mx * (d.c (ps.getD i 0)).1 : Nat) : Int) (tw 2)) FB NB rfl (.tail (Ne.symm (Nat.ne_of_lt ltD.2.2.1)) (.tail hIW (.tail hRW (.head hVW)))) dw ?_
    intro h₄ ow₄ F₄ N₄ dw₄
    k_sweep
    k_steps
    refine unhalt ?_
    refine For_range [Str.ofString "spot", Str.ofString "x", Str.ofString "y"] (by k_asm) rfl rfl rfl ?_
    have w1 : 1 ≤ d.mx * (d.c (ps.getD i 0)).1 := Nat.mul_pos b1.1 hxm.1
    have wp := cpos w1
    have wl := clt hwd (z := 100000) rfl
    have ap := cpos hxm.1
    have al := clt hxm.2.1 (z := 100000) rfl
    have dp := cpos hxm.2.2.1
    have dl := clt hxm.2.2.2 (z := 100000) rfl
    have hIr : @Ne Nat rows I₁ := off₁ _ (List.mem_cons_self ..)
    have hN2 : d.mx * (d.c (ps.getD i 0)).1 * (d.my * (d.c (ps.getD i 0)).2) ≤ 10000 := Nat.mul_le_mul hwd hhg
    k_steps
    rename News g L' _ _ => NZ
    refine unhalt ⟨_, d.mx * (d.c (ps.getD i 0)).1 * (d.my * (d.c (ps.getD i 0)).2), _, _, _, _, _, fun j nx => ∃ vs n tl, nx = (I₁, o₁) :: (rows, listOf vs.toArray n) :: (L' + 1 + 1, ow₄) :: (L' + 1, o2) :: tl ∧ RowsLed (blkR (fun i => d.c (ps.getD i 0)) (fun i => ps.getD i 0)) tl vs ((List.range i).flatMap (rowsAt d.mx d.my fun i => d.c (ps.getD i 0)) ++ (List.range j).map (rowAt (fun i => d.c (ps.getD i 0)) i (d.mx * (d.c (ps.getD i 0)).1))) ∧ ∀ p ∈ tl, p.1 ∉ [I₁, rows, L' + 1 + 1, L' + 1], rfl, by rw [Int.natCast_mul]; k_asm, by omega, by k_asm, News.sub NZ (fun p hp => .tail _ hp), ⟨vr, nn, tl, rfl, by simpa using hT, fun p hp => notc (off₁ p (by simp [hp])) (hTo p hp)⟩, ?_, ?_⟩
    · intro j u2 nx2 tj I₂ o₂ h₅ tk₅ hj hK off₂ F₅ N₅ Qt₂ hQ₂
      obtain ⟨vr2, nn2, tl2, rfl, hT2, hTo2⟩ := hK
      k_steps
      refine unhalt ?_
      refine item_at (list_up hP (by k_asm)) rfl (by omega) hit ?_
      k_steps
      rename_i D3 _ lt3 _ _ _ _ _ D4 _ lt4 D5 _ FB2 NB2 lt5
      have hrl : vr2.length ≤ 60000 := by
        rw [hT2.length, List.length_append, List.length_map, List.length_range]
        have h1 := flat_len (n := i) (f := rowsAt d.mx d.my fun i => d.c (ps.getD i 0)) (B := 10000) fun i' hi' => by
          rw [rowsAt_len]
          have hm := ok.each _ (List.mem_of_getElem? (po.at (show i' < ps.length by omega)))
          exact Nat.mul_le_mul (Nat.le_trans (Nat.mul_le_mul b1.2 hm.2.1) (show 4 * 3 ≤ 100 by decide)) (Nat.le_trans (Nat.mul_le_mul b2.2 hm.2.2.2) (show 3 * 2 ≤ 100 by decide))
        omega
      refine unhalt ?_
      refine append_K FB2 NB2 (.tail (Ne.symm (Nat.ne_of_lt lt5.2.2.2.2.1)) (.tail (Ne.symm (Nat.ne_of_lt lt4.2.2.2.1)) (.tail (Ne.symm (Nat.ne_of_lt lt3.2.2.1)) (.tail (Ne.symm (off₂ (rows, _) (.tail _ (.head _)))) (.tail (Ne.symm hIr) (.head fun p hp => ?_)))))) ?_ (by rw [List.size_toArray, sizeLine_eq]; omega)
      · revert hp; revert p
        exact all_cons (Ne.symm hRW) (all_cons (Nat.ne_of_lt hVr) (fun p hp => (notl (notl (hTo2 p hp)).2).1))
      intro h₆ F₆ N₆
      clear FB2 NB2
      k_sweep
      k_steps
      refine hQ₂ _ ?_
      (try dsimp only)
      rw [List.range_succ, List.map_append, ← List.append_assoc]
      refine rows_turn (rowAt (fun i => d.c (ps.getD i 0)) i (d.mx * (d.c (ps.getD i 0)).1) j) F₆ N₆ ⟨by rw [fdivN, fdivN]; rfl, by rw [fmodN, fdivN]; rfl, rfl, by rw [fdivN, fmodN]; rfl, by rw [fmodN, fmodN]; rfl⟩ ⟨rfl, rfl, ?_, ?_⟩ hT2 lt4 lt5 off₂ hTo2 (((Ovr.of.set (by decide)).set (by decide)).set (by decide))
      · rw [fmodN]; exact congrArg _ (Nat.div_add_mod' ..)
      · rw [fdivN]; exact congrArg _ (Nat.div_add_mod' ..)
    · intro u2 nx2 h₅ tk₅ hK F₅ N₅
      obtain ⟨vr2, nn2, tl2, rfl, hT2, hTo2⟩ := hK
      k_steps
      refine hQ₁ _ ?_
      refine TurnEnd.intro F₅ N₅ _ (fun _ h => h) (fun p hp => ?_) ⟨(((Ovr.of.set (by decide)).set (by decide)).set (by decide)).trans Ovr.of (by decide), ow₄, _, vr2, nn2, tl2, dw₄, rfl, ?_, fun p hp => (notl (hTo2 p hp)).2⟩
      · revert hp; revert p
        exact all_cons (hIr) (all_cons (off₁ (L' + 1 + 1, ow) (by simp)) (all_cons (off₁ (L' + 1, o2) (by simp)) (fun p hp => (notl (hTo2 p hp)).1)))
      · rw [List.range_succ, List.flatMap_append]
        simpa [rowsAt] using hT2
  · intro u nx h₃ tk₃ hK F₃ N₃
    obtain ⟨ow, v0, vr, nn, tl, dw, rfl, hT, hTo⟩ := hK
    k_steps
    refine unhalt ?_
    rename_i fnd _ _ _ lt9 _ FB NB
    refine For_list [Str.ofString "row"] (by k_asm) rfl rfl rfl ?_
    k_steps
    refine unhalt ?_
    refine sorted_R ⟨_, (NB (rows, listOf vr.toArray nn) (.tail _ (.head _))).1, rfl, _, rfl⟩ hT (fun p hp => (NB p (.tail _ (.tail _ (.tail _ (.tail _ hp))))).1) ?_ b1 b2 (by have := List.length_pos_iff.mpr po.ne; omega) hlen ?_ ?_
    · show un + 3 + 1 + 1 < 9900
      omega
    · intro i hi
      have hm := po.at hi
      have h1 := ok.each _ (List.mem_of_getElem? hm)
      have h2 := b3 _ (List.mem_of_getElem? hm)
      exact ⟨h1.1, h1.2.1, h1.2.2.1, h1.2.2.2, h2.1, h2.2⟩
    intro D ws h₄ n' KP₄ hD hW hDo
    obtain ⟨N₄, off₄⟩ := news_add FB NB KP₄ hD hDo
    have F₄ := FB.keeps KP₄
    clear NB FB
    have N₅ : News g L' h₄ ((fnd, listOf #[] 0) :: (D, listOf ws.toArray n') :: tl) := News.sub N₄ (by repeat' first | refine all_cons ?_ ?_ | exact List.Mem.head _ | exact List.Mem.tail _ (List.Mem.head _) | exact List.Mem.tail _ (List.Mem.tail _ (List.Mem.head _)) | exact List.Mem.tail _ (List.Mem.tail _ (List.Mem.tail _ (List.Mem.head _))) | exact List.Mem.tail _ (List.Mem.tail _ (List.Mem.tail _ (List.Mem.tail _ (List.Mem.head _)))) | exact List.Mem.tail _ (List.Mem.tail _ (List.Mem.tail _ (List.Mem.tail _ (List.Mem.tail _ (List.Mem.head _))))) | exact List.Mem.tail _ (List.Mem.tail _ (List.Mem.tail _ (List.Mem.tail _ (List.Mem.tail _ (List.Mem.tail _ (List.Mem.head _)))))) | exact List.Mem.tail _ (List.Mem.tail _ (List.Mem.tail _ (List.Mem.tail _ (List.Mem.tail _ (List.Mem.tail _ (List.Mem.tail _ (List.Mem.head _))))))) | exact List.Mem.tail _ (List.Mem.tail _ (List.Mem.tail _ (List.Mem.tail _ (List.Mem.tail _ (List.Mem.tail _ (List.Mem.tail _ (List.Mem.tail _ (List.Mem.head _)))))))) | exact fun _ h => h | exact fun _ h => List.Mem.tail _ (h) | exact fun _ h => List.Mem.tail _ (List.Mem.tail _ (h)) | exact fun _ h => List.Mem.tail _ (List.Mem.tail _ (List.Mem.tail _ (h))) | exact fun _ h => List.Mem.tail _ (List.Mem.tail _ (List.Mem.tail _ (List.Mem.tail _ (h)))) | exact fun _ h => List.Mem.tail _ (List.Mem.tail _ (List.Mem.tail _ (List.Mem.tail _ (List.Mem.tail _ (h))))) | exact fun _ h => List.Mem.tail _ (List.Mem.tail _ (List.Mem.tail _ (List.Mem.tail _ (List.Mem.tail _ (List.Mem.tail _ (h)))))) | exact fun _ h => List.Mem.tail _ (List.Mem.tail _ (List.Mem.tail _ (List.Mem.tail _ (List.Mem.tail _ (List.Mem.tail _ (List.Mem.tail _ (h))))))) | exact fun _ h => List.Mem.tail _ (List.Mem.tail _ (List.Mem.tail _ (List.Mem.tail _ (List.Mem.tail _ (List.Mem.tail _ (List.Mem.tail _ (List.Mem.tail _ (h)))))))) | exact all_nil)
    clear N₄
    have hfT := allLt_ne lt9.2.2.2
    refine unhalt ⟨_, _, _, _, fun i nx => GLed fnd ((D, listOf ws.toArray n') :: tl) (((allW d.mx d.my ps.length fun i => d.c (ps.getD i 0)).take i).foldl (grpStep (blkR (fun i => d.c (ps.getD i 0)) fun i => ps.getD i 0)) []) nx, rfl, F₄, N₅, fun i nx hG => .inr ⟨_, hG.sub _ (List.mem_cons_self ..), rfl, _, rfl⟩, .inl ⟨rfl, _, 0, rfl, fun _ h => h, fun p hp => ?_⟩, ?_, ?_⟩
    · rcases List.mem_cons.mp hp with rfl | hp
      · exact Ne.symm (off₄ (fnd, listOf #[] 0) (List.mem_cons_self ..))
      · exact hfT p hp
    · intro i u₂ nx v I oI h₅ tk₅ hit hK off F₅ N₆ Qt hQ
      obtain ⟨r₁, a₁, T₁', t₁, u₁, hr, rfl, hm, hmT⟩ := hW.get (i := i) (v := v) (by simpa using hit)
      have hstep : ((allW d.mx d.my ps.length fun i => d.c (ps.getD i 0)).take (i + 1)).foldl (grpStep (blkR (fun i => d.c (ps.getD i 0)) fun i => ps.getD i 0)) [] = grpStep (blkR (fun i => d.c (ps.getD i 0)) fun i => ps.getD i 0) (((allW d.mx d.my ps.length fun i => d.c (ps.getD i 0)).take i).foldl (grpStep (blkR (fun i => d.c (ps.getD i 0)) fun i => ps.getD i 0)) []) r₁ := by
        rw [List.take_add_one, hr, List.foldl_append]
        rfl
      have hfew : Few 300 (((allW d.mx d.my ps.length fun i => d.c (ps.getD i 0)).take i).foldl (grpStep (blkR (fun i => d.c (ps.getD i 0)) fun i => ps.getD i 0)) []) := by
        refine (few_fold (N := 0) (G := []) ⟨Nat.le_refl 0, fun _ h => nomatch h⟩).mono ?_
        rw [Nat.zero_add, List.length_take]
        refine Nat.le_trans (Nat.min_le_right ..) (Nat.le_trans (allW_len b1.2 b2.2 hlen fun i hi => ?_) (show 216 ≤ 300 by decide))
        have h1 := ok.each _ (List.mem_of_getElem? (po.at hi))
        exact ⟨h1.2.1, h1.2.2.2⟩
      dsimp only at hK hQ
      rw [hstep] at hQ
      clear hstep hr hit
      generalize ((allW d.mx d.my ps.length fun i => d.c (ps.getD i 0)).take i).foldl (grpStep (blkR (fun i => d.c (ps.getD i 0)) fun i => ps.getD i 0)) [] = G at hK hQ hfew
      have hu2 : A'.units + 64 < cLine := by show un + 3 + 64 < 9900; omega
      rcases hK with ⟨rfl, tl₂, n₂, rfl, hl₂, ho₂⟩ | ⟨P, k, b, rfl, la, ka, us, na, vp, nf, t1, t2, tl₂, rfl, hP, hka, hTu, hl₂, hlf, ho₂⟩
      · k_steps
        refine unhalt ?_
        rename News g L' _ _ => NB
        rename (I < _ ∧ _) => ltA
        refine PySem.P.eq_list (n := n₂) (n2 := 0) (NB _ (.tail _ (.tail _ (.head _)))).1 (NB _ (.head _)).1 rfl (e := fun _ => true) (fun j h1 => absurd h1 (Nat.not_lt_zero _)) (Nat.lt_of_le_of_lt (Nat.le_add_right _ 64) hu2) ?_
        k_steps
        refine unhalt ?_
        refine slice_row (by k_asm) NB (NB (a₁, rowO r₁ T₁' t₁) (.tail _ (.tail _ (.tail _ (hl₂ _ (.tail _ hm)))))).1 ?_ (by with_unfolding_all rfl) (by intro _; with_unfolding_all rfl)
        intro D2 h₇ F₇ N₇ lt2
        clear NB
        k_sweep
        k_steps
        refine unhalt ?_
        rename_i D3 _ FB NB lt3
        have hIf : @Ne Nat I fnd := Ne.symm (off (fnd, listOf #[] n₂) (.head _))
        have h2f : fnd < D2 := lt2 (fnd, listOf #[] n₂) (.tail _ (.tail _ (.head _)))
        have h2I : I < D2 := lt2 (I, oI) (.tail _ (.head _))
        refine append_K FB NB (.tail (Ne.symm (Nat.ne_of_lt lt3.2.2.2.1)) (.tail (Ne.symm (Nat.ne_of_lt h2f)) (.tail (Ne.symm (Nat.ne_of_lt ltA.2.1)) (.tail hIf (.head ho₂))))) ?_ (Nat.zero_le _)
        intro h₈ F₈ N₈
        clear NB FB
        k_sweep
        k_steps
        refine unhalt ?_
        rename News g L' _ _ => NB
        refine item_last (its := []) (v := .ref D3) (n := n₂ + 1) (by have hp := (NB (fnd, listOf (#[].push (.ref D3)) (n₂ + 1)) (by simp)).1; rw [List.push_toArray] at hp; exact hp) (Nat.zero_le _) ?_
        k_steps
        refine unhalt ?_
        refine item_at (i := 5) (v := .ref T₁') ⟨_, (NB (a₁, rowO r₁ T₁' t₁) (.tail _ (.tail _ (.tail _ (.tail _ (.tail _ (hl₂ _ (.tail _ hm)))))))).1, rfl, _, rfl⟩ rfl (by decide) rfl ?_
        k_steps
        refine unhalt ?_
        refine append_K (D := D3) (its := #[.ref D2]) (n := 0) (by k_asm) NB (.head fun p hp => ?_) ?_ (by rw [sizeLine_eq]; exact Nat.le_of_ble_eq_true rfl)
        · revert hp; revert p
          exact all_cons (Nat.ne_of_lt lt3.1) (all_cons (Nat.ne_of_lt lt3.2.1) (all_cons (Nat.ne_of_lt lt3.2.2.1) (all_cons (Nat.ne_of_lt lt3.2.2.2.1) (fun p hp => allLt_ne lt3.2.2.2.2 p hp))))
        intro h₉ F₉ N₉
        clear NB
        k_sweep
        k_steps
        refine hQ _ ?_
        exact grp_new (vp := []) (G := []) (D2 := D2) (D3 := D3) (n3 := 0 + 1) (nf := n₂ + 1) (t1 := t₁ 0) (t2 := t₁ 1) F₉ N₉ (by repeat' first | refine all_cons ?_ ?_ | exact List.Mem.head _ | exact List.Mem.tail _ (List.Mem.head _) | exact List.Mem.tail _ (List.Mem.tail _ (List.Mem.head _)) | exact List.Mem.tail _ (List.Mem.tail _ (List.Mem.tail _ (List.Mem.head _))) | exact List.Mem.tail _ (List.Mem.tail _ (List.Mem.tail _ (List.Mem.tail _ (List.Mem.head _)))) | exact List.Mem.tail _ (List.Mem.tail _ (List.Mem.tail _ (List.Mem.tail _ (List.Mem.tail _ (List.Mem.head _))))) | exact List.Mem.tail _ (List.Mem.tail _ (List.Mem.tail _ (List.Mem.tail _ (List.Mem.tail _ (List.Mem.tail _ (List.Mem.head _)))))) | exact List.Mem.tail _ (List.Mem.tail _ (List.Mem.tail _ (List.Mem.tail _ (List.Mem.tail _ (List.Mem.tail _ (List.Mem.tail _ (List.Mem.head _))))))) | exact List.Mem.tail _ (List.Mem.tail _ (List.Mem.tail _ (List.Mem.tail _ (List.Mem.tail _ (List.Mem.tail _ (List.Mem.tail _ (List.Mem.tail _ (List.Mem.head _)))))))) | exact fun _ h => h | exact fun _ h => List.Mem.tail _ (h) | exact fun _ h => List.Mem.tail _ (List.Mem.tail _ (h)) | exact fun _ h => List.Mem.tail _ (List.Mem.tail _ (List.Mem.tail _ (h))) | exact fun _ h => List.Mem.tail _ (List.Mem.tail _ (List.Mem.tail _ (List.Mem.tail _ (h)))) | exact fun _ h => List.Mem.tail _ (List.Mem.tail _ (List.Mem.tail _ (List.Mem.tail _ (List.Mem.tail _ (h))))) | exact fun _ h => List.Mem.tail _ (List.Mem.tail _ (List.Mem.tail _ (List.Mem.tail _ (List.Mem.tail _ (List.Mem.tail _ (h)))))) | exact fun _ h => List.Mem.tail _ (List.Mem.tail _ (List.Mem.tail _ (List.Mem.tail _ (List.Mem.tail _ (List.Mem.tail _ (List.Mem.tail _ (h))))))) | exact fun _ h => List.Mem.tail _ (List.Mem.tail _ (List.Mem.tail _ (List.Mem.tail _ (List.Mem.tail _ (List.Mem.tail _ (List.Mem.tail _ (List.Mem.tail _ (h)))))))) | exact all_nil) trivial hl₂
          (Nat.ne_of_lt lt3.2.2.2.1) (Nat.ne_of_lt lt3.1) (Ne.symm (Nat.ne_of_lt h2f)) (Ne.symm (Nat.ne_of_lt h2I)) (Ne.symm (Nat.ne_of_lt lt3.2.2.1)) (Ne.symm hIf) ho₂ (allLt_ne lt3.2.2.2.2) (fun p hp => off p (.tail _ hp)) (hl₂ _ (.tail _ hmT)) grpStep_nil (Ovr.of.set (by decide))
      · have hvp : vp.length ≤ 300 := by
          rw [hP.length]
          have := hfew.1
          rw [List.length_append] at this
          omega
        have hul : us.length ≤ 300 := by
          rw [hTu.length]
          exact hfew.2 (k, b) (by simp)
        have offl : @Ne Nat la I := off (la, listOf (Value.ref ka :: us).toArray na) (.head _)
        have offf : @Ne Nat fnd I := off (fnd, listOf (vp ++ [Value.ref la]).toArray nf) (.tail _ (.head _))
        have hola : ∀ p ∈ tl₂, p.1 ≠ la := fun p hp => (notl (ho₂ p hp)).1
        have hofn : ∀ p ∈ tl₂, p.1 ≠ fnd := fun p hp => (notl (notl (ho₂ p hp)).2).1
        k_steps
        refine unhalt ?_
        rename News g L' _ _ => NB
        rename (I < _ ∧ _) => ltA
        refine PySem.P.eq_list_lengths (n := nf) (n2 := 0) (NB (fnd, listOf (vp ++ [Value.ref la]).toArray nf) (.tail _ (.tail _ (.tail _ (.head _))))).1 (NB _ (.head _)).1 (by simp) (Nat.lt_of_le_of_lt (Nat.le_add_right _ 64) hu2) ?_
        k_steps
        refine unhalt ?_
        refine item_last (its := vp) (v := .ref la) (n := nf) (NB (fnd, listOf (vp ++ [Value.ref la]).toArray nf) (.tail _ (.tail _ (.tail _ (.head _))))).1 (by omega) ?_
        k_steps
        refine unhalt ?_
        refine item_at (i := 0) (v := .ref ka) ⟨_, (NB (la, listOf (Value.ref ka :: us).toArray na) (.tail _ (.tail _ (.head _)))).1, rfl, _, rfl⟩ rfl (by decide) rfl ?_
        k_steps
        refine unhalt ?_
        refine slice_row (by k_asm) NB (NB (a₁, rowO r₁ T₁' t₁) (.tail _ (.tail _ (.tail _ (.tail _ (hl₂ _ (.tail _ hm))))))).1 ?_ (by with_unfolding_all rfl) (by intro _; with_unfolding_all rfl)
        intro D1 h₇ F₇ N₇ ltB
        clear NB
        k_sweep
        k_steps
        refine unhalt ?_
        have b1I : I < D1 := ltB (I, oI) (.tail _ (.head _))
        have b1l : la < D1 := ltB (la, listOf (Value.ref ka :: us).toArray na) (.tail _ (.tail _ (.head _)))
        have b1f : fnd < D1 := ltB (fnd, listOf (vp ++ [Value.ref la]).toArray nf) (.tail _ (.tail _ (.tail _ (.head _))))
        refine ne_intsK (ns := [(k.1 : Int), (k.2 : Int)]) (ms := [(r₁.1 : Int), (r₁.2.1 : Int)]) ⟨_, (N₇ (ka, listOf [.int (k.1 : Int) t1, .int (k.2 : Int) t2].toArray 0) (.tail _ (.tail _ (.tail _ (.tail _ (.tail _ hka)))))).1, rfl, _, rfl⟩ (.cons _ _ (.cons _ _ .nil)) ⟨_, (N₇ _ (.head _)).1, rfl, _, rfl⟩ (.cons _ _ (.cons _ _ .nil)) hu2 ?_
        by_cases e : k = (r₁.1, r₁.2.1)
        · have hd : (!decide ([(k.1 : Int), (k.2 : Int)] = [(r₁.1 : Int), (r₁.2.1 : Int)])) = false := by rw [e]; simp
          rw [hd]
          k_steps
          refine unhalt ?_
          rename News g L' _ _ => NB
          refine item_last (its := vp) (v := .ref la) (n := nf) (NB (fnd, listOf (vp ++ [Value.ref la]).toArray nf) (.tail _ (.tail _ (.tail _ (.tail _ (.head _)))))).1 (by omega) ?_
          k_steps
          refine unhalt ?_
          refine item_at (i := 5) (v := .ref T₁') ⟨_, (NB (a₁, rowO r₁ T₁' t₁) (.tail _ (.tail _ (.tail _ (.tail _ (.tail _ (hl₂ _ (.tail _ hm)))))))).1, rfl, _, rfl⟩ rfl (by decide) rfl ?_
          k_steps
          refine unhalt ?_
          refine append_K (D := la) (its := (Value.ref ka :: us).toArray) (n := na) (by k_asm) NB (.tail (Ne.symm (Nat.ne_of_lt b1l)) (.tail (Ne.symm (Nat.ne_of_lt ltA.2.1)) (.tail (Ne.symm offl) (.head fun p hp => ?_)))) ?_ (by rw [sizeLine_eq, List.size_toArray, List.length_cons]; omega)
          · rcases List.mem_cons.mp hp with rfl | hp
            · exact Ne.symm hlf
            · exact hola p hp
          intro h₉ F₉ N₉
          clear NB
          k_sweep
          k_steps
          refine hQ _ ?_
          exact grp_eq (n3 := na + 1) F₉ N₉ (by repeat' first | refine all_cons ?_ ?_ | exact List.Mem.head _ | exact List.Mem.tail _ (List.Mem.head _) | exact List.Mem.tail _ (List.Mem.tail _ (List.Mem.head _)) | exact List.Mem.tail _ (List.Mem.tail _ (List.Mem.tail _ (List.Mem.head _))) | exact List.Mem.tail _ (List.Mem.tail _ (List.Mem.tail _ (List.Mem.tail _ (List.Mem.head _)))) | exact List.Mem.tail _ (List.Mem.tail _ (List.Mem.tail _ (List.Mem.tail _ (List.Mem.tail _ (List.Mem.head _))))) | exact List.Mem.tail _ (List.Mem.tail _ (List.Mem.tail _ (List.Mem.tail _ (List.Mem.tail _ (List.Mem.tail _ (List.Mem.head _)))))) | exact List.Mem.tail _ (List.Mem.tail _ (List.Mem.tail _ (List.Mem.tail _ (List.Mem.tail _ (List.Mem.tail _ (List.Mem.tail _ (List.Mem.head _))))))) | exact List.Mem.tail _ (List.Mem.tail _ (List.Mem.tail _ (List.Mem.tail _ (List.Mem.tail _ (List.Mem.tail _ (List.Mem.tail _ (List.Mem.tail _ (List.Mem.head _)))))))) | exact fun _ h => h | exact fun _ h => List.Mem.tail _ (h) | exact fun _ h => List.Mem.tail _ (List.Mem.tail _ (h)) | exact fun _ h => List.Mem.tail _ (List.Mem.tail _ (List.Mem.tail _ (h))) | exact fun _ h => List.Mem.tail _ (List.Mem.tail _ (List.Mem.tail _ (List.Mem.tail _ (h)))) | exact fun _ h => List.Mem.tail _ (List.Mem.tail _ (List.Mem.tail _ (List.Mem.tail _ (List.Mem.tail _ (h))))) | exact fun _ h => List.Mem.tail _ (List.Mem.tail _ (List.Mem.tail _ (List.Mem.tail _ (List.Mem.tail _ (List.Mem.tail _ (h)))))) | exact fun _ h => List.Mem.tail _ (List.Mem.tail _ (List.Mem.tail _ (List.Mem.tail _ (List.Mem.tail _ (List.Mem.tail _ (List.Mem.tail _ (h))))))) | exact fun _ h => List.Mem.tail _ (List.Mem.tail _ (List.Mem.tail _ (List.Mem.tail _ (List.Mem.tail _ (List.Mem.tail _ (List.Mem.tail _ (List.Mem.tail _ (h)))))))) | exact all_nil) hP hka hTu hl₂ hlf ho₂ off (hl₂ _ (.tail _ hmT)) e (Ovr.of.set (by decide))
        · have hd : (!decide ([(k.1 : Int), (k.2 : Int)] = [(r₁.1 : Int), (r₁.2.1 : Int)])) = true := by
            rw [Bool.not_eq_true', decide_eq_false_iff_not]
            intro q
            injection q with q1 q2
            injection q2 with q2 _
            exact e (Prod.ext (Int.ofNat.inj q1) (Int.ofNat.inj q2))
          rw [hd]
          k_steps
          refine unhalt ?_
          rename News g L' _ _ => NB
          refine slice_row (by k_asm) NB (NB (a₁, rowO r₁ T₁' t₁) (.tail _ (.tail _ (.tail _ (.tail _ (.tail _ (hl₂ _ (.tail _ hm)))))))).1 ?_ (by with_unfolding_all rfl) (by intro _; with_unfolding_all rfl)
          intro D2 h₈ F₈ N₈ ltC
          clear NB
          k_sweep
          k_steps
          refine unhalt ?_
          rename_i D3 _ FB NB lt3
          have b2I : I < D2 := ltC (I, oI) (.tail _ (.tail _ (.head _)))
          have b2l : la < D2 := ltC (la, listOf (Value.ref ka :: us).toArray na) (.tail _ (.tail _ (.tail _ (.head _))))
          have b2f : fnd < D2 := ltC (fnd, listOf (vp ++ [Value.ref la]).toArray nf) (.tail _ (.tail _ (.tail _ (.tail _ (.head _)))))
          refine append_K (D := fnd) (its := (vp ++ [Value.ref la]).toArray) (n := nf) FB NB (.tail (Ne.symm (Nat.ne_of_lt lt3.2.2.2.2.2.1)) (.tail (Ne.symm (Nat.ne_of_lt b2f)) (.tail (Ne.symm (Nat.ne_of_lt b1f)) (.tail (Ne.symm (Nat.ne_of_lt ltA.2.2.1)) (.tail (Ne.symm offf) (.tail hlf (.head hofn))))))) ?_ (by rw [sizeLine_eq, List.size_toArray, List.length_append, List.length_singleton]; omega)
          intro h₉ F₉ N₉
          clear NB FB
          k_sweep
          k_steps
          refine unhalt ?_
          rename News g L' _ _ => NB
          refine item_last (its := vp ++ [Value.ref la]) (v := .ref D3) (n := nf + 1) (by have hp := (NB (fnd, listOf ((vp ++ [Value.ref la]).toArray.push (.ref D3)) (nf + 1)) (by simp)).1; rw [List.push_toArray] at hp; exact hp) (by rw [List.length_append, List.length_singleton]; omega) ?_
          k_steps
          refine unhalt ?_
          refine item_at (i := 5) (v := .ref T₁') ⟨_, (NB (a₁, rowO r₁ T₁' t₁) (.tail _ (.tail _ (.tail _ (.tail _ (.tail _ (.tail _ (.tail _ (hl₂ _ (.tail _ hm)))))))))).1, rfl, _, rfl⟩ rfl (by decide) rfl ?_
          k_steps
          refine unhalt ?_
          refine append_K (D := D3) (its := #[.ref D2]) (n := 0) (by k_asm) NB (.head fun p hp => ?_) ?_ (by rw [sizeLine_eq]; exact Nat.le_of_ble_eq_true rfl)
          · revert hp; revert p
            exact all_cons (Nat.ne_of_lt lt3.1) (all_cons (Nat.ne_of_lt lt3.2.1) (all_cons (Nat.ne_of_lt lt3.2.2.1) (all_cons (Nat.ne_of_lt lt3.2.2.2.1) (all_cons (Nat.ne_of_lt lt3.2.2.2.2.1) (all_cons (Nat.ne_of_lt lt3.2.2.2.2.2.1) (fun p hp => allLt_ne lt3.2.2.2.2.2.2 p hp))))))
          intro h₁₀ F₁₀ N₁₀
          clear NB
          k_sweep
          k_steps
          refine hQ _ ?_
          refine grp_new (vp := vp ++ [Value.ref la]) (tl := (la, listOf (Value.ref ka :: us).toArray na) :: tl₂) (D2 := D2) (D3 := D3) (n3 := 0 + 1) (nf := nf + 1) (t1 := t₁ 0) (t2 := t₁ 1) F₁₀ N₁₀ (by repeat' first | refine all_cons ?_ ?_ | exact List.Mem.head _ | exact List.Mem.tail _ (List.Mem.head _) | exact List.Mem.tail _ (List.Mem.tail _ (List.Mem.head _)) | exact List.Mem.tail _ (List.Mem.tail _ (List.Mem.tail _ (List.Mem.head _))) | exact List.Mem.tail _ (List.Mem.tail _ (List.Mem.tail _ (List.Mem.tail _ (List.Mem.head _)))) | exact List.Mem.tail _ (List.Mem.tail _ (List.Mem.tail _ (List.Mem.tail _ (List.Mem.tail _ (List.Mem.head _))))) | exact List.Mem.tail _ (List.Mem.tail _ (List.Mem.tail _ (List.Mem.tail _ (List.Mem.tail _ (List.Mem.tail _ (List.Mem.head _)))))) | exact List.Mem.tail _ (List.Mem.tail _ (List.Mem.tail _ (List.Mem.tail _ (List.Mem.tail _ (List.Mem.tail _ (List.Mem.tail _ (List.Mem.head _))))))) | exact List.Mem.tail _ (List.Mem.tail _ (List.Mem.tail _ (List.Mem.tail _ (List.Mem.tail _ (List.Mem.tail _ (List.Mem.tail _ (List.Mem.tail _ (List.Mem.head _)))))))) | exact fun _ h => h | exact fun _ h => List.Mem.tail _ (h) | exact fun _ h => List.Mem.tail _ (List.Mem.tail _ (h)) | exact fun _ h => List.Mem.tail _ (List.Mem.tail _ (List.Mem.tail _ (h))) | exact fun _ h => List.Mem.tail _ (List.Mem.tail _ (List.Mem.tail _ (List.Mem.tail _ (h)))) | exact fun _ h => List.Mem.tail _ (List.Mem.tail _ (List.Mem.tail _ (List.Mem.tail _ (List.Mem.tail _ (h))))) | exact fun _ h => List.Mem.tail _ (List.Mem.tail _ (List.Mem.tail _ (List.Mem.tail _ (List.Mem.tail _ (List.Mem.tail _ (h)))))) | exact fun _ h => List.Mem.tail _ (List.Mem.tail _ (List.Mem.tail _ (List.Mem.tail _ (List.Mem.tail _ (List.Mem.tail _ (List.Mem.tail _ (h))))))) | exact fun _ h => List.Mem.tail _ (List.Mem.tail _ (List.Mem.tail _ (List.Mem.tail _ (List.Mem.tail _ (List.Mem.tail _ (List.Mem.tail _ (List.Mem.tail _ (h)))))))) | exact all_nil)
            ((hP.mono fun p hp => .tail _ hp).snoc (.head _) (hTu.mono fun p hp => .tail _ hp)) (fun p hp => .tail _ (hl₂ p hp)) (Nat.ne_of_lt lt3.2.2.2.2.2.1) (Nat.ne_of_lt lt3.1) (Ne.symm (Nat.ne_of_lt b2f)) (Ne.symm (Nat.ne_of_lt b2I)) (Ne.symm (Nat.ne_of_lt lt3.2.2.2.1)) offf (fun p hp => ?_) (fun p hp => ?_) (fun p hp => ?_) (.tail _ (hl₂ _ (.tail _ hmT))) (grpStep_ne e) (Ovr.of.set (by decide))
          · rcases List.mem_cons.mp hp with rfl | hp
            · exact hlf
            · exact hofn p hp
          · rcases List.mem_cons.mp hp with rfl | hp
            · exact Nat.ne_of_lt lt3.2.2.2.2.1
            · exact allLt_ne lt3.2.2.2.2.2.2 p hp
          · rcases List.mem_cons.mp hp with rfl | hp
            · exact offl
            · exact off p (.tail _ (.tail _ hp))
    · intro u₃ nx h₅ tk₅ hG F₅ N₆
      (try dsimp only at hG)
      have hsz : ws.toArray.size = (allW d.mx d.my ps.length fun i => d.c (ps.getD i 0)).length := by rw [List.size_toArray, hW.length]
      rw [hsz, List.take_length] at hG
      have hfew : Few 300 ((allW d.mx d.my ps.length fun i => d.c (ps.getD i 0)).foldl (grpStep (blkR (fun i => d.c (ps.getD i 0)) fun i => ps.getD i 0)) []) := by
        refine (few_fold (N := 0) (G := []) ⟨Nat.le_refl 0, fun _ h => nomatch h⟩).mono ?_
        rw [Nat.zero_add]
        refine Nat.le_trans (allW_len b1.2 b2.2 hlen fun i hi => ?_) (show 216 ≤ 300 by decide)
        have h1 := ok.each _ (List.mem_of_getElem? (po.at hi))
        exact ⟨h1.2.1, h1.2.2.2⟩
      have hgrp : (allW d.mx d.my ps.length fun i => d.c (ps.getD i 0)).foldl (grpStep (blkR (fun i => d.c (ps.getD i 0)) fun i => ps.getD i 0)) [] = (List.range (d.mx * d.my)).map fun u => (((u / d.mx, u % d.mx), unitL d ps (u % d.mx) (u / d.mx)) : Grp) := by
        unfold allW
        rw [grp_all (List.length_pos_iff.mpr po.ne) fun i hi => by have h1 := ok.each _ (List.mem_of_getElem? (po.at hi)); exact ⟨h1.1, h1.2.2.1⟩]
        refine List.map_congr_left fun u _ => ?_
        rw [unitW_map, unitL, if_neg hone]
        rfl
      rw [hgrp] at hG hfew
      obtain ⟨gv, nf, hfm, hGr⟩ := hG.all
      have hgl : gv.length = d.mx * d.my := by rw [hGr.length, List.length_map, List.length_range]
      have hmm : d.mx * d.my ≤ 4 * 3 := Nat.mul_le_mul b1.2 b2.2
      clear hG hgrp
      k_steps
      refine unhalt ?_
      refine LCg.ListComp_U (cl := []) (by k_asm) (by rfl) (by decide) rfl (by decide) rfl ?_
      k_steps
      refine unhalt ?_
      refine LCg.CompSrc.ledger rfl (by k_asm) (by k_asm) hfm (by rw [sizeLine_eq, List.size_toArray]; omega) (fun g₂ => compRest_of (n := gv.toArray.size)
        (fun i ys nx' => (∀ p ∈ nx, p ∈ nx') ∧ Lists nx' ys ((List.range i).map fun i => unitL d ps (i % d.mx) (i / d.mx))) ?step ?fin _ 0 (Nat.zero_add _) [] nx ⟨fun _ h => h, trivial⟩)
      case step =>
        rintro i ys nx' hi ⟨hsub, hL⟩ v I oI C oC D m₂ h tk E' hP hN hx F₂ N₂ off ne
        obtain ⟨a₂, k₂, us, n₂, g₃, hg, rfl, hm, hT⟩ := hGr.get (i := i) (v := v) (by simpa using hP)
        have hus : us.length ≤ 1000 := by
          rw [hT.length]
          exact Nat.le_trans (hfew.2 g₃ (List.mem_of_getElem? hg)) (by decide)
        have hi' : i < d.mx * d.my := by rw [List.size_toArray, hgl] at hi; exact hi
        have eg : g₃.2 = unitL d ps (i % d.mx) (i / d.mx) := by
          rw [List.getElem?_map, List.getElem?_range hi', Option.map_some] at hg
          rw [← Option.some.inj hg]
        k_steps
        refine unhalt ?_
        refine slice_tail F₂ N₂ (N₂ (a₂, listOf (Value.ref k₂ :: us).toArray n₂) (.tail _ (.tail _ (.tail _ (hsub _ hm))))).1 hus ?_ (by with_unfolding_all rfl) (by intro _; with_unfolding_all rfl)
        intro D2 h₆ F₆ N₇ lt2
        refine LCg.CompEnd.intro F₆ N₇ ((D2, listOf us.toArray 0) :: nx') (fun p hp => ?_) ⟨⟨Ne.symm (Nat.ne_of_lt (lt2 (I, oI) (.head _))), Ne.symm (Nat.ne_of_lt (lt2 (C, oC) (.tail _ (.head _)))), Ne.symm (Nat.ne_of_lt (lt2 (D, LCg.lst ys) (.tail _ (.tail _ (.head _)))))⟩, off⟩ (.inr ⟨_, .tail _ (hsub _ hfm), rfl, _, rfl⟩) ⟨fun p hp => .tail _ (hsub p hp), ?_⟩
        · revert hp; revert p
          exact (by repeat' first | refine all_cons ?_ ?_ | exact List.Mem.head _ | exact List.Mem.tail _ (List.Mem.head _) | exact List.Mem.tail _ (List.Mem.tail _ (List.Mem.head _)) | exact List.Mem.tail _ (List.Mem.tail _ (List.Mem.tail _ (List.Mem.head _))) | exact List.Mem.tail _ (List.Mem.tail _ (List.Mem.tail _ (List.Mem.tail _ (List.Mem.head _)))) | exact List.Mem.tail _ (List.Mem.tail _ (List.Mem.tail _ (List.Mem.tail _ (List.Mem.tail _ (List.Mem.head _))))) | exact List.Mem.tail _ (List.Mem.tail _ (List.Mem.tail _ (List.Mem.tail _ (List.Mem.tail _ (List.Mem.tail _ (List.Mem.head _)))))) | exact List.Mem.tail _ (List.Mem.tail _ (List.Mem.tail _ (List.Mem.tail _ (List.Mem.tail _ (List.Mem.tail _ (List.Mem.tail _ (List.Mem.head _))))))) | exact List.Mem.tail _ (List.Mem.tail _ (List.Mem.tail _ (List.Mem.tail _ (List.Mem.tail _ (List.Mem.tail _ (List.Mem.tail _ (List.Mem.tail _ (List.Mem.head _)))))))) | exact fun _ h => h | exact fun _ h => List.Mem.tail _ (h) | exact fun _ h => List.Mem.tail _ (List.Mem.tail _ (h)) | exact fun _ h => List.Mem.tail _ (List.Mem.tail _ (List.Mem.tail _ (h))) | exact fun _ h => List.Mem.tail _ (List.Mem.tail _ (List.Mem.tail _ (List.Mem.tail _ (h)))) | exact fun _ h => List.Mem.tail _ (List.Mem.tail _ (List.Mem.tail _ (List.Mem.tail _ (List.Mem.tail _ (h))))) | exact fun _ h => List.Mem.tail _ (List.Mem.tail _ (List.Mem.tail _ (List.Mem.tail _ (List.Mem.tail _ (List.Mem.tail _ (h)))))) | exact fun _ h => List.Mem.tail _ (List.Mem.tail _ (List.Mem.tail _ (List.Mem.tail _ (List.Mem.tail _ (List.Mem.tail _ (List.Mem.tail _ (h))))))) | exact fun _ h => List.Mem.tail _ (List.Mem.tail _ (List.Mem.tail _ (List.Mem.tail _ (List.Mem.tail _ (List.Mem.tail _ (List.Mem.tail _ (List.Mem.tail _ (h)))))))) | exact all_nil)
        · rw [List.range_succ, List.map_append]
          rw [eg] at hT
          exact (hL.mono fun p hp => .tail _ hp).snoc (.head _) (hT.mono fun p hp => .tail _ (hsub p hp))
      case fin =>
        rintro ys nx' ⟨hsub, hL⟩ D h₃ tk F₂ N₂ off
        dsimp only
        k_steps
        have hux : d.ux ps = d.mx := by rw [Fm.ux, if_neg hone]
        have huy : d.uy ps = d.my := by rw [Fm.uy, if_neg hone]
        refine h D ys _ nx' _ _ ?_ (KP.trans ?_) (fun p hp => ⟨(N₂ p hp).1, fresh_of KP N₂ hp⟩) ?_ (fun p hp => ?_)
        · k_asm
        · exact F₂.keep
        · rw [hux, huy]
          rw [List.size_toArray, hgl] at hL
          exact hL
        · exact off1_mem off p hp
end
section
variable {prog : Program} {w : World} {p : Program} {loose : List Str} {mean : ExcName → Option Value} {mg mb : Str → Option Value} {dp un : Nat} {gd : Option (List Code)} {cn : Str} {cs : Scope} {a : Addr} {ccd : Value} {cl : List (Str × Addr)} {outer : List Env} {A₀ : Around} {base h₀ : Heap} {L : Addr} {m : Str → Option Value} {Q E : Value → Shared → Prop} {news : List (Addr × Obj)} {s : Shared}

theorem due_call {fr sz pl : Addr} {d : Fm} {ps : List Nat} {vps : List Value} (B : Below A₀ base outer h₀) (F : Fr h₀ L s.heap m) (X : (hd.heap_1 w.params).In h₀) (T : Top p loose mean mg mb h₀) (hk : cs.kind = .function) (hd : dp ≤ 930) (hu : un ≤ 9300)
    (hf : FrameAt w s.heap fr d) (ok : d.Ok) (hw : d.W ≤ 4 * d.n ∧ d.H ≤ 3 * d.n) (hz : SizesAt d s.heap sz) (hp : s.heap.IsList pl vps.toArray) (are : IntsAre vps (zints ps)) (po : PsOk d ps)
    (h : DueQ h₀ L m s d ps Q) :
    wpAny (model prog w) (ktrTop dp un gd cn cs L a ccd cl outer) (call (.ref 235) [.ref fr, .ref sz, .ref pl]) Q E s := by
  by_cases h1 : ps.length = 1
  · exact due_one_call B F X T hk hd hu ok hz hp are po h1 h
  · exact due_many_call B F X T hk hd hu hf ok hw hz hp are po h1 h
end
section
variable {prog : Program} {w : World} {A : Around} {E : Value → Shared → Prop} {s : Shared} {env : Env} {h₀ : Heap} {Q : Flow → Shared → Prop}
/-- the end of a turn that may make generators, each of them bare -/
def TurnEndG (h₀ : Heap) (L : Addr) (s : Shared) (I : Addr) (oI : Obj) (J : (Str → Option Value) → List (Addr × Obj) → Prop) (f : Flow) (s' : Shared) : Prop :=
  Halt (f = .next ∧ ∃ h' tk' gs' m' nx', s' = { s with heap := h', toks := tk', gens := gs' } ∧ AllBare gs' ∧ Fr h₀ L h' m' ∧ News h₀ L h' ((I, oI) :: nx') ∧ (∀ p ∈ nx', p.1 ≠ I) ∧ J m' nx')
theorem TurnEndG.intro {L : Addr} {I : Addr} {oI : Obj} {J : (Str → Option Value) → List (Addr × Obj) → Prop} {h' : Heap} {tk' : Nat} {gs' : Array GenState} {m' : Str → Option Value} {all : List (Addr × Obj)} (F : Fr h₀ L h' m') (N : News h₀ L h' all) (bare : AllBare gs') (nx' : List (Addr × Obj))
    (sub : ∀ p ∈ (I, oI) :: nx', p ∈ all) (off : ∀ p ∈ nx', p.1 ≠ I) (j : J m' nx') : TurnEndG h₀ L s I oI J .next { s with heap := h', toks := tk', gens := gs' } :=
  ⟨rfl, h', tk', gs', m', nx', rfl, bare, F, fun p hp => N p (sub p hp), off, j⟩
theorem For_rangeG (st : List Str) {x : Str} {px pos : Pos} {iter : PySem.Expr} {body : List Stmt} {m : Str → Option Value} (_F₀ : Fr h₀ env.locals s.heap m)
    (hx : env.kindOf x = some .local) (hp : (env.scope.kind == .class || (env.scope.kind == .module && env.locals != env.globals)) = false) (hh : A.handled = none)
    (h : wpAny (model prog w) A (eval iter env) (fun xv s₁ => Halt (∃ (r : Addr) (n : Nat) (t u v : Tok) (m₁ : Str → Option Value) (news : List (Addr × Obj)) (K : Nat → List (Addr × Obj) → Prop),
      xv = .ref r ∧ IsRange s₁.heap r 0 (n : Int) 1 t u v ∧ n < 1000000 ∧ Fr h₀ env.locals s₁.heap m₁ ∧ News h₀ env.locals s₁.heap news ∧ K 0 news ∧ AllBare s₁.gens ∧
      (∀ i u nx t I oI h tk gs, i < n → AllBare gs → K i nx → (∀ p ∈ nx, p.1 ≠ I) → Fr h₀ env.locals h (fun y => if y = x then some (.int (i : Int) t) else ovr st u m₁ y) → News h₀ env.locals h ((I, oI) :: nx) →
        ∀ Qt : Flow → Shared → Prop, (∀ s', TurnEndG h₀ env.locals s₁ I oI (fun m' nx' => Ovr st m₁ m' ∧ K (i + 1) nx') .next s' → Qt .next s') → wpAny (model prog w) A (execs body env) Qt (fun _ _ => False) { s₁ with heap := h, toks := tk, gens := gs }) ∧
      (∀ u nx h tk gs, AllBare gs → K n nx → Fr h₀ env.locals h (ovr st u m₁) → News h₀ env.locals h nx → Q .next { s₁ with heap := h, toks := tk, gens := gs }))) E s)
    (hs : ∀ x, foldedSetIterable iter env x = pure x := by intro _; rfl) :
    wpAny (model prog w) A (exec (.For (.Name x px) iter body [] pos) env) Q E s := by
  refine wpAny_For (wpAny_mono h (fun xv s₁ h₁ => ?_) fun _ _ e => e) hs
  obtain ⟨r, n, t, u, v, m₁, news, K, rfl, hr, hn, F, N, h0, bare0, turn, done⟩ := h₁
  have hsz := rsz n
  refine wpAny_pyIter_range hr (rsm n hn) ?_
  have up : ∀ b o, s₁.heap.get? b = some o → (s₁.heap.push { cls := .type "range_iterator", data := .fields #[rawInt 0, rawInt (Builtin.Range.rangeSize 0 (n : Int) 1), rawInt 1] }).get? b = some o := fun b o e => Heap.get?_push_of_some _ e
  have W := LCg.range_walks (prog := prog) (w := w) (I := s₁.heap.objs.size) hh 0 n
  have hI₀ : h₀.get? s₁.heap.objs.size = none := next_is_new F
  have hlt := F.ns.lt
  have hLf : env.locals ∉ [s₁.heap.objs.size] := fun hm => absurd hlt ((List.mem_singleton.mp hm) ▸ Nat.lt_irrefl _)
  have hLI : env.locals ≠ s₁.heap.objs.size := fun e => hLf (e ▸ List.mem_singleton.mpr rfl)
  generalize hI : s₁.heap.objs.size = I at *
  refine codeAny_forLoop (fun k s' => ∃ h' tk gs i u nx, s' = { s₁ with heap := h', toks := tk, gens := gs } ∧ AllBare gs ∧ i ≤ n ∧ k = n + 1 - i ∧ IsRangeIter h' I (0 + (i : Nat) * 1) ((n : Int) - (i : Nat)) 1 ∧ Fr h₀ env.locals h' (ovr st u m₁) ∧ News h₀ env.locals h' nx ∧ (∀ p ∈ nx, p.1 ≠ I) ∧ K i nx) ?_ (n + 1)
    ⟨_, s₁.toks, s₁.gens, 0, m₁, news, rfl, bare0, Nat.zero_le _, rfl, ?_, ?_, N.grown up, fun p hp => ?_, h0⟩
  · rintro k s' ⟨h', tk, gs, i, u₂, nx, rfl, bare, hi, rfl, hst', F', N', off', hJ⟩
    by_cases hlt : i < n
    · refine W.item i _ _ _ hlt hst' fun v h₂ tk₂ hPv hst₂ hk₂ => ?_
      have F₂ := LCg.fr_but F' hk₂ hLI hI₀
      have N₂ := LCg.news_but N' hk₂ off'
      refine wpAny_assign_Name (wpAny_storeName_local hx F₂.ns (fun h₃ hn₃ hs₃ => ?_) hp)
      have hst₃ := W.frame _ _ _ hst₂ fun b hb o e => hs₃.extBut b o (fun q => hLf (q ▸ hb)) e
      have F₃ := F₂.set hn₃ hs₃
      obtain ⟨tv, rfl⟩ := hPv
      rw [Int.zero_add] at F₃
      have N₃ : News h₀ env.locals h₃ ((I, _) :: nx) := fun p hp => by
        rcases List.mem_cons.mp hp with rfl | hp
        · exact ⟨hst₃, Ne.symm hLI, hI₀⟩
        · exact N₂.set hs₃ p hp
      refine wpAny_mono (turn i u₂ nx tv I _ h₃ (tk₂ + 1) gs hlt bare hJ off' F₃ N₃ _ fun _ e => e) (fun f s₃ h => ?_) fun _ _ e => e.elim
      obtain ⟨rfl, h₄, tk₄, gs₄, m₄, nx₄, rfl, bare₄, F₄, N₄, off₄, hO₄, hJ₄⟩ := h
      obtain ⟨u₄, rfl⟩ := hO₄.ex
      exact ⟨n + 1 - (i + 1), by lia, h₄, tk₄, gs₄, i + 1, u₄, nx₄, rfl, bare₄, hlt, rfl, (N₄ _ List.mem_cons_self).1, F₄, (fun p hp => N₄ p (List.mem_cons_of_mem _ hp)), off₄, hJ₄⟩
    · obtain rfl : i = n := Nat.le_antisymm hi (Nat.not_lt.mp hlt)
      refine W.done _ _ _ hst' fun h₂ tk₂ hk₂ => wpAny_execs_nil ?_
      exact done u₂ nx h₂ tk₂ gs bare hJ (LCg.fr_but F' hk₂ hLI hI₀) (LCg.news_but N' hk₂ off')
  · show IsRangeIter _ _ _ _ _
    rw [hsz, ← hI]
    simpa using Heap.get?_push_size _ rfl
  · rw [show ovr st m₁ m₁ = m₁ from funext fun z => by dsimp only [ovr]; split <;> rfl]
    exact F.keeps up
  · rw [← hI]
    exact Nat.ne_of_lt (Heap.lt_size (N p hp).1)
end
def blkD (b : Blk) : PyData := .tuple [.int (b.1 : Int), .int (b.2.1 : Int), .int (b.2.2.1 : Int), .int (b.2.2.2 : Int)]
def untD (b : List Blk) : PyData := .list (b.map blkD)
theorem reads_tups {h : Heap} {l : List (Addr × Obj)} (k : ∀ p ∈ l, h.get? p.1 = some p.2) : ∀ {vs : List Value} {bs : List Blk}, Tups l vs bs → ∃ as, ReadsAll h vs (bs.map blkD) as
  | [], [], _ => ⟨[], .nil⟩
  | v :: vs, b :: bs, ⟨⟨a, t, e, m⟩, q⟩ => by
    obtain ⟨as, r⟩ := reads_tups k q
    subst e
    exact ⟨_, .cons (reads_tuple_at (k _ m) rfl rfl (.cons (.int _ _) (.cons (.int _ _) (.cons (.int _ _) (.cons (.int _ _) .nil))))) r⟩
  | [], _ :: _, q => q.elim
  | _ :: _, [], q => q.elim
theorem reads_lists {h : Heap} {l : List (Addr × Obj)} (k : ∀ p ∈ l, h.get? p.1 = some p.2) : ∀ {vs : List Value} {bs : List (List Blk)}, Lists l vs bs → ∃ as, ReadsAll h vs (bs.map untD) as
  | [], [], _ => ⟨[], .nil⟩
  | v :: vs, b :: bs, ⟨⟨a, us, n, e, m, t⟩, q⟩ => by
    obtain ⟨as, r⟩ := reads_lists k q
    obtain ⟨cs, r'⟩ := reads_tups k t
    subst e
    exact ⟨_, .cons (reads_list_at (k _ m) rfl rfl r') r⟩
  | [], _ :: _, q => q.elim
  | _ :: _, [], q => q.elim
theorem lay_blks : ∀ bs : List Blk, PyData.canLayAll0 (bs.map blkD) = true ∧ PyData.depthAll (bs.map blkD) ≤ 1
  | [] => ⟨rfl, Nat.zero_le _⟩
  | b :: bs => by
    obtain ⟨h1, h2⟩ := lay_blks bs
    refine ⟨?_, ?_⟩
    · simp [blkD, PyData.canLayAll0, PyData.canLay0, h1]
    · simp only [List.map_cons, PyData.depthAll]
      exact Nat.max_le.mpr ⟨by simp [blkD, PyData.depth, PyData.depthAll], h2⟩
theorem lay_unts : ∀ bs : List (List Blk), PyData.canLayAll0 (bs.map untD) = true ∧ PyData.depthAll (bs.map untD) ≤ 2
  | [] => ⟨rfl, Nat.zero_le _⟩
  | b :: bs => by
    obtain ⟨h1, h2⟩ := lay_unts bs
    obtain ⟨g1, g2⟩ := lay_blks b
    refine ⟨?_, ?_⟩
    · simp [untD, PyData.canLayAll0, PyData.canLay0, h1, g1]
    · simp only [List.map_cons, PyData.depthAll]
      exact Nat.max_le.mpr ⟨by simp only [untD, PyData.depth]; lia, h2⟩
theorem eqv_blks : ∀ bs : List Blk, PyData.eqvAll (bs.map blkD) (bs.map blkD) = true
  | [] => by simp [PyData.eqvAll]
  | b :: bs => by simp [PyData.eqvAll, blkD, PyData.eqv, eqv_blks bs]
theorem eqv_unts : ∀ bs : List (List Blk), PyData.eqvAll (bs.map untD) (bs.map untD) = true
  | [] => by simp [PyData.eqvAll]
  | b :: bs => by simp [PyData.eqvAll, untD, PyData.eqv, eqv_unts bs, eqv_blks b]
section
variable {prog : Program} {w : World} {A : Around} {E : Value → Shared → Prop} {s : Shared} {a b : Addr} {l l' : List (Addr × Obj)} {vs us : List Value} {n n' : Nat} {Q : Value → Shared → Prop}
theorem ne_lists {bs : List (List Blk)} (ha : s.heap.get? a = some (listOf vs.toArray n)) (hb : s.heap.get? b = some (listOf us.toArray n')) (k : ∀ p ∈ l, s.heap.get? p.1 = some p.2) (k' : ∀ p ∈ l', s.heap.get? p.1 = some p.2) (L : Lists l vs bs) (L' : Lists l' us bs) (hu : A.units + 64 < cLine) (h : Q (.bool false) s) :
    wpAny (model prog w) A (compareOp .NotEq (.ref a) (.ref b)) Q E s := by
  obtain ⟨as, r⟩ := reads_lists k L
  obtain ⟨as', r'⟩ := reads_lists k' L'
  obtain ⟨g1, g2⟩ := lay_unts bs
  have sh : SeqAt.shaped (.list (bs.map untD)) = true := by
    simp only [SeqAt.shaped, PyData.canLay0, g1, PyData.depth, Bool.true_and]
    exact decide_eq_true (by lia)
  refine ne_dataH (reads_list_at ha rfl rfl r) (reads_list_at hb rfl rfl r') sh sh hu ?_
  rw [PyData.eqv, eqv_unts]
  exact h
theorem ne_tups {bs : List Blk} (ha : s.heap.get? a = some (listOf vs.toArray n)) (hb : s.heap.get? b = some (listOf us.toArray n')) (k : ∀ p ∈ l, s.heap.get? p.1 = some p.2) (k' : ∀ p ∈ l', s.heap.get? p.1 = some p.2) (L : Tups l vs bs) (L' : Tups l' us bs) (hu : A.units + 64 < cLine) (h : Q (.bool false) s) :
    wpAny (model prog w) A (compareOp .NotEq (.ref a) (.ref b)) Q E s := by
  obtain ⟨as, r⟩ := reads_tups k L
  obtain ⟨as', r'⟩ := reads_tups k' L'
  obtain ⟨g1, g2⟩ := lay_blks bs
  have sh : SeqAt.shaped (.list (bs.map blkD)) = true := by
    simp only [SeqAt.shaped, PyData.canLay0, g1, PyData.depth, Bool.true_and]
    exact decide_eq_true (by lia)
  refine ne_dataH (reads_list_at ha rfl rfl r) (reads_list_at hb rfl rfl r') sh sh hu ?_
  rw [PyData.eqv, eqv_blks]
  exact h
end
section
open PyProof.Rows.LCg PyProof.Rows.LCt
variable {prog : Program} {w : World} {A : Around} {h₀ : Heap} {L : Addr} {m : Str → Option Value} {env : Env} {ct elt : PySem.Expr} {x : Str} {scope : Scope} {cl : List (Str × Addr)} {s : Shared} {S : List (Addr × Obj) → Prop} {P : Nat → Value → Prop} {Fin : List Value → List (Addr × Obj) → Prop}
/-- a comprehension with a test, by an invariant -/
theorem compRestT_of {n : Nat} (J : Nat → List Value → List (Addr × Obj) → Prop)
    (step : ∀ i ys news, i < n → J i ys news → ∀ v I oI C oC D m₂ h tk (E' : Value → Shared → Prop), P i v → NsObj oC m₂ → m₂ x = some v → Fr h₀ L h m → News h₀ L h ((I, oI) :: (C, oC) :: (D, lst ys) :: news) → Off3 I C D news → ((@Ne Nat I C) ∧ (@Ne Nat I D) ∧ (@Ne Nat C D)) →
      wpAny (model prog w) A (isTrue ct (compEnvC scope cl C env) (eval ct (compEnvC scope cl C env))) (fun ok s' => if ok = true then
        wpAny (model prog w) A (eval elt (compEnvC scope cl C env)) (CompEnd h₀ L m { s with heap := h, toks := tk } I oI C oC D (lst ys) S (fun y news' => J (i + 1) (ys ++ [y]) news')) E' s'
        else CompEnd h₀ L m { s with heap := h, toks := tk } I oI C oC D (lst ys) S (fun _ news' => J (i + 1) ys news') Value.none s') E' { s with heap := h, toks := tk })
    (fin : ∀ ys news, J n ys news → Fin ys news) : ∀ k i, i + k = n → ∀ ys news, J i ys news → CompRestT prog w A h₀ L m env ct elt x scope cl s S P Fin k i ys news
  | 0, i, e, ys, news, h => CompRestT.zero (fin _ _ (by rw [← show i = n by lia]; exact h))
  | k + 1, i, e, ys, news, hJ => CompRestT.succ fun v I oI C oC D m₂ h tk E' hP hN hx F N off ne =>
      wpAny_mono (step i ys news (by lia) hJ v I oI C oC D m₂ h tk E' hP hN hx F N off ne)
        (fun ok s' q => by
          split at q
          · rw [if_pos ‹_›]
            exact wpAny_mono q (fun y s' ⟨h', tk', news', e', F', N', o', hS, r⟩ => ⟨h', tk', news', e', F', N', o', hS, compRestT_of J step fin k (i + 1) (by lia) _ _ r⟩) fun _ _ z => z
          · rw [if_neg ‹_›]
            obtain ⟨h', tk', news', e', F', N', o', hS, r⟩ := q
            exact ⟨h', tk', news', e', F', N', o', hS, compRestT_of J step fin k (i + 1) (by lia) _ _ r⟩) fun _ _ z => z
end
theorem turns_n (a : Nat) : ∃ n : Nat, n ≤ 2 ∧ (if (if (2 : Int) < (a : Int) then 2 else (a : Int)) > 1 then if (2 : Int) < (a : Int) then 2 else (a : Int) else 1) = (n : Int) := by
  by_cases h : (2 : Int) < (a : Int)
  · exact ⟨2, Nat.le_refl _, by simp [h]⟩
  · rw [if_neg h]
    by_cases h2 : (a : Int) > 1
    · exact ⟨a, by lia, by rw [if_pos h2]⟩
    · exact ⟨1, by lia, by rw [if_neg h2]; rfl⟩
section
variable {g h h' : Heap} {L src I C : Addr} {m : Str → Option Value} {S S' oI oc : Obj} {rest l : List (Addr × Obj)}
/-- things that a call has made -/
theorem made_off (F : Fr g L h m) (hl : ∀ p ∈ l, h'.get? p.1 = some p.2 ∧ h.get? p.1 = none) {a : Addr} {o : Obj} (ha : h.get? a = some o) : ∀ p ∈ l, p.1 ≠ a := fun p hp e => by
  have := (hl p hp).2
  rw [e, ha] at this
  cases this
theorem std_add (F : Fr g L h m) (N : News g L h' ((src, S) :: (I, oI) :: (C, oc) :: rest)) (hl : ∀ p ∈ l, h'.get? p.1 = some p.2 ∧ h.get? p.1 = none) : News g L h' ((src, S) :: (I, oI) :: (C, oc) :: (l ++ rest)) := fun p hp => by
  rcases List.mem_cons.mp hp with rfl | hp
  · exact N _ (.head _)
  · rcases List.mem_cons.mp hp with rfl | hp
    · exact N _ (.tail _ (.head _))
    · rcases List.mem_cons.mp hp with rfl | hp
      · exact N _ (.tail _ (.tail _ (.head _)))
      · rcases List.mem_append.mp hp with hp | hp
        · exact ⟨(hl p hp).1, new_off F p.1 (hl p hp).2⟩
        · exact N _ (.tail _ (.tail _ (.tail _ hp)))
theorem std_kpb (N : News g L h ((src, S) :: (I, oI) :: (C, oc) :: rest)) (k : KpB [src] h h') (hI : @Ne Nat I src) (hC : @Ne Nat C src) (hr : ∀ p ∈ rest, p.1 ≠ src) (N' : News g L h' [(src, S')]) : News g L h' ((src, S') :: (I, oI) :: (C, oc) :: rest) :=
  News.kpb (News.sub N (fun p hp => .tail _ hp)) k (fun p hp => by
    rcases List.mem_cons.mp hp with rfl | hp
    · exact hI
    · rcases List.mem_cons.mp hp with rfl | hp
      · exact hC
      · exact hr p hp) N'
end
theorem mem_drop3 {α : Type} {a b c x : α} {R : List α} : ∀ p ∈ a :: b :: c :: R, p ∈ a :: b :: c :: x :: R := fun p hp => by
  rcases List.mem_cons.mp hp with rfl | hp
  · exact .head _
  · rcases List.mem_cons.mp hp with rfl | hp
    · exact .tail _ (.head _)
    · rcases List.mem_cons.mp hp with rfl | hp
      · exact .tail _ (.tail _ (.head _))
      · exact .tail _ (.tail _ (.tail _ (.tail _ hp)))
theorem mem_up3 {α : Type} {a b c x : α} {R : List α} : ∀ p ∈ a :: b :: c :: x :: R, p ∈ x :: a :: b :: c :: R := fun p hp => by
  rcases List.mem_cons.mp hp with rfl | hp
  · exact .tail _ (.head _)
  · rcases List.mem_cons.mp hp with rfl | hp
    · exact .tail _ (.tail _ (.head _))
    · rcases List.mem_cons.mp hp with rfl | hp
      · exact .tail _ (.tail _ (.tail _ (.head _)))
      · rcases List.mem_cons.mp hp with rfl | hp
        · exact .head _
        · exact .tail _ (.tail _ (.tail _ (.tail _ hp)))
/-- the places that are chosen -/
def PlCut (g : Heap) (L : Addr) (m : Str → Option Value) (s : Shared) (src I C : Addr) (S oI oc : Obj) (R : List (Addr × Obj)) (d : Fm) (v : Value) (s' : Shared) : Prop :=
  Halt (∃ pl vps nn ps h' tk', v = .ref pl ∧ s' = { s with heap := h', toks := tk' } ∧ Fr g L h' m ∧ News g L h' ((src, S) :: (I, oI) :: (C, oc) :: (pl, listOf (List.toArray vps) nn) :: R) ∧ IntsAre vps (zints ps) ∧ PsOk d ps ∧ (@Ne Nat pl src))
theorem eval_cut {prog : Program} {w : World} {A : Around} {E : Value → Shared → Prop} {s : Shared} {t : Sem Value} {Q : Value → Shared → Prop} {g : Heap} {L src I C : Addr} {m : Str → Option Value} {S oI oc : Obj} {R : List (Addr × Obj)} (d : Fm) (_F : Fr g L s.heap m)
    (h₁ : wpAny (model prog w) A t (PlCut g L m s src I C S oI oc R d) E s)
    (h₂ : ∀ pl vps nn ps h' tk', Fr g L h' m → News g L h' ((src, S) :: (I, oI) :: (C, oc) :: (pl, listOf (List.toArray vps) nn) :: R) → IntsAre vps (zints ps) → PsOk d ps → (@Ne Nat pl src) → Q (.ref pl) { s with heap := h', toks := tk' }) : wpAny (model prog w) A t Q E s :=
  wpAny_mono h₁ (fun v s' q => by
    obtain ⟨pl, vps, nn, ps, h', tk', rfl, rfl, F, N, are, po, ne⟩ := q
    exact h₂ pl vps nn ps h' tk' F N are po ne) fun _ _ e => e
/-- a word to the walk: go on -/
def GoOn : Prop := True
theorem Lists.get {l : List (Addr × Obj)} : ∀ {vs : List Value} {bs : List (List Blk)}, Lists l vs bs → ∀ {i : Nat} {b : List Blk}, bs[i]? = some b → ∃ a us n, vs[i]? = some (.ref a) ∧ (a, listOf (List.toArray us) n) ∈ l ∧ Tups l us b
  | [], [], _, _, _, h => by cases h
  | _ :: _, _ :: _, ⟨⟨a, us, n, e, m, t⟩, _⟩, 0, _, h => by cases h; exact ⟨a, us, n, by rw [e]; rfl, m, t⟩
  | _ :: vs, _ :: bs, ⟨_, q⟩, i + 1, b, h => by
    rw [List.getElem?_cons_succ] at h ⊢
    exact Lists.get q h
  | [], _ :: _, h, _, _, _ => h.elim
  | _ :: _, [], h, _, _, _ => h.elim
theorem Lists.length {l : List (Addr × Obj)} : ∀ {vs : List Value} {bs : List (List Blk)}, Lists l vs bs → vs.length = bs.length
  | [], [], _ => rfl
  | _ :: _, _ :: _, h => congrArg (· + 1) (Lists.length h.2)
  | [], _ :: _, h => h.elim
  | _ :: _, [], h => h.elim
theorem Tups.get {l : List (Addr × Obj)} : ∀ {vs : List Value} {bs : List Blk}, Tups l vs bs → ∀ {i : Nat} {v : Value}, vs[i]? = some v → ∃ a b t, v = .ref a ∧ (a, blkO b t) ∈ l
  | [], [], _, _, _, h => by cases h
  | _ :: _, b :: _, ⟨⟨a, t, e, m⟩, _⟩, 0, _, h => by cases h; exact ⟨a, b, t, e, m⟩
  | _ :: vs, _ :: bs, ⟨_, q⟩, i + 1, v, h => by
    rw [List.getElem?_cons_succ] at h
    exact Tups.get q h
  | [], _ :: _, h, _, _, _ => h.elim
  | _ :: _, [], h, _, _, _ => h.elim
theorem unitL_len {d : Fm} {ps : List Nat} {x y : Nat} (ok : d.Ok) (po : PsOk d ps) : (unitL d ps x y).length ≤ 1000 := by
  unfold unitL
  split
  · exact Nat.le_of_ble_eq_true rfl
  · refine Nat.le_trans (flat_len (B := 6) fun i hi => unitAt_len ok po hi) ?_
    have := po.len
    lia
section
local macro_rules
  | `(tactic| walk_at $k:str) => if ["CompSrcT", "call type:tuple", "getAttr ref", "compareOp NotEq ref ref"].contains k.getString then `(tactic| refine halt ?_) else Lean.Macro.throwUnsupported
local macro_rules
  | `(tactic| walk_at "eval IfExp") => `(tactic| ((fail_if_success (with_reducible rename GoOn => goesOn)); refine halt ?_))
theorem law_holds : Challenge.rw_nt0544_01.Holds := hd2 (by rfl) (by rfl) (by rfl) (by
  k_fill
  intro w s₀ s₁ mg mb G Y fa o pm cd doc dV kV ho hdf hcd hD hmg hg args vals as hpre hlay hrd hwl hlo
  have KX := kIn_of Y
  refine Ground.open G ?_
  intro TT BT DT TE TW
  (try (refine guard_noD DT (by decide +kernel) ?_; clear DT))
  clear hmg
  wrow_args hpre hlay hrd hwl hlo
  refine enter_call ?_
  w_top on
  have BB := below_caller s₁.heap
  w_call any ho hdf hcd hD TT FF
  k_steps
  rename IntsAre _ _ => hI
  rename Heap.IsList _ _ _ => hL
  rename (¬ _ < _) => h63
  rename News _ _ _ _ => NN
  refine unhalt ?_
  refine For_rangeG [Str.ofString "k", Str.ofString "frame", Str.ofString "sizes", Str.ofString "places", Str.ofString "scan", Str.ofString "due", Str.ofString "at"] (by k_asm) rfl rfl rfl ?_
  k_steps
  refine unhalt ?_
  refine len_at (list_up hL (by k_asm)) (by rw [List.size_toArray, hI.length]) (by omega) ?_
  k_steps
  rename IsRange _ _ _ _ _ _ _ _ => hR
  rename News _ _ _ [_] => NR
  obtain ⟨nt, hnt, ent⟩ := turns_n _
  rw [ent] at hR
  refine unhalt ⟨_, nt, _, _, _, _, _, fun _ nx => ∃ oc v0, oc.data = Data.cell v0 ∧ nx = [(_, oc)], rfl, hR, by omega, by k_asm, NR, ⟨_, _, by assumption, rfl⟩, .of_eq hg, ?_, ?_⟩
  · rintro i u _ ti I oI h₁ tk gs hi bare ⟨oc, v0, d0, rfl⟩ off F₁ N₁ Qt hQ
    k_steps
    refine unhalt ?_
    rename IntsAre _ _ => hI
    refine pool_call BB (by k_asm) KX TT rfl (by decide) (by decide) (list_up hL (by k_asm)) hI (by omega) (by omega) ?_
    intro src x₀ y₀ tp₀ tq₀ nn₀ h₂ tk₂ hy₀ hy₀' F₂ KP₂ fD hD
    obtain ⟨N₂, l₂⟩ := news_add F₁ (by k_asm) KP₂ fD hD
    clear F₁ N₁
    have hIs : @Ne Nat _ _ := l₂ (I, oI) (.head _)
    have hCs : @Ne Nat _ _ := l₂ (_, oc) (.tail _ (.head _))
    have hCI : @Ne Nat _ _ := off (_, oc) (.head _)
    dsimp only at hIs hCs hCI
    k_sweep
    refine storeX_C (v := .ref src) F₂ N₂ rfl (.tail (Ne.symm hCs) (.tail (Ne.symm hCI) (.head fun _ h => nomatch h))) d0 ?_
    intro h₃ oc₃ F₃ N₃ d₃
    clear F₂ N₂ d0
    k_sweep
    k_steps
    refine unhalt ?_
    rename News _ _ _ _ => NB
    rename Fr _ _ _ _ => FB
    refine frame_call BB FB KX TT rfl (News.sub NB (fun p hp => by cases List.mem_singleton.mp hp; exact .head _)) (by decide) (by decide) hy₀ hy₀' ?_
    intro fr d lF x₁ y₁ tp₁ tq₁ nn₁ h₄ tk₄ ok hw hlF hFr hy₁ hy₁' F₄ NS₄ KP₄
    have oF := made_off FB hlF (NB (src, _) (.head _)).1
    have N₄ := std_add FB (std_kpb NB KP₄ hIs hCs (fun _ h => nomatch h) NS₄) hlF
    clear NB FB NS₄ hlF
    k_sweep
    k_steps
    refine unhalt ?_
    rename News _ _ _ _ => NB
    rename Fr _ _ _ _ => FB
    have hF₄ := hFr _ fun p hp => (NB p (.tail _ (.tail _ (.tail _ (List.mem_append_left _ hp))))).1
    refine sizes_call BB FB KX TT rfl (by decide) (by decide) hF₄ ok ?_
    intro sz lS h₅ tk₅ hlS hSz F₅ KP₅
    have oS := made_off FB hlS (NB (src, _) (.head _)).1
    have N₅ := std_add FB (News.grown NB KP₅) hlS
    clear NB FB hlS hF₄
    k_sweep
    k_steps
    refine unhalt ?_
    rename News _ _ _ _ => NB
    rename Fr _ _ _ _ => FB
    have hF₅ := hFr _ fun p hp => (NB p (.tail _ (.tail _ (.tail _ (List.mem_append_right _ (List.mem_append_left _ hp)))))).1
    have hS₅ := hSz _ fun p hp => (NB p (.tail _ (.tail _ (.tail _ (List.mem_append_left _ hp))))).1
    refine sizes_right_call BB FB KX TT rfl (by decide) (by decide) hF₅ ok hS₅ ?_
    intro h₆ tk₆ F₆ KP₆
    have N₆' := News.grown NB KP₆
    obtain ⟨R, hRS, hRF, hRo, N₆⟩ : ∃ R, (∀ p ∈ lS, p ∈ R) ∧ (∀ p ∈ lF, p ∈ R) ∧ (∀ p ∈ R, p.1 ≠ src) ∧ News s₁.heap s₁.heap.objs.size h₆ ((src, srcO x₁ y₁ tp₁ tq₁ nn₁) :: (I, oI) :: (s₁.heap.objs.size + 1, oc₃) :: R) :=
      ⟨_, fun p hp => List.mem_append_left _ hp, fun p hp => List.mem_append_right _ (List.mem_append_left _ hp), fun p hp => by
        rcases List.mem_append.mp hp with hp | hp
        · exact oS p hp
        · exact oF p (by simpa using hp), N₆'⟩
    clear NB FB hF₅ hS₅ N₆' oS oF
    k_sweep
    k_steps
    refine unhalt ?_
    rename News _ _ _ _ => NB
    rename Fr _ _ _ _ => FB
    obtain ⟨vsz, nsz, lsz, esz, hsz, -⟩ := hSz _ fun p hp => (NB p (.tail _ (.tail _ (.tail _ (hRS p hp))))).1
    have hzl := hsz.length
    have hcl := ok.len
    refine LCt.Assign_ListComp_T (cl := [(Str.ofString "source", _)]) FB rfl (by rfl) (by rfl) (by decide) rfl (by decide) rfl rfl rfl ?_
    k_steps
    refine unhalt ?_
    refine len_at ⟨_, esz, rfl, _, rfl⟩ (by rw [List.size_toArray, hzl]) (by omega) ?_
    k_steps
    refine unhalt ?_
    rename News _ _ _ _ => NC
    refine LCt.CompSrcT.range (n := d.cs.length) rfl (by k_asm) NC (by k_asm) (rsm _ (by omega)) (rsz _) (by rw [sizeLine_eq]; omega) (fun g₂ => compRestT_of (n := d.cs.length)
      (fun i ys nx => ∃ x y tp tq nn ps, nx = (src, srcO x y tp tq nn) :: (I, oI) :: (_, oc₃) :: R ∧ 0 ≤ y ∧ y < 2147483648 ∧ IntsAre ys (zints ps) ∧ (∀ q ∈ ps, q < d.cs.length) ∧ ps.length ≤ i) ?step ?fin _ 0 (Nat.zero_add _) [] _ ⟨_, _, _, _, _, [], rfl, hy₁, hy₁', .nil, fun _ h => (nomatch h), Nat.le_refl _⟩)
    case step =>
      rintro i ys _ hi ⟨x₂, y₂, tp₂, tq₂, nn₂, ps, rfl, hy₂, hy₂', are, hlt, hle⟩ v I₂ oI₂ C₂ oC₂ D₂ m₂ h tk E' hP hN hx F₂ N₂ off₂ ne₂
      obtain ⟨tpl, rfl⟩ := hP
      k_steps
      refine unhalt ?_
      rename News _ _ _ _ => NA
      have NS : News _ _ _ [(src, srcO x₂ y₂ tp₂ tq₂ nn₂)] := News.sub NA (fun p hp => by cases List.mem_singleton.mp hp; exact .tail _ (.tail _ (.tail _ (.head _))))
      have NQ := News.sub (l' := (I₂, oI₂) :: (C₂, oC₂) :: (D₂, LCg.lst ys) :: (I, oI) :: (s₁.heap.objs.size + 1, oc₃) :: R) NA mem_drop3
      have hQs : ∀ p ∈ (I₂, oI₂) :: (C₂, oC₂) :: (D₂, LCg.lst ys) :: (I, oI) :: (s₁.heap.objs.size + 1, oc₃) :: R, p.1 ≠ src := fun p hp => by
        revert hp; revert p
        exact all_cons (Ne.symm off₂.1.1) (all_cons (Ne.symm off₂.1.2.1) (all_cons (Ne.symm off₂.1.2.2) (all_cons (hIs) (all_cons (hCs) (fun p hp => hRo p hp)))))
      refine take_call (top := 3) BB (by k_asm) KX TT rfl NS (by decide) (by decide) hy₂ hy₂' (by decide) (by decide) ?_
      intro k₄ t₄ x₄ y₄ tp₄ tq₄ nn₄ h₇ tk₇ hk4 hy4 hy4' F₇ NS₇ KP₇
      have N₇ := News.kpb NQ KP₇ hQs NS₇
      clear NA NS NQ
      k_sweep
      k_steps
      · refine unhalt ?_
        rename News _ _ _ _ => NB
        refine LCg.CompEnd.intro (by k_asm) NB ((src, srcO x₄ y₄ tp₄ tq₄ nn₄) :: (I, oI) :: (s₁.heap.objs.size + 1, oc₃) :: R) mem_up3 off₂ trivial ⟨x₄, y₄, tp₄, tq₄, nn₄, ps ++ [i], rfl, hy4, hy4', ?_, fun q hq => ?_, ?_⟩
        · rw [Int.zero_add, zints, List.map_append]
          exact are.append (IntsAre.cons _ _ .nil)
        · rcases List.mem_append.mp hq with hq | hq
          · exact hlt q hq
          · cases List.mem_singleton.mp hq; exact hi
        · rw [List.length_append, List.length_singleton]; omega
      · refine unhalt ?_
        rename News _ _ _ _ => NB
        exact LCg.CompEnd.intro (by k_asm) NB ((src, srcO x₄ y₄ tp₄ tq₄ nn₄) :: (I, oI) :: (s₁.heap.objs.size + 1, oc₃) :: R) mem_up3 off₂ trivial ⟨x₄, y₄, tp₄, tq₄, nn₄, ps, rfl, hy4, hy4', are, hlt, by omega⟩
    case fin =>
      rintro ys _ ⟨x₂, y₂, tp₂, tq₂, nn₂, ps, rfl, hy₂, hy₂', are, hlt, hle⟩ Dp h tk F₂ N₂ off₂
      dsimp only
      k_steps
      refine unhalt ?_
      rename News _ _ _ _ => NB
      rename Fr _ _ _ _ => FB
      refine eval_cut (src := src) (I := I) (C := s₁.heap.objs.size + 1) (S := srcO x₂ y₂ tp₂ tq₂ nn₂) (oI := oI) (oc := oc₃) (R := R) d FB ?_ ?_
      · have goesOn : GoOn := trivial
        k_steps
        refine unhalt ?_
        rename (Dp < _ ∧ _) => ltZ
        rename News _ _ _ _ => NZ
        refine ne_intsK (ns := zints ps) (ms := []) ⟨_, (NZ (Dp, LCg.lst ys) (.tail _ (.head _))).1, rfl, _, rfl⟩ are ⟨_, (NZ _ (.head _)).1, rfl, _, rfl⟩ .nil (by show (7 : Nat) + 64 < 9900; decide) ?_
        by_cases hps : ps = []
        · subst hps
          k_steps
          rename_i Z _ _ _ _
          rename News _ _ _ _ => NV
          rename (_ < Z ∧ _) => ltV
          exact ⟨Z, [.int 0 tk], 0, [0], _, _, rfl, rfl, by k_asm, News.sub NV (by repeat' first | refine all_cons ?_ ?_ | exact List.Mem.head _ | exact List.Mem.tail _ (List.Mem.head _) | exact List.Mem.tail _ (List.Mem.tail _ (List.Mem.head _)) | exact List.Mem.tail _ (List.Mem.tail _ (List.Mem.tail _ (List.Mem.head _))) | exact List.Mem.tail _ (List.Mem.tail _ (List.Mem.tail _ (List.Mem.tail _ (List.Mem.head _)))) | exact List.Mem.tail _ (List.Mem.tail _ (List.Mem.tail _ (List.Mem.tail _ (List.Mem.tail _ (List.Mem.head _))))) | exact List.Mem.tail _ (List.Mem.tail _ (List.Mem.tail _ (List.Mem.tail _ (List.Mem.tail _ (List.Mem.tail _ (List.Mem.head _)))))) | exact List.Mem.tail _ (List.Mem.tail _ (List.Mem.tail _ (List.Mem.tail _ (List.Mem.tail _ (List.Mem.tail _ (List.Mem.tail _ (List.Mem.head _))))))) | exact List.Mem.tail _ (List.Mem.tail _ (List.Mem.tail _ (List.Mem.tail _ (List.Mem.tail _ (List.Mem.tail _ (List.Mem.tail _ (List.Mem.tail _ (List.Mem.head _)))))))) | exact fun _ h => h | exact fun _ h => List.Mem.tail _ (h) | exact fun _ h => List.Mem.tail _ (List.Mem.tail _ (h)) | exact fun _ h => List.Mem.tail _ (List.Mem.tail _ (List.Mem.tail _ (h))) | exact fun _ h => List.Mem.tail _ (List.Mem.tail _ (List.Mem.tail _ (List.Mem.tail _ (h)))) | exact fun _ h => List.Mem.tail _ (List.Mem.tail _ (List.Mem.tail _ (List.Mem.tail _ (List.Mem.tail _ (h))))) | exact fun _ h => List.Mem.tail _ (List.Mem.tail _ (List.Mem.tail _ (List.Mem.tail _ (List.Mem.tail _ (List.Mem.tail _ (h)))))) | exact fun _ h => List.Mem.tail _ (List.Mem.tail _ (List.Mem.tail _ (List.Mem.tail _ (List.Mem.tail _ (List.Mem.tail _ (List.Mem.tail _ (h))))))) | exact fun _ h => List.Mem.tail _ (List.Mem.tail _ (List.Mem.tail _ (List.Mem.tail _ (List.Mem.tail _ (List.Mem.tail _ (List.Mem.tail _ (List.Mem.tail _ (h)))))))) | exact all_nil), IntsAre.cons 0 _ .nil, ⟨by simp, fun q hq => by cases List.mem_singleton.mp hq; exact List.length_pos_iff.mpr ok.ne, by decide⟩, Ne.symm (Nat.ne_of_lt ltV.2.2.1)⟩
        · have hd : (!decide (zints ps = [])) = true := by
            rw [Bool.not_eq_true', decide_eq_false_iff_not]
            exact fun q => hps (List.map_eq_nil_iff.mp q)
          rw [hd]
          k_steps
          exact ⟨Dp, ys, ys.length, ps, _, _, rfl, rfl, by k_asm, News.sub NZ (by repeat' first | refine all_cons ?_ ?_ | exact List.Mem.head _ | exact List.Mem.tail _ (List.Mem.head _) | exact List.Mem.tail _ (List.Mem.tail _ (List.Mem.head _)) | exact List.Mem.tail _ (List.Mem.tail _ (List.Mem.tail _ (List.Mem.head _))) | exact List.Mem.tail _ (List.Mem.tail _ (List.Mem.tail _ (List.Mem.tail _ (List.Mem.head _)))) | exact List.Mem.tail _ (List.Mem.tail _ (List.Mem.tail _ (List.Mem.tail _ (List.Mem.tail _ (List.Mem.head _))))) | exact List.Mem.tail _ (List.Mem.tail _ (List.Mem.tail _ (List.Mem.tail _ (List.Mem.tail _ (List.Mem.tail _ (List.Mem.head _)))))) | exact List.Mem.tail _ (List.Mem.tail _ (List.Mem.tail _ (List.Mem.tail _ (List.Mem.tail _ (List.Mem.tail _ (List.Mem.tail _ (List.Mem.head _))))))) | exact List.Mem.tail _ (List.Mem.tail _ (List.Mem.tail _ (List.Mem.tail _ (List.Mem.tail _ (List.Mem.tail _ (List.Mem.tail _ (List.Mem.tail _ (List.Mem.head _)))))))) | exact fun _ h => h | exact fun _ h => List.Mem.tail _ (h) | exact fun _ h => List.Mem.tail _ (List.Mem.tail _ (h)) | exact fun _ h => List.Mem.tail _ (List.Mem.tail _ (List.Mem.tail _ (h))) | exact fun _ h => List.Mem.tail _ (List.Mem.tail _ (List.Mem.tail _ (List.Mem.tail _ (h)))) | exact fun _ h => List.Mem.tail _ (List.Mem.tail _ (List.Mem.tail _ (List.Mem.tail _ (List.Mem.tail _ (h))))) | exact fun _ h => List.Mem.tail _ (List.Mem.tail _ (List.Mem.tail _ (List.Mem.tail _ (List.Mem.tail _ (List.Mem.tail _ (h)))))) | exact fun _ h => List.Mem.tail _ (List.Mem.tail _ (List.Mem.tail _ (List.Mem.tail _ (List.Mem.tail _ (List.Mem.tail _ (List.Mem.tail _ (h))))))) | exact fun _ h => List.Mem.tail _ (List.Mem.tail _ (List.Mem.tail _ (List.Mem.tail _ (List.Mem.tail _ (List.Mem.tail _ (List.Mem.tail _ (List.Mem.tail _ (h)))))))) | exact all_nil), are, ⟨hps, hlt, by omega⟩, Ne.symm off₂.1⟩
      · intro pl vps np ps' h₈ tk₈ F₈ N₈ are' po hpl
        clear FB NB
        k_sweep
        k_steps
        refine unhalt ?_
        rename News _ _ _ _ => NB
        have hvl : vps.length = ps'.length := by rw [are'.length, List.length_map]
        have hpl3 := po.len
        refine len_at ⟨_, (NB (pl, listOf vps.toArray np) (.tail _ (.tail _ (.tail _ (.tail _ (.head _)))))).1, rfl, _, rfl⟩ (show _ = ps'.length by rw [List.size_toArray, hvl]) (by omega) ?_
        k_steps
        refine unhalt ?_
        rename News _ _ _ _ => NB
        refine len_at ⟨_, (NB (pl, listOf vps.toArray np) (.tail _ (.tail _ (.tail _ (.tail _ (.tail _ (.tail _ (.head _)))))))).1, rfl, _, rfl⟩ (show _ = ps'.length by rw [List.size_toArray, hvl]) (by omega) ?_
        k_steps
        refine unhalt ?_
        rename News _ _ _ _ => NB
        obtain ⟨rf, fi⟩ := hFr _ fun p hp => (NB p (.tail _ (.tail _ (.tail _ (.tail _ (.tail _ (.tail _ (.tail _ (.tail _ (hRF p hp)))))))))).1
        have fI := fi.inst
        refine' get_own ?k1 ?k2 ?k3 ?k4 ?k5 ?k6 ?k7 ?k8 ?k9 ?_
        case k1 => k_asm
        case k2 => k_asm
        case k3 => exact fI
        case k4 => k_is
        case k5 => k_is
        case k6 => k_is
        case k7 => k_is
        case k8 => k_get
        case k9 => k_handed
        clear fi fI
        k_steps
        refine unhalt ?_
        rename News _ _ _ _ => NB
        obtain ⟨rf₂, fi⟩ := hFr _ fun p hp => (NB p (.tail _ (.tail _ (.tail _ (.tail _ (.tail _ (.tail _ (.tail _ (.tail _ (hRF p hp)))))))))).1
        have fI := fi.inst
        refine' get_own ?k1 ?k2 ?k3 ?k4 ?k5 ?k6 ?k7 ?k8 ?k9 ?_
        case k1 => k_asm
        case k2 => k_asm
        case k3 => exact fI
        case k4 => k_is
        case k5 => k_is
        case k6 => k_is
        case k7 => k_is
        case k8 => k_get
        case k9 => k_handed
        clear fi fI
        have hn2 := ok.n2
        have hn1 := ok.n1
        k_steps
        refine unhalt ?_
        rename News _ _ _ _ => NB
        have NB' := News.sub (l' := (src, srcO x₂ y₂ tp₂ tq₂ nn₂) :: (I, oI) :: (s₁.heap.objs.size + 1, oc₃) :: (pl, listOf vps.toArray np) :: R) NB (fun p hp => .tail _ (.tail _ (.tail _ (.tail _ hp))))
        refine scanobj_call BB (by k_asm) KX TT rfl NB' (by decide) (by decide) ?_
        intro sc rs h₉ tk₉ hlc F₉ N₉' o₉ ne₉
        obtain ⟨R₂, hR₂, hpR, hSc, hR₂o, N₉⟩ : ∃ R₂, (∀ p ∈ R, p ∈ R₂) ∧ (pl, listOf vps.toArray np) ∈ R₂ ∧ (∀ h : Heap, (∀ p ∈ R₂, h.get? p.1 = some p.2) → ScanAt w h sc ps') ∧ (∀ p ∈ R₂, p.1 ≠ src) ∧ News s₁.heap s₁.heap.objs.size h₉ ((src, srcO x₂ y₂ tp₂ tq₂ nn₂) :: (I, oI) :: (s₁.heap.objs.size + 1, oc₃) :: R₂) :=
          ⟨(sc, instObj 181 rs.dx) :: (rs.dx, dictOf (scEs w rs) 7) :: (pl, listOf vps.toArray np) :: R, fun p hp => List.mem_cons_of_mem _ (List.mem_cons_of_mem _ (List.mem_cons_of_mem _ hp)), List.mem_cons_of_mem _ (List.mem_cons_of_mem _ (List.mem_cons_self ..)), fun h hl => ⟨rs, vps, inst_of (hl _ (List.mem_cons_self ..)) (hl _ (List.mem_cons_of_mem _ (List.mem_cons_self ..))), by rw [hlc]; exact ⟨_, hl _ (List.mem_cons_of_mem _ (List.mem_cons_of_mem _ (List.mem_cons_self ..))), rfl, _, rfl⟩, are'⟩, fun p hp => by
            have os := o₉ (src, srcO x₂ y₂ tp₂ tq₂ nn₂) (List.mem_cons_self ..)
            rcases List.mem_cons.mp hp with rfl | hp
            · exact Ne.symm os.1
            · rcases List.mem_cons.mp hp with rfl | hp
              · exact Ne.symm os.2
              · rcases List.mem_cons.mp hp with rfl | hp
                · exact hpl
                · exact hRo p hp, News.sub N₉' (by repeat' first | refine all_cons ?_ ?_ | exact List.Mem.head _ | exact List.Mem.tail _ (List.Mem.head _) | exact List.Mem.tail _ (List.Mem.tail _ (List.Mem.head _)) | exact List.Mem.tail _ (List.Mem.tail _ (List.Mem.tail _ (List.Mem.head _))) | exact List.Mem.tail _ (List.Mem.tail _ (List.Mem.tail _ (List.Mem.tail _ (List.Mem.head _)))) | exact List.Mem.tail _ (List.Mem.tail _ (List.Mem.tail _ (List.Mem.tail _ (List.Mem.tail _ (List.Mem.head _))))) | exact List.Mem.tail _ (List.Mem.tail _ (List.Mem.tail _ (List.Mem.tail _ (List.Mem.tail _ (List.Mem.tail _ (List.Mem.head _)))))) | exact List.Mem.tail _ (List.Mem.tail _ (List.Mem.tail _ (List.Mem.tail _ (List.Mem.tail _ (List.Mem.tail _ (List.Mem.tail _ (List.Mem.head _))))))) | exact List.Mem.tail _ (List.Mem.tail _ (List.Mem.tail _ (List.Mem.tail _ (List.Mem.tail _ (List.Mem.tail _ (List.Mem.tail _ (List.Mem.tail _ (List.Mem.head _)))))))) | exact fun _ h => h | exact fun _ h => List.Mem.tail _ (h) | exact fun _ h => List.Mem.tail _ (List.Mem.tail _ (h)) | exact fun _ h => List.Mem.tail _ (List.Mem.tail _ (List.Mem.tail _ (h))) | exact fun _ h => List.Mem.tail _ (List.Mem.tail _ (List.Mem.tail _ (List.Mem.tail _ (h)))) | exact fun _ h => List.Mem.tail _ (List.Mem.tail _ (List.Mem.tail _ (List.Mem.tail _ (List.Mem.tail _ (h))))) | exact fun _ h => List.Mem.tail _ (List.Mem.tail _ (List.Mem.tail _ (List.Mem.tail _ (List.Mem.tail _ (List.Mem.tail _ (h)))))) | exact fun _ h => List.Mem.tail _ (List.Mem.tail _ (List.Mem.tail _ (List.Mem.tail _ (List.Mem.tail _ (List.Mem.tail _ (List.Mem.tail _ (h))))))) | exact fun _ h => List.Mem.tail _ (List.Mem.tail _ (List.Mem.tail _ (List.Mem.tail _ (List.Mem.tail _ (List.Mem.tail _ (List.Mem.tail _ (List.Mem.tail _ (h)))))))) | exact all_nil)⟩
        have hRS₂ : ∀ p ∈ lS, p ∈ R₂ := fun p hp => hR₂ p (hRS p hp)
        have hRF₂ : ∀ p ∈ lF, p ∈ R₂ := fun p hp => hR₂ p (hRF p hp)
        clear NB NB' N₉' o₉ ne₉ hR₂ hRS hRF hRo
        k_sweep
        k_steps
        refine unhalt ?_
        rename News _ _ _ _ => NB
        rename Fr _ _ _ _ => FB
        have hF₉ := hFr _ fun p hp => (NB p (.tail _ (.tail _ (.tail _ (hRF₂ p hp))))).1
        have hS₉ := hSz _ fun p hp => (NB p (.tail _ (.tail _ (.tail _ (hRS₂ p hp))))).1
        refine due_call BB FB KX TT rfl (by decide) (by decide) hF₉ ok hw hS₉ ⟨_, (NB _ (.tail _ (.tail _ (.tail _ hpR)))).1, rfl, _, rfl⟩ are' po ?_
        intro Dd vd nd tld h₁₀ tk₁₀ F₁₀ KP₁₀ made₁₀ Ld offd
        have oD := made_off FB made₁₀ (NB (src, _) (.head _)).1
        have N₁₀' := std_add FB (News.grown NB KP₁₀) made₁₀
        obtain ⟨R₃, hR₃, hD₃, hT₃, hR₃o, N₁₀⟩ : ∃ R₃, (∀ p ∈ R₂, p ∈ R₃) ∧ (Dd, listOf vd.toArray nd) ∈ R₃ ∧ (∀ p ∈ tld, p ∈ R₃) ∧ (∀ p ∈ R₃, p.1 ≠ src) ∧ News s₁.heap s₁.heap.objs.size h₁₀ ((src, srcO x₂ y₂ tp₂ tq₂ nn₂) :: (I, oI) :: (s₁.heap.objs.size + 1, oc₃) :: R₃) :=
          ⟨_, fun p hp => List.mem_append_right _ hp, List.mem_append_left _ (List.mem_cons_self ..), fun p hp => List.mem_append_left _ (List.mem_cons_of_mem _ hp), fun p hp => by
            rcases List.mem_append.mp hp with hp | hp
            · exact oD p hp
            · exact hR₂o p hp, N₁₀'⟩
        have hRF₃ : ∀ p ∈ lF, p ∈ R₃ := fun p hp => hR₃ p (hRF₂ p hp)
        have Ld₃ := Ld.mono hT₃
        have uu := ok.u po
        have uM : d.ux ps' * d.uy ps' ≤ 192 := Nat.mul_le_mul uu.2.1 uu.2.2.2
        have u1 : 1 ≤ d.ux ps' * d.uy ps' := Nat.mul_pos uu.1 uu.2.2.1
        have hdl : vd.length = d.ux ps' * d.uy ps' := by rw [Ld.length, List.length_map, List.length_range]
        clear NB FB hF₉ hS₉ N₁₀' oD made₁₀ Ld offd hRS₂ hRF₂ hpR hT₃
        k_sweep
        k_steps
        refine unhalt ?_
        rename News _ _ _ _ => NB
        rename Fr _ _ _ _ => FB
        refine ListComp_G (cl := []) rfl (rl (a := 302) (b := 950) (by decide) rfl) (by rfl) (by decide) rfl (by decide) rfl ?_
        k_steps
        refine unhalt ?_
        have hF₁₀ := hFr _ fun p hp => (NB p (.tail _ (.tail _ (.tail _ (hRF₃ p hp))))).1
        have hC₁₀ := hSc _ fun p hp => (NB p (.tail _ (.tail _ (.tail _ (hR₃ p hp))))).1
        refine units_new BB FB KX TT rfl (by decide) (by decide) hF₁₀ ok hC₁₀ po ?_
        intro G oG L2 mG gsG h₁₁ tk₁₁ KP₁₁ Fg Ng hIG hcG hbare hgo
        have KX₁ := KX.keeps FB.keep
        have TT₁ := TT.keeps FB.keep
        refine unhalt ⟨_, _, G, oG, L2, mG, gsG, h₁₁, tk₁₁, d.ux ps' * d.uy ps', fun i => unitL d ps' (i % d.ux ps') (i / d.ux ps'), rfl, rfl, by rw [sizeLine_eq]; omega, Fg, Ng, hIG, hcG, TT₁.nolimit, hgo, ?_, ?_⟩
        · intro iu D1 v1 n1 led oCu oC₂ mu mv hu tku su Eu hiu hNu hxu Fu Nu Tu offu
          have hv1 : v1.length ≤ 1000 := by
            rw [Tu.length]
            exact unitL_len ok po
          refine LCg.ListComp_U (cl := []) Fu (by rfl) (by decide) rfl (by decide) rfl ?_
          k_steps
          refine unhalt ?_
          refine LCg.CompSrc.ledger (k := n1) rfl Fu Nu (List.mem_cons_of_mem _ (List.mem_cons_self ..)) (by rw [sizeLine_eq, List.size_toArray]; omega) (fun g₂ => compRest_of (n := v1.toArray.size)
            (fun i ys nx => nx = (oCu, oC₂) :: (D1, listOf v1.toArray n1) :: led ∧ ys = v1.take i) ?stepu ?finu _ 0 (Nat.zero_add _) [] _ ⟨rfl, rfl⟩)
          case stepu =>
            rintro i ys _ hi ⟨rfl, rfl⟩ v I₃ oI₃ C₃ oC₃ D₃ m₃ h tk E' hP hN hx F₃ N₃ off ne
            obtain ⟨a₃, b₃, t₃, rfl, hm₃⟩ := Tu.get (i := i) (v := v) (by simpa using hP)
            k_steps
            refine unhalt ?_
            refine call_tuple_same ⟨_, (N₃ (a₃, blkO b₃ t₃) (.tail _ (.tail _ (.tail _ (.tail _ (.tail _ hm₃)))))).1, rfl, _, rfl⟩ ?_
            refine LCg.CompEnd.intro F₃ N₃ _ (fun _ h => h) off (.inr ⟨_, List.mem_cons_of_mem _ (List.mem_cons_self ..), rfl, _, rfl⟩) ⟨rfl, ?_⟩
            rw [List.take_add_one, show v1[i]? = some (.ref a₃) by simpa using hP]
            rfl
          case finu =>
            rintro ys _ ⟨rfl, rfl⟩ D h₃ tk F₂ N₂ off
            rw [List.size_toArray, List.take_length] at N₂
            exact ⟨D, h₃, tk, rfl, rfl, F₂, N₂, off1_mem off⟩
        · intro Du vu nu tlu h₁₂ tk₁₂ KP₁₂ made₁₂ Lu offu
          have N₁₂ := std_add FB (News.grown NB KP₁₂) made₁₂
          have F₁₂ := FB.keeps KP₁₂
          have oU := made_off FB made₁₂ (NB (src, _) (.head _)).1
          clear hgo Fg Ng hIG hF₁₀ hC₁₀ KX₁ TT₁ NB FB made₁₂
          k_sweep
          k_steps
          refine unhalt ?_
          rename News _ _ _ _ => NB
          refine ne_lists (NB (Du, listOf vu.toArray nu) (.tail _ (.tail _ (.tail _ (List.mem_append_left _ (List.mem_cons_self ..)))))).1 (NB (Dd, listOf vd.toArray nd) (.tail _ (.tail _ (.tail _ (List.mem_append_right _ hD₃))))).1
            (fun p hp => (NB p (.tail _ (.tail _ (.tail _ (List.mem_append_left _ (List.mem_cons_of_mem _ hp)))))).1) (fun p hp => (NB p (.tail _ (.tail _ (.tail _ (List.mem_append_right _ hp))))).1) Lu Ld₃ (by show (7 : Nat) + 64 < 9900; decide) ?_
          have NB' := News.sub (l' := (src, srcO x₂ y₂ tp₂ tq₂ nn₂) :: (I, oI) :: (s₁.heap.objs.size + 1, oc₃) :: R₃) NB (fun p hp => by
            rcases List.mem_cons.mp hp with rfl | hp
            · exact .head _
            · rcases List.mem_cons.mp hp with rfl | hp
              · exact .tail _ (.head _)
              · rcases List.mem_cons.mp hp with rfl | hp
                · exact .tail _ (.tail _ (.head _))
                · exact .tail _ (.tail _ (.tail _ (List.mem_append_right _ hp))))
          clear NB Lu oU
          k_sweep
          k_steps
          refine unhalt ?_
          rename News _ _ _ _ => NB
          rename Fr _ _ _ _ => FB
          have hF₁₂ := hFr _ fun p hp => (NB p (.tail _ (.tail _ (.tail _ (hRF₃ p hp))))).1
          have hC₁₂ := hSc _ fun p hp => (NB p (.tail _ (.tail _ (.tail _ (hR₃ p hp))))).1
          refine unit_count_call BB FB KX TT rfl (by decide) (by decide) hF₁₂ ok hC₁₂ po ?_
          intro tC h₁₃ tk₁₃ F₁₃ KP₁₃
          have N₁₃ := News.grown NB KP₁₃
          clear NB FB hF₁₂ hC₁₂
          k_sweep
          k_steps
          refine unhalt ?_
          rename News _ _ _ _ => NB
          refine len_at ⟨_, (NB (Dd, listOf vd.toArray nd) (.tail _ (.tail _ (.tail _ hD₃)))).1, rfl, _, rfl⟩ (show _ = d.ux ps' * d.uy ps' by rw [List.size_toArray, hdl]) (by omega) ?_
          k_steps
          · rename (_ ≠ _) => hne
            exact absurd rfl hne
          refine unhalt ?_
          rename News _ _ _ _ => NB
          refine len_at ⟨_, (NB (Dd, listOf vd.toArray nd) (.tail _ (.tail _ (.tail _ hD₃)))).1, rfl, _, rfl⟩ (show _ = d.ux ps' * d.uy ps' by rw [List.size_toArray, hdl]) (by omega) ?_
          k_steps
          refine unhalt ?_
          rename News _ _ _ _ => NB
          rename Fr _ _ _ _ => FB
          refine take_call (top := d.ux ps' * d.uy ps') BB FB KX TT rfl (News.sub NB (fun p hp => by cases List.mem_singleton.mp hp; exact .head _)) (by decide) (by decide) hy₂ hy₂' u1 (by omega) ?_
          intro kk t₁₄ x₁₄ y₁₄ tp₁₄ tq₁₄ nn₁₄ h₁₄ tk₁₄ hkk hy₁₄ hy₁₄' F₁₄ NS₁₄ KP₁₄
          have N₁₄ := std_kpb NB KP₁₄ hIs hCs hR₃o NS₁₄
          clear NB FB NS₁₄
          k_sweep
          k_steps
          refine unhalt ?_
          rename News _ _ _ _ => NB
          rename Fr _ _ _ _ => FB
          refine LCg.ListComp_U (cl := []) FB (by rfl) (by decide) rfl (by decide) rfl ?_
          k_steps
          refine unhalt ?_
          have hF₁₄ := hFr _ fun p hp => (NB p (.tail _ (.tail _ (.tail _ (hRF₃ p hp))))).1
          have hC₁₄ := hSc _ fun p hp => (NB p (.tail _ (.tail _ (.tail _ (hR₃ p hp))))).1
          refine unit_numbered_call BB FB KX TT rfl (by decide) (by decide) hF₁₄ ok hC₁₄ po (by omega) ?_
          intro Dn vn nn₁₅ tln h₁₅ tk₁₅ F₁₅ KP₁₅ made₁₅ Tn offn
          have N₁₅' := std_add FB (News.grown NB KP₁₅) made₁₅
          obtain ⟨R₄, hR₄, hD₄, hT₄, N₁₅⟩ : ∃ R₄, (∀ p ∈ R₃, p ∈ R₄) ∧ (Dn, listOf vn.toArray nn₁₅) ∈ R₄ ∧ (∀ p ∈ tln, p ∈ R₄) ∧ News s₁.heap s₁.heap.objs.size h₁₅ ((src, srcO x₁₄ y₁₄ tp₁₄ tq₁₄ nn₁₄) :: (I, oI) :: (s₁.heap.objs.size + 1, oc₃) :: R₄) :=
            ⟨_, fun p hp => List.mem_append_right _ hp, List.mem_append_left _ (List.mem_cons_self ..), fun p hp => List.mem_append_left _ (List.mem_cons_of_mem _ hp), N₁₅'⟩
          have hvn : vn.length ≤ 1000 := by
            rw [Tn.length]
            exact unitL_len ok po
          obtain ⟨au, uw, nw, hau, hmu, hTu⟩ := Ld₃.get (i := kk) (b := unitL d ps' (kk % d.ux ps') (kk / d.ux ps')) (by rw [List.getElem?_map, List.getElem?_range hkk]; rfl)
          clear NB FB N₁₅' hF₁₄ hC₁₄ made₁₅
          refine LCg.CompSrc.ledger (k := nn₁₅) rfl F₁₅ N₁₅ (List.mem_cons_of_mem _ (List.mem_cons_of_mem _ (List.mem_cons_of_mem _ hD₄))) (by rw [sizeLine_eq, List.size_toArray]; omega) (fun g₂ => compRest_of (n := vn.toArray.size)
            (fun i ys nx => nx = (src, srcO x₁₄ y₁₄ tp₁₄ tq₁₄ nn₁₄) :: (I, oI) :: (s₁.heap.objs.size + 1, oc₃) :: R₄ ∧ ys = vn.take i) ?stepn ?finn _ 0 (Nat.zero_add _) [] _ ⟨rfl, rfl⟩)
          case stepn =>
            rintro i ys _ hi ⟨rfl, rfl⟩ v I₃ oI₃ C₃ oC₃ D₃ m₃ h tk E' hP hN hx F₃ N₃ off ne
            obtain ⟨a₃, b₃, t₃, rfl, hm₃⟩ := Tn.get (i := i) (v := v) (by simpa using hP)
            k_steps
            refine unhalt ?_
            refine call_tuple_same ⟨_, (N₃ (a₃, blkO b₃ t₃) (.tail _ (.tail _ (.tail _ (.tail _ (.tail _ (.tail _ (hT₄ _ hm₃)))))))).1, rfl, _, rfl⟩ ?_
            refine LCg.CompEnd.intro F₃ N₃ _ (fun _ h => h) off (.inr ⟨_, List.mem_cons_of_mem _ (List.mem_cons_of_mem _ (List.mem_cons_of_mem _ hD₄)), rfl, _, rfl⟩) ⟨rfl, ?_⟩
            rw [List.take_add_one, show vn[i]? = some (.ref a₃) by simpa using hP]
            rfl
          case finn =>
            rintro ys _ ⟨rfl, rfl⟩ Dq h₁₆ tk₁₆ F₁₆ N₁₆ offq
            rw [show vn.toArray.size = vn.length from List.size_toArray .., List.take_length] at N₁₆
            dsimp only
            k_steps
            refine unhalt ?_
            rename News _ _ _ _ => NB
            refine item_at (v := .ref au) ⟨_, (NB (Dd, listOf vd.toArray nd) (.tail _ (.tail _ (.tail _ (.tail _ (hR₄ _ hD₃)))))).1, rfl, _, rfl⟩ rfl (by omega) (by simpa using hau) ?_
            k_steps
            refine unhalt ?_
            refine ne_tups (NB (Dq, LCg.lst vn) (.head _)).1 (NB (au, listOf uw.toArray nw) (.tail _ (.tail _ (.tail _ (.tail _ (hR₄ _ hmu)))))).1 (fun p hp => (NB p (.tail _ (.tail _ (.tail _ (.tail _ (hT₄ p hp)))))).1) (fun p hp => (NB p (.tail _ (.tail _ (.tail _ (.tail _ (hR₄ p hp)))))).1) Tn hTu (by show (7 : Nat) + 64 < 9900; decide) ?_
            k_steps
            refine hQ _ ?_
            rename Fr _ _ _ _ => FE
            refine TurnEndG.intro FE NB (bare.push rfl) [(s₁.heap.objs.size + 1, oc₃)] (fun p hp => ?_) (fun p hp => ?_) ⟨?_, oc₃, _, d₃, rfl⟩
            · rcases List.mem_cons.mp hp with rfl | hp
              · exact .tail _ (.tail _ (.head _))
              · cases List.mem_singleton.mp hp
                exact .tail _ (.tail _ (.tail _ (.head _)))
            · cases List.mem_singleton.mp hp
              exact hCI
            · exact (((((((Ovr.of.set (by decide)).set (by decide)).set (by decide)).set (by decide)).set (by decide)).set (by decide)).set (by decide)).set (by decide)
  · rintro u _ h₁ tk gs bare ⟨oc, v0, d0, rfl⟩ F₁ N₁
    k_steps
    dsimp only
    k_steps
    refine ⟨.inl ⟨.bool true, .bool true, [], rfl, raisesW_false (by wrow_none_raised), readsW_of_reads (.bool true), postW_of (by wrow_shape) (by wtm_val) (by str_meet; rfl), fun _ => ⟨List.nodup_nil, fun _ h => nomatch h⟩⟩, .of_keep F₁.keep, rfl, bare⟩)
end
end Mcu
theorem PySem.Challenge.cw_nt0544_01_holds : PySem.Challenge.rw_nt0544_01.Holds :=
  Mcu.law_holds
