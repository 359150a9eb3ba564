import PyProof.Rows.All
import Wide.All
import OpenK.AllK
import Wide.FinOn
import KE.KStateDown
import KE.KCallOwn
import Lean
import HandS.Base
import HandS.Call
import HandS.List
import HandS.Comp
import HandS.Ends
import HandS.Dict
import HandS.Iter
import HandS.Text
import HandS.More
import HandS.Words
import HandS.Codes
import HandS.Defaults
import HandS.IsInst
import HandS.FStr
import HandS.Star
import HandS.Strs
import HandS.Zip
import HandS.DictComp
import HandS.TupAny
import HandS.OwnEq
import HandS.RaiseMore
import HandS.TryOnly
import HandS.TryMany
import HandS.Lambda
import HandS.SetFor
import HandS.ClsMeth
import HandS.NoneIn
import HandS.EndTab
import HandS.HeadWalk
import HandS.Head0
import HandS.Head1
import HandS.Head2
import HandS.HeadHook1
import HandS.HeadHook2
import HandS.HeadHook3
import HandS.HeadHook4
import HandS.HeadNt
import HandS.SetBool
import KE.GoesMore
import HandS.Style
import HandS.SortRule
import PySem.Challenge.RW_threeorders_k11_whole_texts_read_back
set_option Elab.async false
set_option linter.all false
set_option maxRecDepth 100000
set_option maxHeartbeats 4000000
/-! KA -/
namespace K11
open PySem PySem.Spec PyProof.Rows L2
/-! ### the text by places -/
def top (i : Nat) : Stmt := PySem.Challenge.pw_threeorders_k11_whole_texts_read_back.main.body.getD i (.Pass ⟨0, 0, 0, 0⟩)
/-- a method's statement -/
def mth (i j : Nat) : Stmt := (C8.clsBody (top i)).getD j (.Pass ⟨0, 0, 0, 0⟩)
/-- a def of the module stands under its name -/
structure GDef (K : PySem.W.Frag) (mg : Str → Option Value) (x : Str) (st : Stmt) : Prop where
  ex : ∃ f fd, FunD K x x (C8.fnArgs st) (C8.fnBody st) (C8.fnScope st) [] [] f fd ∧ mg x = some (.ref f)
section
variable {P : Program} {w : World} {K : PySem.W.Frag} {mg : Str → Option Value} {base : Heap}
/-- a def's promise, from its body -/
theorem GDef.cal {x : Str} {st : Stmt} {N ps : List Str} {k : Nat} {sp : Sp} (G : GDef K mg x st) (S : FnScope N ps (C8.fnScope st))
    (hb : ∀ (kV doc pm : Value) (an : Option Addr) (cdv ct : Value) (us : List Value), us.length = ps.length → bindArgs (PySem.W.fnOf x x (C8.fnArgs st) (C8.fnBody st) (C8.fnScope st) .none kV doc pm an cdv ct) ⟨us, []⟩ = pure (ps.zip us))
    (len : ∀ vs H Q E, sp vs H Q E → vs.length = ps.length)
    (hbody : ∀ (f : Addr) (cdv : Value) (A : Around) (outer : List Env) (s : Shared) (H : Hp) (vs : List V) (Q : VK) (E : XK), Room k (A.deeper (envOfC x (C8.fnScope st) s.heap.objs.size f cdv)) → sp vs H Q E →
      ∃ t, PSs (cxOf C8.CX0 P w K mg base N x (C8.fnScope st) f cdv A outer s H E).nox (C8.fnBody st) t ∧ t { nx := fun _ H' => Q .non H', rt := Q } (start N vs) H) : C8.Cal P w K mg base (k + 1) x sp [] := by
  obtain ⟨f, fd, F, hm⟩ := G.ex
  have b := F.bindsN hb
  obtain ⟨oc, od, dV, kV, doc, pm, an, cdv, ct, osl, rfl, lk, hcd, hD, hK⟩ := F.ex
  refine ⟨f, _, ps, [], fn_of lk hcd S len fun A outer s H vs Q E hr hsp => ?_, hm, F.kp, b, .nil⟩
  obtain ⟨t, h, q⟩ := hbody f cdv A outer s H vs Q E hr hsp
  exact ⟨t, h.nox, q⟩
end
/-! ### what the module's names hold -/
def bltN : List Str := ["isinstance", "str", "len", "all", "tuple", "zip", "list", "enumerate", "sorted", "set", "range", "int", "abs", "min", "bool", "iter"]
structure Txt (K : PySem.W.Frag) (mg : Str → Option Value) : Prop where
  free : ∀ x ∈ bltN, mg x = none
  letters : ∃ u, mg "LETTERS" = some u ∧ RelV (.str "abcdefghijklmnopqrstuvwxyz") u
  mLetters : ∃ u, mg "MOST_LETTERS" = some u ∧ RelV (.int 6) u
section
variable {K : PySem.W.Frag} {mg : Str → Option Value}
theorem Txt.fr (T : Txt K mg) (x : Str) (h : x ∈ bltN := by decide +kernel) : mg x = none := T.free x h
end
/-! ### names -/
def IsNm (z : Str) : Prop := 1 ≤ z.length ∧ z.length ≤ 6 ∧ ∀ c ∈ z.cps.toList, 97 ≤ c ∧ c ≤ 122
/-- all that stood stands -/
theorem letters_mem {c : Nat} (h : 97 ≤ c ∧ c ≤ 122) : c ∈ ("abcdefghijklmnopqrstuvwxyz" : Str).cps.toList := by
  have : ∀ c, c < 123 → 97 ≤ c → c ∈ ("abcdefghijklmnopqrstuvwxyz" : Str).cps.toList := by decide +kernel
  exact this c (by omega) h.1
end K11
/-! HX1 -/
section
set_option maxHeartbeats 0
namespace K11
open PySem PySem.Spec PyProof.Rows L2
/-! ### the head: what is told of it -/
def dfG (x : Str) (i : Nat) : He.DefD := ⟨(x, none), x, x, C8.fnArgs (top i), C8.fnBody (top i), C8.fnScope (top i), [], []⟩
def dfM (C : Str) (i : Nat) (m : Str) (j : Nat) (q : Str) (dv : List He.Dv) : He.DefD := ⟨(C, some m), m, q, C8.fnArgs (mth i j), C8.fnBody (mth i j), C8.fnScope (mth i j), dv, []⟩
def dfS (C : Str) (i j : Nat) (q : Str) : He5.DefA := ⟨fun K => He5.wf K (He.ga K C) "staticmethod" "read", "read", q, C8.fnArgs (mth i j), C8.fnBody (mth i j), C8.fnScope (mth i j), [], []⟩
def hdFn : List He.DefD := [dfG "is_name" 14, dfG "is_lot" 16, dfG "is_lot_of" 17, dfG "split_lines" 19, dfG "need_line" 20, dfG "check_line" 21, dfG "check_tail" 22, dfG "joined_lines" 23, dfG "check_finds" 27, dfG "is_word" 28, dfG "check_words" 29, dfG "fault_of_finds" 30, dfG "fault_of_word" 31, dfG "read_rows" 32, dfG "is_fact" 37, dfG "is_marked_fact" 38, dfG "write_facts" 39, dfG "fact_in" 40, dfG "fault_of_fact" 41, dfG "read_facts" 42, dfG "is_holding" 46, dfG "kinds_in" 47, dfG "check_holdings" 48, dfG "holding_in" 49, dfG "fault_of_holding" 50, dfG "read_holdings" 51, dfG "_law_start" 54, dfG "_law_draw" 55, dfG "_law_pick" 56, dfG "_law_shuffle" 57, dfG "_law_letters" 58, dfG "_law_word" 59, dfG "_law_names" 60, dfG "_law_subset" 61, dfG "_law_stretch" 62, dfG "_law_same" 63, dfG "_law_try" 65, dfG "_law_fact" 66, dfG "_law_rows_text" 67, dfG "_law_table_rows" 68, dfG "_law_book_rows" 69, dfG "_law_fact_rows" 70, dfG "_law_stock" 71, dfG "_law_terms" 72, dfG "_law_reader" 73, dfG "_law_rows_of" 74, dfG "_law_drawn_rows" 75, dfG "_law_table_so" 76, dfG "_law_book_so" 77, dfG "_law_facts_so" 78, dfG "law" 79,
  dfM "Book" 33 "__init__" 0 "Book.__init__" [.adr (He.dflAt ("Book", some "__init__") 0)], dfM "Table" 52 "__init__" 0 "Table.__init__" [],
  dfM "Book" 33 "finds" 1 "Book.finds" [], dfM "Book" 33 "words" 2 "Book.words" [], dfM "Book" 33 "without" 6 "Book.without" [], dfM "Book" 33 "text" 8 "Book.text" [], dfM "Book" 33 "__contains__" 12 "Book.__contains__" [], dfM "Book" 33 "__eq__" 13 "Book.__eq__" [], dfM "Book" 33 "__str__" 16 "Book.__str__" [],
  dfM "Table" 52 "finds" 1 "Table.finds" [], dfM "Table" 52 "kinds_of" 3 "Table.kinds_of" [], dfM "Table" 52 "text" 6 "Table.text" [], dfM "Table" 52 "__contains__" 8 "Table.__contains__" [], dfM "Table" 52 "__eq__" 9 "Table.__eq__" [], dfM "Table" 52 "__str__" 11 "Table.__str__" []]
def hdSm : List He5.DefA := [dfS "Book" 33 9 "Book.read", dfS "Table" 52 7 "Table.read"]
def hdFa : List He.Fa := [.free "isinstance", .free "str", .free "len", .free "all", .free "tuple", .free "zip", .free "list", .free "enumerate", .free "sorted", .free "set", .free "range", .free "int", .free "abs", .free "min", .free "bool", .free "iter",
  .glo "is_name", .glo "is_lot", .glo "is_lot_of", .glo "split_lines", .glo "need_line", .glo "check_line", .glo "check_tail", .glo "joined_lines", .glo "check_finds", .glo "is_word", .glo "check_words", .glo "fault_of_finds", .glo "fault_of_word", .glo "read_rows", .glo "is_fact", .glo "is_marked_fact", .glo "write_facts", .glo "fact_in", .glo "fault_of_fact", .glo "read_facts", .glo "is_holding", .glo "kinds_in", .glo "check_holdings", .glo "holding_in", .glo "fault_of_holding", .glo "read_holdings", .glo "_law_start", .glo "_law_draw", .glo "_law_pick", .glo "_law_shuffle", .glo "_law_letters", .glo "_law_word", .glo "_law_names", .glo "_law_subset", .glo "_law_stretch", .glo "_law_same", .glo "_law_try", .glo "_law_fact", .glo "_law_rows_text", .glo "_law_table_rows", .glo "_law_book_rows", .glo "_law_fact_rows", .glo "_law_stock", .glo "_law_terms", .glo "_law_reader", .glo "_law_rows_of", .glo "_law_drawn_rows", .glo "_law_table_so", .glo "_law_book_so", .glo "_law_facts_so", .glo "law", .glo "Book", .glo "Table", .glo "SIZES",
  .str "LETTERS" "abcdefghijklmnopqrstuvwxyz", .int "MOST_LETTERS" 6, .int "MOST_FINDS_books" 12, .int "MOST_WORDS" 40, .int "MOST_FACTS" 30, .int "MOST_FINDS_tables" 12, .int "MOST_KINDS" 10,
  .cls "Book", .cls "Table", .noat "Book" "own_finds", .noat "Book" "own_words", .noat "Table" "own_finds", .noat "Table" "own_holdings", .mkr "Book", .mkr "Table",
  .meth "Book" "finds", .meth "Book" "words", .meth "Book" "without", .meth "Book" "text", .meth "Book" "__contains__", .meth "Book" "__eq__", .meth "Book" "__str__", .meth "Table" "finds", .meth "Table" "kinds_of", .meth "Table" "text", .meth "Table" "__contains__", .meth "Table" "__eq__", .meth "Table" "__str__"]
def hdTs : List He.Tab := [(fun K => He.ga K "SIZES", ["before", "first", "last"])]
def hdTf : List He.Defn := [("_law_reader", none)]
def szVals : List (Str × He.Dv) := [("before", .int 3), ("first", .int 2), ("last", .int 2)]
def insB (K : PySem.W.Frag) (C : Addr) : Bool := He.eqO (PySem.W.findIn K (.ref C) "__class__") (some (some (.builtin "object.__class__"))) && (He.eqO (PySem.W.specialIn K (.builtin "object.__class__") "__get__") (some (some (.builtin "getset_descriptor.__get__"))) &&
  (decide (PySem.W.takesIn K (.builtin "object.__class__") = some true) && (decide (PySem.W.mroIn K C (.type "object") = some true) && decide (PySem.W.kitOne K (.ref C) (.ref C) = some true))))
def clsR (K : PySem.W.Frag) (C : Addr) : Bool := PySem.W.readsIn K C (.type "type") && He5.wrapB K C "staticmethod" "staticmethod.__get__" "read"
def hdEx (K : PySem.W.Frag) : Bool := He.valsB K (He.ga K "SIZES") szVals && (insB K (He.ga K "Book") && (insB K (He.ga K "Table") && (clsR K (He.ga K "Book") && (clsR K (He.ga K "Table") && hdSm.all fun d => d.ok K))))
/-- the addresses that names reach, each once: seen is a number whose bits tell which were met -/
def hdAdd {α : Type} : List Addr → Nat → List Addr → (Nat → List Addr → α) → α
  | [], m, l, k => k m l
  | a :: r, m, l, k => (match Nat.testBit m a with
    | true => hdAdd r m l k
    | false => HandSHeadRun.frNat (m ||| (1 <<< a)) fun m2 => hdAdd r m2 (a :: l) k)
def hdRow {α : Type} (g : Addr → Option Obj) : List Addr → Nat → List Addr → (Nat → List Addr → α) → α
  | [], m, l, k => k m l
  | a :: r, m, l, k => (match g a with
    | some o => hdAdd (He.refsD o) m l fun m2 l2 => hdRow g r m2 l2 k
    | none => hdRow g r m l k)
def hdReach (g : Addr → Option Obj) : Nat → Nat → List Addr → List Addr
  | 0, _, l => l
  | n + 1, m, l => hdRow g l m [] fun m2 l2 => l ++ hdReach g n m2 l2
/-- the part of the heap that is looked at -/
def hdK (g : Addr → Option Obj) : PySem.W.Frag := He.frT g (hdReach g 5 0 [mainGlobals, cStatics])
abbrev HdA : Type := He.AlX × List He.FnW
def hdOf (g : Addr → Option Obj) (K : PySem.W.Frag) : HdA := ((He.obsT hdFa hdFn hdTs K, hdEx K && He.tabsB g hdTf K), hdSm.map fun d => He5.fnA K (d.at_ K))
def hdObs (g : Addr → Option Obj) : HdA := hdOf g (hdK g)
def hdVal (w : World) : HdA := (He.valX hdFn hdTs w, hdSm.map He5.DefA.val)
structure HdSays (w : World) (h : Heap) (K : PySem.W.Frag) : Prop where
  t : He.SaysT hdFa hdFn hdTs w K
  ex : hdEx K = true
  sm : hdSm.map (fun d => He5.fnA K (d.at_ K)) = hdSm.map He5.DefA.val
  hd : ∀ p ∈ hdTf, PySem.W.codeHdIn K (He.cT K p).1 (He.cT K p).2 = true
  out : ∀ p ∈ hdTf, K.lookup (He.cT K p).2 = none
  emp : ∀ p ∈ hdTf, h.get? (He.cT K p).2 = some { cls := .none, data := .fields #[] }
theorem hdSays_of {w : World} {h : Heap} {K : PySem.W.Frag} {l : List Addr} (hk : K = He.frT h.get? l) (e : hdOf h.get? K = hdVal w) : HdSays w h K := by
  obtain ⟨e12, e3⟩ := Prod.mk.inj e
  obtain ⟨e1, e2⟩ := Prod.mk.inj e12
  obtain ⟨x1, x2⟩ := Bool.and_eq_true_iff.mp e2
  have tb : ∀ p ∈ hdTf, PySem.W.codeHdIn K (He.cT K p).1 (He.cT K p).2 = true ∧ ∃ o, h.get? (He.cT K p).2 = some o ∧ He.emptyTab o = true := by
    intro p hp
    obtain ⟨a, b⟩ := Bool.and_eq_true_iff.mp (List.all_eq_true.mp x2 p hp)
    refine ⟨a, ?_⟩
    split at b
    · next o q => exact ⟨o, q, b⟩
    · exact Bool.noConfusion b
  have kn : ∀ p ∈ hdTf, K.lookup (He.cT K p).2 = none := by
    intro p hp
    obtain ⟨o, q, z⟩ := (tb p hp).2
    generalize (He.cT K p).2 = b at q
    rw [hk]
    exact He.frT_none q z
  have em : ∀ p ∈ hdTf, h.get? (He.cT K p).2 = some { cls := .none, data := .fields #[] } := by
    intro p hp
    obtain ⟨o, q, z⟩ := (tb p hp).2
    rw [q, He.emptyTab_eq z]
  exact ⟨e1, x1, e3, fun p hp => (tb p hp).1, kn, em⟩
def hdHook : PySem.W.Hook where
  α := HdA
  obs := fun s => hdObs s.heap.get?
  val := fun w => hdVal w
  says := fun w h => ∃ K : PySem.W.Frag, K.In h ∧ HdSays w h K
  of := fun _ _ e => ⟨_, He.frT_in, hdSays_of rfl e⟩
  keeps := fun _ _ _ ⟨K, hK, c⟩ k => ⟨K, PySem.W.Frag.In.keeps hK k, ⟨c.t, c.ex, c.sm, c.hd, c.out, fun p hp => k _ _ (c.emp p hp)⟩⟩
def hdOb (s : PySem.W.SharedT) : HdA := hdObs (HandSHeadRun.getT s)
theorem hdOb_eq (s : PySem.W.SharedT) : hdOb s = hdHook.obs s.abs := by
  have e : HandSHeadRun.getT s = s.abs.heap.get? := funext (HandSHeadRun.getT_eq s)
  show hdObs _ = hdObs _
  rw [e]
abbrev hdR : PySem.W.OpenRow := PySem.W.OpenLaw.row PySem.Challenge.rw_threeorders_k11_whole_texts_read_back
abbrev hdV : Program := PySem.W.view hdR.prog [79]
def hdN1 : List PySem.Str := [PySem.Str.ofString "_wall", PySem.Str.ofString "FindError", PySem.Str.ofString "Missing", PySem.Str.ofString "InvalidFind", PySem.Str.ofString "InvalidWord", PySem.Str.ofString "InvalidText", PySem.Str.ofString "DuplicateName", PySem.Str.ofString "TooMany", PySem.Str.ofString "UnknownName", PySem.Str.ofString "UnknownFind", PySem.Str.ofString "LETTERS", PySem.Str.ofString "MOST_LETTERS", PySem.Str.ofString "is_name", PySem.Str.ofString "is_lot", PySem.Str.ofString "is_lot_of", PySem.Str.ofString "split_lines", PySem.Str.ofString "need_line", PySem.Str.ofString "check_line", PySem.Str.ofString "check_tail", PySem.Str.ofString "joined_lines", PySem.Str.ofString "MOST_FINDS_books", PySem.Str.ofString "MOST_WORDS", PySem.Str.ofString "check_finds", PySem.Str.ofString "is_word", PySem.Str.ofString "check_words", PySem.Str.ofString "fault_of_finds", PySem.Str.ofString "fault_of_word", PySem.Str.ofString "read_rows", PySem.Str.ofString "Book", PySem.Str.ofString "MOST_FACTS", PySem.Str.ofString "SIZES", PySem.Str.ofString "is_fact", PySem.Str.ofString "is_marked_fact", PySem.Str.ofString "write_facts", PySem.Str.ofString "fact_in"]
def hdN2 : List PySem.Str := [PySem.Str.ofString "fault_of_fact", PySem.Str.ofString "read_facts", PySem.Str.ofString "MOST_FINDS_tables", PySem.Str.ofString "MOST_KINDS", PySem.Str.ofString "is_holding", PySem.Str.ofString "kinds_in", PySem.Str.ofString "check_holdings", PySem.Str.ofString "holding_in", PySem.Str.ofString "fault_of_holding", PySem.Str.ofString "read_holdings", PySem.Str.ofString "Table", PySem.Str.ofString "_law_start", PySem.Str.ofString "_law_draw", PySem.Str.ofString "_law_pick", PySem.Str.ofString "_law_shuffle", PySem.Str.ofString "_law_letters", PySem.Str.ofString "_law_word", PySem.Str.ofString "_law_names", PySem.Str.ofString "_law_subset", PySem.Str.ofString "_law_stretch", PySem.Str.ofString "_law_same", PySem.Str.ofString "_law_fields", PySem.Str.ofString "_law_try", PySem.Str.ofString "_law_fact", PySem.Str.ofString "_law_rows_text", PySem.Str.ofString "_law_table_rows", PySem.Str.ofString "_law_book_rows", PySem.Str.ofString "_law_fact_rows", PySem.Str.ofString "_law_stock", PySem.Str.ofString "_law_terms", PySem.Str.ofString "_law_reader", PySem.Str.ofString "_law_rows_of", PySem.Str.ofString "_law_drawn_rows", PySem.Str.ofString "_law_table_so", PySem.Str.ofString "_law_book_so", PySem.Str.ofString "_law_facts_so"]
def hdN : List PySem.Str := hdN1 ++ hdN2
theorem hd_runF (w : World) : HandSHeadRun.RunEq hdR hdV hdHook hdOb 6500 hdN (w.withFollow "special-get-raises" false) := by
  intro os
  kernel_rfl
theorem hd_runT (w : World) : HandSHeadRun.RunEq hdR hdV hdHook hdOb 6500 hdN (w.withFollow "special-get-raises" true) := by
  intro os
  kernel_rfl
theorem hd_run (w : World) : HandSHeadRun.RunEq hdR hdV hdHook hdOb 6500 hdN w := PySem.W.byRow2 "special-get-raises" (P := fun w => HandSHeadRun.RunEq hdR hdV hdHook hdOb 6500 hdN w) hd_runF hd_runT w
end K11
end
/-! KS -/
namespace K11
open PySem PySem.Spec PyProof.Rows L2
def kS (e : Int × Value) : Str := match e.2 with
  | .str k _ => k
  | _ => Str.empty
def GoodT (w : World) (e : Int × Value) : Prop := ∃ k tk, e.2 = Value.str k tk ∧ e.1 = hashStr w k
/-- at a stands a set of texts: S tells the members, n their number -/
def SetS (w : World) (h : Heap) (a : Addr) (S : Str → Bool) (n : Nat) : Prop :=
  ∃ o es ep t, h.get? a = some o ∧ o.ExactSet ∧ o.data = .set es ep t ∧ (∀ e ∈ es.toList, GoodT w e) ∧ (es.toList.map kS).Nodup ∧ (∀ k, S k = true ↔ k ∈ es.toList.map kS) ∧
    es.size < scanBound ∧ t.fits es.size = true ∧ es.size = n ∧ Ris t.place.toList ∧ (w.params.followText "set-order" = true ∨ t.led = true)
section
variable {P : Program} {w : World} {h h' : Heap} {a : Addr} {S : Str → Bool} {n : Nat}
theorem SetS.at (R : SetS w h a S n) (k : ∀ o, h.get? a = some o → h'.get? a = some o) : SetS w h' a S n :=
  let ⟨o, es, ep, t, ho, r⟩ := R
  ⟨o, es, ep, t, k o ho, r⟩
theorem SetS.congr {S' : Str → Bool} (R : SetS w h a S n) (e : ∀ k, S' k = S k) : SetS w h a S' n := by
  have q : S' = S := funext e
  rw [q]
  exact R
theorem goodT_elems {l : List (Int × Value)} (g : ∀ e ∈ l, GoodT w e) : ElemsOf (PySem.strKind P w) l := fun e he => by
  obtain ⟨k, tk, h1, h2⟩ := g e he
  refine ⟨⟨k, ?_, h2⟩, ?_⟩
  · rw [h1]
    exact strKind_is P w k tk
  · rw [h1]
    all_goals rfl
theorem goodT_is {e : Int × Value} (g : GoodT w e) (k : Str) : (PySem.strKind P w).is k e.2 = true ↔ kS e = k := by
  obtain ⟨k0, tk, h1, _⟩ := g
  unfold kS
  rw [h1]
  constructor
  · intro q
    exact (PySem.strKind P w).inj _ k0 k (strKind_is P w k0 tk) q
  · intro q
    have q : k0 = k := q
    rw [← q]
    exact strKind_is P w k0 tk
theorem goodT_mem {l : List (Int × Value)} (g : ∀ e ∈ l, GoodT w e) (k : Str) : k ∈ l.map kS ↔ ∃ e ∈ l, (PySem.strKind P w).is k e.2 = true := by
  rw [List.mem_map]
  exact ⟨fun ⟨e, he, q⟩ => ⟨e, he, (goodT_is (g e he) k).2 q⟩, fun ⟨e, he, q⟩ => ⟨e, he, (goodT_is (g e he) k).1 q⟩⟩
theorem setS_fresh {h : Heap} {a : Addr} (ho : h.get? a = some { cls := .type "set", dict := none, data := .set #[] 0 (.fresh 0 0 (!w.params.followText "set-order")) }) : SetS w h a (fun _ => false) 0 := by
  refine ⟨_, #[], 0, _, ho, ⟨rfl, rfl, rfl⟩, rfl, fun e he => ?_, ?_, fun k => ?_, by decide, by rfl, rfl, List.Pairwise.nil, ?_⟩
  · simp at he
  · simp
  · simp
  · cases q : w.params.followText "set-order"
    · exact .inr rfl
    · exact .inl rfl
end
section
variable {P : Program} {w : World} {A : Around} {E : Value → Shared → Prop} {s : Shared} {a : Addr} {S : Str → Bool} {n : Nat}
/-- the table laid anew keeps what is told of it -/
theorem relay_keeps {es : Array (Int × Value)} {t : SetTable} {m : Nat} (g : ∀ e ∈ es.toList, GoodT w e) (nd : (es.toList.map kS).Nodup) (hb : es.size < scanBound) (hl : w.params.followText "set-order" = true ∨ t.led = true) :
    (∀ e ∈ (relayAll t es m).1.toList, GoodT w e) ∧ ((relayAll t es m).1.toList.map kS).Nodup ∧ (∀ k, k ∈ (relayAll t es m).1.toList.map kS ↔ k ∈ es.toList.map kS) ∧ (relayAll t es m).1.size = es.size ∧
      (relayAll t es m).2.1.fits (relayAll t es m).1.size = true ∧ Ris (relayAll t es m).2.1.place.toList ∧ (w.params.followText "set-order" = true ∨ (relayAll t es m).2.1.led = true) := by
  have pm := relayAll_perm t es m
  refine ⟨fun e he => g e (pm.mem_iff.mp he), (pm.map kS).nodup_iff.mpr nd, fun k => (pm.map kS).mem_iff, ?_, relayAll_fits t es m, relayAll_ris t es m, hl.imp id fun z => by rw [relayAll_led]; exact z⟩
  rw [← Array.length_toList, pm.length_eq, Array.length_toList]
/-- behind the new member's laying -/
theorem setS_tail {g : Bool → Sem Unit} (hg : ∀ (b : Bool) (s₁ : Shared) (Q' : Unit → Shared → Prop), Q' () s₁ → wpAny (model P w) A (g b) Q' E s₁)
    {o : Obj} {es : Array (Int × Value)} {ep : Nat} {t : SetTable} (ho : s.heap.get? a = some o) (hex : o.ExactSet) (hd : o.data = .set es ep t)
    {es1 : Array (Int × Value)} {t2 : SetTable} {S' : Str → Bool} (g1 : ∀ e ∈ es1.toList, GoodT w e) (nd1 : (es1.toList.map kS).Nodup) (m1 : ∀ k, S' k = true ↔ k ∈ es1.toList.map kS)
    (hb1 : es1.size < scanBound) (hf2 : t2.fits es1.size = true) (hr : Ris t2.place.toList) (hl : w.params.followText "set-order" = true ∨ t2.led = true) {wasDummy : Bool} {R : Option Bool → Shared → Prop}
    (hR : ∀ h', Heap.SameBut a s.heap h' → SetS w h' a S' es1.size → R (some true) { s with heap := h' }) :
    wpAny (model P w) A (do
        storeSet a es1 t2
        if (!wasDummy && t2.tooFull) = true then do
            g (relayAll t2 es1 (SetTable.grown es1.size)).2.2
            storeSet a (relayAll t2 es1 (SetTable.grown es1.size)).1 (relayAll t2 es1 (SetTable.grown es1.size)).2.1
            pure (some true)
          else pure (some true)) R E s := by
  have ho1 := store_at (es' := es1) (t' := t2) ho hd
  have sb1 := Heap.SameBut.update s.heap a (Obj.putSet es1 t2)
  refine wpAny_bind (wpAny_storeSet_of ho hd ?_ (fits_of_scanBound hb1))
  split
  · obtain ⟨k1, k2, k3, k4, k5, k6, k7⟩ := relay_keeps (m := SetTable.grown es1.size) (t := t2) g1 nd1 hb1 hl
    generalize relayAll t2 es1 (SetTable.grown es1.size) = Z at k1 k2 k3 k4 k5 k6 k7 ⊢
    obtain ⟨es2, t3, gave⟩ := Z
    dsimp only at k1 k2 k3 k4 k5 k6 k7 ⊢
    have hb2 : es2.size < scanBound := by
      rw [k4]
      exact hb1
    refine wpAny_bind (hg _ _ _ (wpAny_bind (wpAny_storeSet_of ho1 rfl ?_ (fits_of_scanBound hb2))))
    have ho2 := store_at (es' := es2) (t' := t3) ho1 rfl
    exact wpAny_pure (hR _ (sb1.trans (Heap.SameBut.update _ a _)) ⟨_, es2, _, t3, ho2, hex, rfl, k1, k2, fun k => (m1 k).trans (k3 k).symm, hb2, k5, k4, k6, k7⟩)
  · exact wpAny_pure (hR _ sb1 ⟨_, es1, _, t2, ho1, hex, rfl, g1, nd1, m1, hb1, hf2, rfl, hr, hl⟩)
/-- a text is put in, its hash known -/
theorem setS_addH {k : Str} {tk : Tok} {Q : Bool → Shared → Prop} (R : SetS w s.heap a S n) (room : n + 1 < scanBound)
    (hQ : ∀ h', Heap.SameBut a s.heap h' → SetS w h' a (fun j => S j || decide (j = k)) (if S k = true then n else n + 1) → Q (!S k) { s with heap := h' }) :
    wpAny (model P w) A (setAddHashed a (.str k tk) ((PySem.strKind P w).hash k)) Q E s := by
  obtain ⟨o, es, ep, t, ho, hex, hd, g, nd, hm, hb, hf, hn, hr, hl⟩ := R
  have hkey : (PySem.strKind P w).is k (.str k tk) = true := strKind_is P w k tk
  have hsc : (Value.str k tk).scannable = true := rfl
  have hel : ElemsOf (PySem.strKind P w) es.toList := goodT_elems g
  have quiet : ∀ (b : Bool) {s₁ : Shared} {Q' : Unit → Shared → Prop}, Q' () s₁ → wpAny (model P w) A (match b with | true => rule "set.scan.the-table-gave-way" | false => pure ()) Q' E s₁ := fun b s₁ Q' q => by
    cases b
    · exact wpAny_pure q
    · exact wpAny_rule q
  unfold setAddHashed setAddHashedIn
  refine wpAny_holding (wpAny_bind (wpAny_setState_of ho hd hf ?_))
  dsimp only
  rw [byScan_of hsc hb hel]
  simp only [↓reduceIte]
  unfold setAddByScan
  refine wpAny_bind (wpAny_bind (wpAny_rule (wpAny_bind (wpAny_setScan_of hkey ho hd hf hel ?_))))
  cases hfi : List.findIdx? (fun e => (PySem.strKind P w).is k e.2) es.toList with
  | some j =>
    dsimp only
    obtain ⟨hj, pj, _⟩ := List.findIdx?_eq_some_iff_getElem.mp hfi
    have hSk : S k = true := (hm k).2 ((goodT_mem (P := P) (w := w) g k).2 ⟨es.toList[j], List.getElem_mem hj, pj⟩)
    have q := hQ s.heap (Heap.SameBut.refl a s.heap) ⟨o, es, ep, t, ho, hex, hd, g, nd, fun i => by
      rw [Bool.or_eq_true, decide_eq_true_eq, ← hm i]
      exact ⟨fun z => z.elim id (fun e => e ▸ hSk), .inl⟩, hb, hf, by rw [if_pos hSk]; exact hn, hr, hl⟩
    rw [hSk] at q
    exact wpAny_pure (wpAny_pure q)
  | none =>
    dsimp only
    have hnk : k ∉ es.toList.map kS := fun z => by
      obtain ⟨e, he, q⟩ := (goodT_mem (P := P) (w := w) g k).1 z
      have c := List.findIdx?_eq_none_iff.mp hfi e he
      rw [q] at c
      cases c
    have hSk : S k = false := by
      cases q : S k with
      | false => rfl
      | true => exact absurd ((hm k).1 q) hnk
    have pm := layNew_perm t es ((PySem.strKind P w).hash k) (.str k tk)
    have hf1 := layNew_fits t es ((PySem.strKind P w).hash k) (.str k tk)
    have hr1 := layNew_ris t es ((PySem.strKind P w).hash k) (.str k tk) hr
    have hl1 := layNew_led t es ((PySem.strKind P w).hash k) (.str k tk)
    generalize layNew t es ((PySem.strKind P w).hash k) (.str k tk) = Z at pm hf1 hr1 hl1 ⊢
    obtain ⟨es1, t1, wasDummy, gave⟩ := Z
    dsimp only at pm hf1 hr1 hl1 ⊢
    rw [Array.toList_push] at pm
    have pc : es1.toList.Perm (((PySem.strKind P w).hash k, Value.str k tk) :: es.toList) := pm.trans (List.perm_append_singleton _ _)
    have pk : (es1.toList.map kS).Perm (k :: es.toList.map kS) := pc.map kS
    have g1 : ∀ e ∈ es1.toList, GoodT w e := fun e he => by
      rcases List.mem_cons.mp (pc.mem_iff.mp he) with z | z
      · rw [z]
        exact ⟨k, tk, rfl, rfl⟩
      · exact g e z
    have nd1 : (es1.toList.map kS).Nodup := pk.nodup_iff.mpr (List.nodup_cons.mpr ⟨hnk, nd⟩)
    have m1 : ∀ i, (S i || decide (i = k)) = true ↔ i ∈ es1.toList.map kS := fun i => by
      rw [Bool.or_eq_true, decide_eq_true_eq, hm i, pk.mem_iff, List.mem_cons]
      exact Or.comm
    have hsz : es1.size = n + 1 := by rw [← Array.length_toList, pc.length_eq, List.length_cons, Array.length_toList, hn]
    have hb1 : es1.size < scanBound := by
      rw [hsz]
      exact room
    have hled : w.params.followText "set-order" = true ∨ t1.led = true := hl.imp id fun z => by
      rw [hl1]
      exact z
    have fin : ∀ h', Heap.SameBut a s.heap h' → SetS w h' a (fun j => S j || decide (j = k)) es1.size → Q true { s with heap := h' } := fun h' sb r => by
      have q := hQ h' sb
      rw [hSk] at q
      rw [hsz] at r
      exact q r
    refine wpAny_bind (quiet _ ?_)
    split
    · refine wpAny_bind ?_
      rw [hashByValue_scannable 8 hsc]
      refine wpAny_pure (setS_tail ?_ ho hex hd g1 nd1 m1 hb1 ?_ ?_ ?_ ?_)
      · exact fun b s₁ Q' q => quiet b q
      · first | (split <;> first | exact hf1 | exact SetTable.fits_plain_off hf1) | exact hf1
      · first | (split <;> exact hr1) | exact hr1
      · first | (split <;> exact hled) | exact hled
      · intro h' sb r
        dsimp only
        exact wpAny_pure (fin h' sb r)
    · refine wpAny_bind (wpAny_pure ?_)
      simp only [↓reduceIte]
      refine setS_tail ?_ ho hex hd g1 nd1 m1 hb1 hf1 hr1 hled ?_
      · exact fun b s₁ Q' q => quiet b q
      · intro h' sb r
        dsimp only
        exact wpAny_pure (fin h' sb r)
end
end K11
/-! KS2 -/
namespace K11
open PySem PySem.Spec PyProof.Rows L2
section
variable {P : Program} {w : World} {A : Around} {E : Value → Shared → Prop} {s : Shared}
abbrev newSetO (w : World) : Obj := { cls := .type "set", dict := none, data := .set #[] 0 (.fresh 0 0 (!w.params.followText "set-order")) }
/-- set(x), by what the filling of the new set from x does -/
theorem call_set_by {x : Value} {Z : Heap → Prop} {Q : Value → Shared → Prop}
    (fill : ∀ A' : Around, A'.handled = A.handled → wpAny (model P w) A' (Builtin.Frozenset.updateFrom "set.__init__" s.heap.objs.size x)
      (fun _ s2 => ∃ h' tk, s2 = { s with heap := h', toks := tk } ∧ Z h' ∧ ∀ b o, s.heap.get? b = some o → h'.get? b = some o) E { s with heap := s.heap.push (newSetO w) })
    (h : ∀ (h' : Heap) (tk : Nat), Z h' → (∀ b o, s.heap.get? b = some o → h'.get? b = some o) → Q (.ref s.heap.objs.size) { s with heap := h', toks := tk }) :
    wpAny (model P w) A (call (.type "set") [x]) Q E s := by
  obtain ⟨c, tl, hmro⟩ := F.called_set.mro
  have hmade := F.called_set.made
  have hsub := F.called_set.sub
  refine wpAny_call (codeAny_of_tree ?_)
  show wpAny _ _ (callAny (.type "set") _) _ _ _
  refine wpAny_pure ⟨Code.quiet_builtin _ (by decide +kernel), codeAny_builtin F.entry_type_call ?_⟩
  rw [Around.under_plain (weight_type_call_type "set" [x] []) rfl]
  have h1 := F.called_set.notType
  have h2 := F.called_set.canCreate
  have hct := F.typeCall_set_1 x
  repeat (any_goals (first | assumption | wp_step))
  refine codeAny_mono (code_set_led1 x (E := E) (Q₁ := fun obj s₁ => obj = .ref s.heap.objs.size ∧ s₁ = { s with heap := s.heap.push (newSetO w) }) ⟨rfl, rfl⟩) fun r s₁ hr => ?_
  cases r with
  | error e => exact hr
  | ok fl =>
    cases fl with
    | ret obj =>
      obtain ⟨rfl, rfl⟩ := hr
      have hS : (s.heap.push (newSetO w)).get? s.heap.objs.size = some (newSetO w) := Heap.get?_push_size _ rfl
      have hT : Shared.TypeIs { s with heap := s.heap.push (newSetO w) } (.ref s.heap.objs.size) "set" := ⟨_, hS, rfl⟩
      have hli := F.called_set.init.lookup
      have hbi := F.called_set.init.bind (.ref s.heap.objs.size)
      repeat (any_goals (first | assumption | wp_step))
      refine codeAny_mono (codeAny_call_builtin (R := wants (fun r s₂ => r = .none ∧ ∃ h' tk, s₂ = { s with heap := h', toks := tk } ∧ Z h' ∧ ∀ b o, s.heap.get? b = some o → h'.get? b = some o) E)
        F.called_set.init.plain F.entry_set_init (check_set_init_1 hT ?_)) fun r₂ s₂ hr₂ => ?_
      · unfold Builtin.«set.__init__» noKeywords
        generalize hUF : Builtin.Frozenset.updateFrom = UF
        wp_walk
        subst hUF
        refine wpAny_mono (fill A.in1.in1 (by simp)) (fun _ s' hq => ?_) fun e s' hq => hq
        obtain ⟨h', tk, e, z, k⟩ := hq
        exact wpAny_pure ⟨rfl, h', tk, e, z, k⟩
      · cases r₂ with
        | error e => exact hr₂
        | ok fl₂ =>
          cases fl₂ with
          | ret r =>
            obtain ⟨rfl, h', tk, rfl, hz, hk⟩ := hr₂
            repeat (any_goals (first | assumption | wp_step))
            exact h _ _ hz hk
          | _ => exact hr₂.elim
    | _ => exact hr.elim
/-! ### the filling -/
theorem Around_in1 {A : Around} : A.in1.handled = A.handled := by simp
/-- set.update's loop over texts -/
theorem update_strs {I : Addr} {fp wr : List Addr} {G : Array GenState → Array GenState → Prop} {n : Nat} {Pv : Nat → Value → Prop} {St : Nat → Shared → Prop} {R : Result → Shared → Prop}
    (W : WalksS P w A.in1 I fp wr G n Pv St) (S : Addr) (hSf : S ∉ fp) (ys : List Str) (hn : n = ys.length) (hb : ys.length + 1 < scanBound) (hval : ∀ i v, Pv i v → ∃ k t, ys[i]? = some k ∧ v = .str k t) :
    ∀ (k i : Nat) (s : Shared), n - i = k → i ≤ n → St i s → (∃ c, c ≤ i ∧ ((ys.take i).Nodup → c = i) ∧ SetS w s.heap S (fun j => decide (j ∈ ys.take i)) c) →
      (∀ s' c, Moved (S :: wr) G s s' → c ≤ n → (ys.Nodup → c = n) → SetS w s'.heap S (fun j => decide (j ∈ ys)) c → R (.ok (.ret .none)) s') →
      codeAny (model P w) A (.builtin "set.update.loop" ⟨[.ref S, .ref I], []⟩) R s := by
  have hSw : S ∉ wr := fun h => hSf (W.sub _ h)
  have hsub : ∀ b ∈ wr, b ∈ S :: wr := fun b hb => List.mem_cons_of_mem _ hb
  intro k
  induction k with
  | zero =>
    intro i s hk' hi hst ⟨c, hc, hd, hS⟩ hR
    have hin : i = n := by omega
    subst hin
    refine codeAny_builtin F.entry_set_update_loop ?_
    rw [Around.under_plainId F.plain_set_update_loop _]
    show wpAny _ A.in1 (pyNext (.ref I) >>= _) _ _ s
    refine wpAny_bind (W.done s _ _ hst fun s' hm => ?_)
    show wpAny _ A.in1 (ret Value.none) _ _ s'
    have e : ys.take i = ys := List.take_of_length_le (by omega)
    rw [e] at hS hd
    exact wpAny_pure (hR s' c (hm.mono hsub) hc hd (hS.at fun o e => hm.heap S o hSw e))
  | succ k ih =>
    intro i s hk' hi hst ⟨c, hc, hd, hS⟩ hR
    have hlt : i < n := by omega
    refine codeAny_builtin F.entry_set_update_loop ?_
    rw [Around.under_plainId F.plain_set_update_loop _]
    show wpAny _ A.in1 (pyNext (.ref I) >>= _) _ _ s
    refine wpAny_bind (W.item i s _ _ hlt hst fun v s' hP hst' hm => ?_)
    obtain ⟨z, t, hz, rfl⟩ := hval i v hP
    have hS' : SetS w s'.heap S (fun j => decide (j ∈ ys.take i)) c := hS.at fun o e => hm.heap S o hSw e
    show wpAny _ A.in1 (holding [Value.str z t] (setAdd S (.str z t)) >>= _) _ _ s'
    refine wpAny_bind (wpAny_holding ?_)
    unfold setAdd
    refine wpAny_holding (wpAny_bind ((PySem.strKind P w).pyHash (k := z) (strKind_is _ _ _ _) ?_))
    refine setS_addH (s := { s' with toks := s'.toks + 1 }) hS' (by omega) fun h' hsb hS2 => ?_
    have et : ys.take (i + 1) = ys.take i ++ [z] := by
      rw [List.take_add_one, hz]
      rfl
    have hS3 : SetS w h' S (fun j => decide (j ∈ ys.take (i + 1))) (if decide (z ∈ ys.take i) = true then c else c + 1) := hS2.congr fun j => by
      rw [et]
      simp [List.mem_append]
    have hc3 : (if decide (z ∈ ys.take i) = true then c else c + 1) ≤ i + 1 := by
      split <;> omega
    have hd3 : (ys.take (i + 1)).Nodup → (if decide (z ∈ ys.take i) = true then c else c + 1) = i + 1 := fun q => by
      rw [et] at q
      have q1 := (List.nodup_append.mp q)
      have nz : z ∉ ys.take i := fun m => q1.2.2 z m z (List.mem_singleton.mpr rfl) rfl
      rw [if_neg (by simpa using nz), hd q1.1]
    refine wpAny_pure ⟨plainId_quiet F.plain_set_update_loop _, ih (i + 1) _ (by omega) hlt (W.frame _ s' _ _ hst' (Nat.le_succ _) fun b hb o e => ?_) ⟨_, hc3, hd3, hS3⟩ fun s'' c2 hm'' hc'' hd'' hS'' => ?_⟩
    · rw [hsb.2 b (fun h : b = S => hSf (by rw [← h]; exact hb))]
      exact e
    · refine hR s'' c2 (Moved.trans W.gtrans ((hm.mono hsub).then_heap (Nat.le_succ _) fun b o hb e => ?_) hm'') hc'' hd'' hS''
      rw [hsb.2 b (fun h : b = S => hb (by rw [h]; exact List.mem_cons_self))]
      exact e
end
end K11
/-! KS3 -/
namespace K11
open PySem PySem.Spec PyProof.Rows L2
section
variable {P : Program} {w : World} {A : Around} {E : Value → Shared → Prop} {s : Shared}
/-- what the filling leaves: a set of the texts ys at S -/
def Filled (w : World) (S : Addr) (ys : List Str) (h' : Heap) : Prop := ∃ c, c ≤ ys.length ∧ (ys.Nodup → c = ys.length) ∧ SetS w h' S (fun j => decide (j ∈ ys)) c
theorem strs_val {items : Array Value} {ys : List Str} (hi : StrsAre items.toList ys) : ∀ (i : Nat) (v : Value), items[i]? = some v → ∃ k t, ys[i]? = some k ∧ v = .str k t := fun i v hv => by
  have hl : items.toList.length = ys.length := StrsAre.len_eq hi
  have hi2 : i < ys.length := by
    rw [← hl, Array.length_toList]
    exact (Array.getElem?_eq_some_iff.mp hv).1
  obtain ⟨t, e⟩ := SS.strs_at hi i v (by rw [Array.getElem?_toList]; exact hv)
  refine ⟨ys[i], t, List.getElem?_eq_getElem hi2, ?_⟩
  rw [e, List.getD_eq_getElem?_getD, List.getElem?_eq_getElem hi2]
  rfl
/-- the loop, from an iterator that walks the items -/
theorem fill_walk {I : Addr} {fp : List Addr} {n : Nat} {Pv : Nat → Value → Prop} {St : Nat → Heap → Prop} {h2 : Heap} {tk : Nat} {ys : List Str} (W : Walks P w A.in1 I fp [I] n Pv St) (hI : s.heap.objs.size < I) (hSf : s.heap.objs.size ∉ fp)
    (hn : n = ys.length) (hb : ys.length + 1 < scanBound) (hval : ∀ i v, Pv i v → ∃ k t, ys[i]? = some k ∧ v = .str k t) (st : St 0 h2) (k2 : ∀ b o, (s.heap.push (newSetO w)).get? b = some o → h2.get? b = some o) :
    wpAny (model P w) A (runValue (.builtin "set.update.loop" ⟨[.ref s.heap.objs.size, .ref I], []⟩))
      (fun _ s2 => ∃ h' tk, s2 = { s with heap := h', toks := tk } ∧ Filled w s.heap.objs.size ys h' ∧ ∀ b o, s.heap.get? b = some o → h'.get? b = some o) E { s with heap := h2, toks := tk } := by
  refine wpAny_runValue (update_strs W.toS s.heap.objs.size hSf ys hn hb hval (n - 0) 0 _ (by omega) (Nat.zero_le _) st ⟨0, Nat.le_refl 0, fun _ => rfl, ?_⟩ fun s' c hm hc hd hS => ?_)
  · have e0 : SetS w h2 s.heap.objs.size (fun _ => false) 0 := setS_fresh (k2 _ _ (Heap.get?_push_size _ rfl))
    exact e0.congr fun j => by simp
  · obtain ⟨h', g2, d', tk', os'⟩ := s'
    have eg : g2 = s.gens := hm.gens
    have ed : d' = s.drawn := hm.drawn
    have eo : os' = s.os := hm.os
    subst eg; subst ed; subst eo
    show ∃ h' tk, _
    refine ⟨h', tk', rfl, ⟨c, by omega, fun q => by rw [hd q, hn], hS⟩, fun b o e => ?_⟩
    have hb0 : b < s.heap.objs.size := Heap.lt_size e
    refine hm.heap b o (fun z => ?_) (k2 b o (Heap.get?_push_of_some _ e))
    rcases List.mem_cons.mp z with z | z
    · rw [z] at hb0
      exact Nat.lt_irrefl _ hb0
    · rw [List.mem_singleton.mp z] at hb0
      exact Nat.lt_irrefl _ (Nat.lt_trans hb0 hI)
set_option maxHeartbeats 16000000 in
theorem fill_list {l : Addr} {items : Array Value} {ys : List Str} (hh : A.handled = none) (hl : s.heap.IsList l items) (hi : StrsAre items.toList ys) (hb : ys.length + 1 < scanBound) :
    wpAny (model P w) A (Builtin.Frozenset.updateFrom "set.__init__" s.heap.objs.size (.ref l))
      (fun _ s2 => ∃ h' tk, s2 = { s with heap := h', toks := tk } ∧ Filled w s.heap.objs.size ys h' ∧ ∀ b o, s.heap.get? b = some o → h'.get? b = some o) E { s with heap := s.heap.push (newSetO w) } := by
  obtain ⟨ol, hol, hcl, nl, hdl⟩ := hl
  have hol' : (s.heap.push (newSetO w)).get? l = some ol := Heap.get?_push_of_some _ hol
  have hl1 : (s.heap.push (newSetO w)).IsList l items := ⟨_, hol', hcl, nl, hdl⟩
  obtain ⟨ocls, odict, odata, oslots⟩ := ol
  simp only at hcl hdl
  subst hcl; subst hdl
  have hsls := F.sub_list_set
  have hslf := F.sub_list_frozenset
  have hne : (Value.type "list" == Value.type "dict") = false := by decide
  have hlS : l < s.heap.objs.size := Heap.lt_size hol
  unfold Builtin.Frozenset.updateFrom
  generalize hPI : pyIter = PI
  wp_walk
  subst hPI
  refine wpAny_pyIter_list hl1 ?_
  have hz : (s.heap.push (newSetO w)).objs.size = s.heap.objs.size + 1 := Heap.size_push ..
  have hneI : l ≠ (s.heap.push (newSetO w)).objs.size := by
    rw [hz]
    exact Nat.ne_of_lt (Nat.lt_succ_of_lt hlS)
  have hlen : items.size = ys.length := by
    rw [← Array.length_toList]
    exact StrsAre.len_eq hi
  refine wpAny_bind (wpAny_mono (fill_walk (tk := s.toks) (Walks.list (by simp [hh]) _ l hneI items) (by rw [hz]; exact Nat.lt_succ_self _) ?_ hlen hb (strs_val hi) ⟨⟨_, Heap.get?_push_size _ rfl, rfl, rfl⟩, hl1.push _⟩ fun b o e => Heap.get?_push_of_some _ e) (fun _ s2 hq => wpAny_pure hq) fun _ _ hq => hq)
  rw [hz]
  simp only [List.mem_cons, List.mem_singleton, List.not_mem_nil, or_false, not_or]
  exact ⟨Nat.ne_of_lt (Nat.lt_succ_self _), Nat.ne_of_gt hlS⟩
set_option maxHeartbeats 16000000 in
theorem fill_tuple {l : Addr} {items : Array Value} {ys : List Str} (hh : A.handled = none) (hl : s.heap.IsTuple l items) (hi : StrsAre items.toList ys) (hb : ys.length + 1 < scanBound) :
    wpAny (model P w) A (Builtin.Frozenset.updateFrom "set.__init__" s.heap.objs.size (.ref l))
      (fun _ s2 => ∃ h' tk, s2 = { s with heap := h', toks := tk } ∧ Filled w s.heap.objs.size ys h' ∧ ∀ b o, s.heap.get? b = some o → h'.get? b = some o) E { s with heap := s.heap.push (newSetO w) } := by
  obtain ⟨ol, hol, hcl, nl, hdl⟩ := hl
  have hol' : (s.heap.push (newSetO w)).get? l = some ol := Heap.get?_push_of_some _ hol
  have hl1 : (s.heap.push (newSetO w)).IsTuple l items := ⟨_, hol', hcl, nl, hdl⟩
  obtain ⟨ocls, odict, odata, oslots⟩ := ol
  simp only at hcl hdl
  subst hcl; subst hdl
  have hsls := F.sub_tuple_set
  have hslf := F.sub_tuple_frozenset
  have hne : (Value.type "tuple" == Value.type "dict") = false := by decide
  have hlS : l < s.heap.objs.size := Heap.lt_size hol
  unfold Builtin.Frozenset.updateFrom
  generalize hPI : pyIter = PI
  wp_walk
  subst hPI
  refine wpAny_pyIter_tuple hl1 ?_
  have hz : (s.heap.push (newSetO w)).objs.size = s.heap.objs.size + 1 := Heap.size_push ..
  have hneI : l ≠ (s.heap.push (newSetO w)).objs.size := by
    rw [hz]
    exact Nat.ne_of_lt (Nat.lt_succ_of_lt hlS)
  have hlen : items.size = ys.length := by
    rw [← Array.length_toList]
    exact StrsAre.len_eq hi
  refine wpAny_bind (wpAny_mono (fill_walk (tk := s.toks) (Walks.tuple (by simp [hh]) _ l hneI items) (by rw [hz]; exact Nat.lt_succ_self _) ?_ hlen hb (strs_val hi) ⟨⟨_, Heap.get?_push_size _ rfl, rfl, rfl⟩, hl1.push _⟩ fun b o e => Heap.get?_push_of_some _ e) (fun _ s2 hq => wpAny_pure hq) fun _ _ hq => hq)
  rw [hz]
  simp only [List.mem_cons, List.mem_singleton, List.not_mem_nil, or_false, not_or]
  exact ⟨Nat.ne_of_lt (Nat.lt_succ_self _), Nat.ne_of_gt hlS⟩
end
end K11
/-! KS4 -/
namespace K11
open PySem PySem.Spec PyProof.Rows L2
/-! ### ascending lists of texts -/
abbrev cl (x : Str) : List Nat := x.cps.toList
theorem cl_inj {x y : Str} (h : cl x = cl y) : x = y := TL.ext_tl h
def Asc (ys : List Str) : Prop := ys.Pairwise fun a b => cl a < cl b
theorem cl_tri {x y : Str} (h1 : ¬ cl x < cl y) (h2 : ¬ cl y < cl x) : x = y := cl_inj (List.le_antisymm (List.not_lt.mp h2) (List.not_lt.mp h1))
theorem rising_le : ∀ (r : List Str) (p : Str), risingS p r = true → ∀ y ∈ r, ¬ cl y < cl p
  | [], _, _, y, hy => by cases hy
  | x :: r, p, h, y, hy => by
    have h : (!ltCps x.cps.toList p.cps.toList && risingS x r) = true := h
    rw [Bool.and_eq_true, Bool.not_eq_true', ltCps_eq, decide_eq_false_iff_not] at h
    rcases List.mem_cons.mp hy with e | e
    · rw [e]
      exact h.1
    · intro z
      have z2 := rising_le r x h.2 y e
      have a := List.not_lt.mp h.1
      have b := List.not_lt.mp z2
      exact absurd z (List.not_lt.mpr (List.le_trans a b))
theorem rising_tail {x y : Str} {r : List Str} (h : risingS x (y :: r) = true) : risingS y r = true := by
  have h : (!ltCps y.cps.toList x.cps.toList && risingS y r) = true := h
  exact (Bool.and_eq_true_iff.mp h).2
theorem asc_of : ∀ {ys : List Str}, sortedS ys = true → ys.Nodup → Asc ys
  | [], _, _ => List.Pairwise.nil
  | x :: r, h, nd => by
    obtain ⟨n1, n2⟩ := List.nodup_cons.mp nd
    refine List.pairwise_cons.mpr ⟨fun y hy => ?_, asc_of (ys := r) ?_ n2⟩
    · have a := rising_le r x h y hy
      by_cases q : cl x < cl y
      · exact q
      · exact absurd (cl_tri q a) fun e => n1 (e ▸ hy)
    · cases r with
      | nil => rfl
      | cons y r => exact rising_tail h
theorem Asc.nodup {ys : List Str} (h : Asc ys) : ys.Nodup := h.imp fun {a b} q e => by
  rw [e] at q
  exact absurd q (List.lt_irrefl _)
/-- an ascending list is told by its members -/
theorem asc_uniq : ∀ {xs ys : List Str}, Asc xs → Asc ys → (∀ z, z ∈ xs ↔ z ∈ ys) → xs = ys
  | [], [], _, _, _ => rfl
  | [], y :: r, _, _, h => by have := (h y).2 List.mem_cons_self; cases this
  | x :: r, [], _, _, h => by have := (h x).1 List.mem_cons_self; cases this
  | x :: r, y :: t, hx, hy, h => by
    obtain ⟨a1, a2⟩ := List.pairwise_cons.mp hx
    obtain ⟨b1, b2⟩ := List.pairwise_cons.mp hy
    have e : x = y := by
      rcases List.mem_cons.mp ((h x).1 List.mem_cons_self) with e | e
      · exact e
      · rcases List.mem_cons.mp ((h y).2 List.mem_cons_self) with e2 | e2
        · exact e2.symm
        · exact absurd (List.lt_trans (b1 x e) (a1 y e2)) (List.lt_irrefl _)
    subst e
    have nx : x ∉ r := fun m => absurd (a1 x m) (List.lt_irrefl _)
    have ny : x ∉ t := fun m => absurd (b1 x m) (List.lt_irrefl _)
    rw [asc_uniq a2 b2 fun z => ?_]
    constructor
    · intro m
      rcases List.mem_cons.mp ((h z).1 (List.mem_cons_of_mem _ m)) with e | e
      · exact absurd (e ▸ m) nx
      · exact e
    · intro m
      rcases List.mem_cons.mp ((h z).2 (List.mem_cons_of_mem _ m)) with e | e
      · exact absurd (e ▸ m) ny
      · exact e
theorem asc_perm {xs ys : List Str} (hx : Asc xs) (hy : Asc ys) (p : xs.Perm ys) : xs = ys := asc_uniq hx hy fun _ => p.mem_iff
/-! ### sorted(set), len(set) -/
section
variable {P : Program} {w : World} {A : Around} {E : Value → Shared → Prop} {s : Shared} {a : Addr} {S : Str → Bool} {n : Nat}
theorem strs_of_kS {w : World} : ∀ (l : List (Int × Value)), (∀ e ∈ l, GoodT w e) → ∀ vs : List Value, vs.Perm (l.map (·.2)) → ∃ ss, StrsAre vs ss ∧ ss.Perm (l.map kS) := fun l g vs pm => by
  have all : ∀ v ∈ vs, ∃ x t, v = Value.str x t := fun v hv => by
    obtain ⟨e, he, q⟩ := List.mem_map.mp (pm.mem_iff.mp hv)
    obtain ⟨k, tk, h1, _⟩ := g e he
    exact ⟨k, tk, by rw [← q]; exact h1⟩
  refine ⟨_, strsAre_map vs all, ?_⟩
  have q := pm.map PyProof.Rows.strOf
  rw [List.map_map] at q
  refine q.trans (List.Perm.of_eq (List.map_congr_left fun e he => ?_))
  obtain ⟨k, tk, h1, _⟩ := g e he
  show PyProof.Rows.strOf e.2 = kS e
  unfold kS
  rw [h1]
  rfl
theorem sorted_setS {Q : Value → Shared → Prop} (R : SetS w s.heap a S n) (hh : A.handled = none) (h64 : n < 64)
    (hQ : ∀ s' p (out : Array Value) (c : Nat) (ys : List Str), (∀ b o, s.heap.get? b = some o → s'.heap.get? b = some o) → s'.gens = s.gens → s'.os = s.os → s.heap.objs.size ≤ p →
      s'.heap.get? p = some (seqObj "list" out c) → StrsAre out.toList ys → Asc ys → (∀ k, k ∈ ys ↔ S k = true) → ys.length = n → Q (.ref p) s') :
    wpAny (model P w) A (call (.builtin "sorted") [.ref a]) Q E s := by
  obtain ⟨o, es, ep, t, ho, hex, hd, g, nd, hm, hb, hf, hn, hr, hl⟩ := R
  refine Calls.call_function_entry kind_sorted plain_sorted entry_sorted (args_sorted1 _) ?_
  unfold Builtin.«sorted»
  refine wpAny_bind (m := checkCount "sorted" 1 1 _) (wpAny_pure ?_)
  refine wpAny_bind (collect_set (A := A.in1) hh ⟨o, ho, hex.1, hd⟩ hf hb hr hl fun s1 vs k1 hz g1 o1 pm => ?_)
  have hvl : vs.length = n := by
    rw [pm.length_eq, List.length_map, Array.length_toList]
    exact hn
  obtain ⟨ss, hS, ps⟩ := strs_of_kS es.toList g vs pm
  refine wpAny_bind (wpAny_newList ?_ (by rw [hvl, sizeLine_eq]; omega))
  have hoL : (s1.heap.push (seqObj "list" vs.toArray 0)).get? s1.heap.objs.size = some (seqObj "list" vs.toArray 0) := Heap.get?_push_size _ rfl
  refine wpAny_bind (wpAny_holding (wpAny_call_entry slot_list_sort ⟨_, hoL, rfl⟩ entry_list_sort (list_sort_treeK strKind_oneLt hoL hS.keysOf (fun v₁ v₂ rest e => keyKind_strs (by rw [← e]; exact hS)) (by rw [hvl]; exact h64) fun st' hp hs => ⟨_, rfl, ?_⟩) (args_list_sort _)))
  obtain ⟨ys, y1, y2, y3⟩ := sorted_out_str hS hp hs
  obtain ⟨c, hc⟩ := sortedHeap_at (vs := vs) (out := (arrOf st').map (·.2)) hoL
  have pn : ys.Perm (es.toList.map kS) := y2.trans ps
  refine wpAny_pure ⟨_, rfl, hQ _ s1.heap.objs.size _ c ys (fun b u e => ?_) g1 o1 hz hc y1 (asc_of y3 (pn.nodup_iff.mpr nd)) (fun k => by rw [pn.mem_iff, ← hm k]) ?_⟩
  · have q := k1 b u e
    have hlt := Heap.lt_size q
    show (sortedHeap (s1.heap.push (seqObj "list" vs.toArray 0)) s1.heap.objs.size vs ((arrOf st').map (·.2))).get? b = some u
    rw [sortedHeap_old (Nat.ne_of_lt hlt) (by rw [Heap.size_push]; exact Nat.lt_succ_of_lt hlt)]
    exact Heap.get?_push_of_some _ q
  · rw [pn.length_eq, List.length_map, Array.length_toList]
    exact hn
end
/-! ### by values -/
def SetSO (w : World) (a : Addr) (S : Str → Bool) (n : Nat) : HO := .ext fun h => SetS w h a S n
theorem setSO_new {w : World} {P : Program} {H : Hp} {h : Heap} {a : Addr} {S : Str → Bool} {n : Nat} (R : SetS w h a S n) : ObjOk P w H h a (SetSO w a S n) := by
  have ⟨o, _, _, _, ho, _⟩ := R
  exact ⟨R, ⟨o, ho⟩, fun h1 h2 p k => SetS.at p k⟩
section
variable {X : Cx}
theorem setSO_get {pins : List (Addr × Obj)} {σ : L2.St} {H : Hp} {s : Shared} {a : Addr} {S : Str → Bool} {n : Nat} (I : Inv X pins σ H s) (ha : H a = some (SetSO X.w a S n)) : SetS X.w s.heap a S n := (I.hok a _ ha).1
/-- set(xs) of a list or a tuple of texts -/
def rSetT (K : PySem.W.Frag) (w : World) : List V → Hp → VK → Prop := fun xs H Q => ∃ (l : Addr) (ys : List Str), xs = [V.ref l] ∧ (SqL K H l (ys.map V.str) ∨ SqT K H l (ys.map V.str)) ∧ ys.length ≤ 1000 ∧
  ∀ p c, H p = none → (ys.Nodup → c = ys.length) → c ≤ ys.length → Q (.ref p) (upd H p (SetSO w p (fun j => decide (j ∈ ys)) c))
theorem cr_setT (hc : X.calm = true) : CallR X (.type "set") (rSetT X.K X.w) := by
  intro pins s σ H xs us Q I r h
  obtain ⟨l, ys, rfl, hs, hb, q⟩ := h
  rw [Vals.ref1 r]
  have hh : X.A.handled = none := I.ok.hd hc
  have hb2 : ys.length + 1 < scanBound := Nat.lt_of_le_of_lt (Nat.succ_le_succ hb) (by decide)
  have fin : ∀ (h' : Heap) (tk : Nat), Filled X.w s.heap.objs.size ys h' → (∀ b o, s.heap.get? b = some o → h'.get? b = some o) → EP X pins σ Q (.ref s.heap.objs.size) { s with heap := h', toks := tk } := fun h' tk ⟨c, c1, c2, R⟩ k =>
    ⟨.ref _, upd H s.heap.objs.size (SetSO X.w s.heap.objs.size (fun j => decide (j ∈ ys)) c), I.laid (t' := tk) k (Nat.le_refl _) (setSO_new R), rfl, q _ c (I.hok.fresh (Nat.le_refl _)) c2 c1⟩
  rcases hs with hs | hs
  · obtain ⟨its, rv, hl, _⟩ := I.list hs
    exact call_set_by (fun A' ha => fill_list (ha.trans hh) hl.isList rv.strs hb2) fin
  · obtain ⟨its, rv, hl, _⟩ := I.tuple hs
    exact call_set_by (fun A' ha => fill_tuple (ha.trans hh) hl rv.strs hb2) fin
/-- sorted(a set of texts) -/
def rSortSet (w : World) : List V → Hp → VK → Prop := fun vs H Q => ∃ (a : Addr) (S : Str → Bool) (n : Nat), vs = [V.ref a] ∧ H a = some (SetSO w a S n) ∧ n < 64 ∧
  ∀ (ys : List Str) (p : Addr), Asc ys → (∀ k, k ∈ ys ↔ S k = true) → ys.length = n → H p = none → Q (.ref p) (upd H p (.lst (ys.map V.str)))
theorem cr_sortSet (hc : X.calm = true) : CallR X (.builtin "sorted") (rSortSet X.w) := by
  intro pins s σ H vs us Q I r h
  obtain ⟨a, S, n, rfl, ha, h64, q⟩ := h
  rw [Vals.ref1 r]
  refine sorted_setS (setSO_get I ha) (I.ok.hd hc) h64 fun s' p out c ys k g o hp hget hS asc mem len => ?_
  obtain ⟨h', g', d', t', o'⟩ := s'
  have hlen : (ys.map V.str).length ≤ sizeLine := by
    rw [List.length_map, len]
    exact small64 h64
  have J : Inv X pins σ (upd H p (.lst (ys.map V.str))) ⟨h', g', d', t', o'⟩ := by
    subst g
    subst o
    have un : Un (frs X.stack) [] H (upd H p (.lst (ys.map V.str))) s.heap h' := Un.laid k hp (I.hok.fresh hp)
    exact I.call (g' := s.gens) (t' := t') (d' := d') (ch := []) un (I.hok.laid k hp ⟨hlen, out.toList, c, vals_of_strs hS, by simpa using hget⟩) I.bare (fun b hb => absurd hb (by simp))
  exact ⟨.ref p, _, J, rfl, q ys p asc mem len (I.hok.fresh hp)⟩
/-- len(a set of texts) -/
def rLenSet (w : World) : List V → Hp → VK → Prop := fun vs H Q => ∃ (a : Addr) (S : Str → Bool) (n : Nat), vs = [V.ref a] ∧ H a = some (SetSO w a S n) ∧ Q (.int n) H
theorem cr_lenSet : CallR X (.builtin "len") (rLenSet X.w) := by
  intro pins s σ H vs us Q I r h
  obtain ⟨a, S, n, rfl, ha, q⟩ := h
  rw [Vals.ref1 r]
  obtain ⟨o, es, ep, t, ho, hex, hd, g, nd, hm, hb, hf, hn, hr, hl⟩ := setSO_get I ha
  subst hn
  refine call_len_set ho hex hd hf ?_ ⟨.int es.size, H, I.tok _, ⟨_, rfl⟩, q⟩
  have : scanBound = 4096 := rfl
  omega
end
end K11
/-! KS5 -/
namespace K11
open PySem PySem.Spec PyProof.Rows L2
/-! ### set(dict) -/
def roomyB (n : Nat) (led : Bool) : Bool := match (SetTable.fresh 0 0 led).roomFor n with
  | none => true
  | some wd => decide (SetTable.sizeAbove wd ≤ 64) && (match (SetTable.fresh 0 0 led).relaid #[] wd with
    | some (t, o) => t.place.isEmpty && (o.isEmpty && (t.fits 0 && (t.led == led)))
    | none => false)
theorem roomy_all : ∀ n, n < 13 → ∀ led : Bool, roomyB n led = true := by decide +kernel
section
variable {P : Program} {w : World} {A : Around} {E : Value → Shared → Prop} {s : Shared} {a : Addr}
theorem room_fresh {n : Nat} {Q : Unit → Shared → Prop} (hn : n < 13) (ho : s.heap.get? a = some (newSetO w)) (hQ : ∀ h', Heap.SameBut a s.heap h' → SetS w h' a (fun _ => false) 0 → Q () { s with heap := h' }) :
    wpAny (model P w) A (setRoomFor a n) Q E s := by
  have hR := roomy_all n hn (!w.params.followText "set-order")
  have hf0 : (SetTable.fresh 0 0 (!w.params.followText "set-order")).fits (#[] : Array (Int × Value)).size = true := by rfl
  unfold setRoomFor
  refine wpAny_bind (wpAny_setState_of ho rfl hf0 ?_)
  dsimp only
  unfold roomyB at hR
  cases e : (SetTable.fresh 0 0 (!w.params.followText "set-order")).roomFor n with
  | none =>
    dsimp only
    exact wpAny_pure (hQ s.heap (Heap.SameBut.refl a s.heap) (setS_fresh ho))
  | some wd =>
    dsimp only
    rw [e] at hR
    obtain ⟨h1, h2⟩ := He.ba hR
    unfold setRelay
    refine wpAny_bind (wpAny_setState_of ho rfl hf0 ?_)
    dsimp only
    refine wp_if_neg (by rw [sizeLine_eq]; have := of_decide_eq_true h1; omega) ?_
    try refine wpAny_bind (wpAny_pure ?_)
    have em : (#[] : Array (Int × Value)).map (·.1) = #[] := by simp
    rw [em]
    cases e2 : (SetTable.fresh 0 0 (!w.params.followText "set-order")).relaid #[] wd with
    | none =>
      rw [e2] at h2
      cases h2
    | some r =>
      obtain ⟨t, o⟩ := r
      rw [e2] at h2
      obtain ⟨z1, z2⟩ := He.ba h2
      obtain ⟨z3, z4⟩ := He.ba z2
      obtain ⟨z5, z6⟩ := He.ba z4
      have eo : o = #[] := Array.isEmpty_iff.mp z3
      have et : t.place = #[] := Array.isEmpty_iff.mp z1
      subst eo
      refine wpAny_bind ?_
      show wpAny _ _ (pure ((#[] : Array (Int × Value)), t)) _ _ _
      refine wpAny_pure ?_
      dsimp only
      refine wpAny_storeSet_of ho rfl ?_ (Nat.zero_le _)
      refine hQ _ (Heap.SameBut.update ..) ⟨_, #[], 1, t, store_at ho rfl, ⟨rfl, rfl, rfl⟩, rfl, fun e he => ?_, ?_, fun k => ?_, by decide, z5, rfl, ?_, ?_⟩
      · simp at he
      · simp
      · simp
      · rw [et]
        exact List.Pairwise.nil
      · cases q : w.params.followText "set-order"
        · right
          rw [eq_of_beq z6, q]
          rfl
        · left
          rfl
/-- the keys of the entries -/
theorem pair_keys {P : Program} {w : World} : ∀ {es : List DictEntry} {ks : List (Key × Value)} {ys : List Str}, Pairs (mixKind P w) es ks → ks.map (·.1) = ys.map Sum.inr → (∀ e ∈ es, ∃ k, (mixKind P w).is k e.key = true ∧ e.hash = (mixKind P w).hash k) →
    es.length = ys.length ∧ ∀ (i : Nat) (e : DictEntry), es[i]? = some e → ∃ k t, ys[i]? = some k ∧ e.key = .str k t ∧ e.hash = (PySem.strKind P w).hash k
  | [], [], [], _, _, _ => ⟨rfl, fun i e h => by simp at h⟩
  | [], [], _ :: _, _, h, _ => by cases h
  | _ :: _, _ :: _, [], _, h, _ => by cases h
  | e :: es, kv :: ks, y :: ys, hp, h, hh => by
    cases hp with
    | cons h1 h2 h3 =>
      injection h with k1 k2
      obtain ⟨r1, r2⟩ := pair_keys h3 k2 fun e he => hh e (List.mem_cons_of_mem _ he)
      refine ⟨by rw [List.length_cons, List.length_cons, r1], fun i u hu => ?_⟩
      cases i with
      | zero =>
        have eu : e = u := by simpa using hu
        subst eu
        have k1 : kv.1 = Sum.inr y := k1
        rw [k1] at h1
        rcases keyIs_shape (show keyIs (Sum.inr y) e.key = true from h1) with ⟨_, _, q, _⟩ | ⟨x, t, q, q2⟩
        · cases q
        · cases q
          obtain ⟨k, q3, q4⟩ := hh e List.mem_cons_self
          have ek : k = Sum.inr y := by
            have q5 : keyIs k e.key = true := q3
            rw [q2] at q5
            rcases keyIs_shape q5 with ⟨_, _, _, z⟩ | ⟨_, _, z1, z2⟩
            · cases z
            · injection z2 with z3 _
              rw [z1, z3]
          rw [ek] at q4
          exact ⟨y, t, rfl, q2, q4⟩
      | succ i =>
        obtain ⟨k, t, a, b, c⟩ := r2 i u (by simpa using hu)
        exact ⟨k, t, by simpa using a, b, c⟩
set_option maxHeartbeats 16000000 in
theorem fill_dict {d : Addr} {ks : List (Key × Value)} {ys : List Str} (hd : s.heap.DictOf (mixKind P w) d ks) (hk : ks.map (·.1) = ys.map Sum.inr) (hl : ys.length < 13) (hsm : (d == sysModules) = false) :
    wpAny (model P w) A (Builtin.Frozenset.updateFrom "set.__init__" s.heap.objs.size (.ref d))
      (fun _ s2 => ∃ h' tk, s2 = { s with heap := h', toks := tk } ∧ Filled w s.heap.objs.size ys h' ∧ ∀ b o, s.heap.get? b = some o → h'.get? b = some o) E { s with heap := s.heap.push (newSetO w) } := by
  obtain ⟨o, es, ep, ho, hex, hdt, hke, hp, nd⟩ := hd
  obtain ⟨e1, e2⟩ := pair_keys (ys := ys) hp hk fun e he => hke e (by simpa using he)
  rw [Array.length_toList] at e1
  have ho' : (s.heap.push (newSetO w)).get? d = some o := Heap.get?_push_of_some _ ho
  have hdS : d ≠ s.heap.objs.size := Nat.ne_of_lt (Heap.lt_size ho)
  have hT : Shared.TypeIs { s with heap := s.heap.push (newSetO w) } (.ref d) "dict" := ⟨o, ho', hex.1⟩
  have hsls := F.sub_dict_set
  have hslf := F.sub_dict_frozenset
  have hne : (Value.type "dict" == Value.type "dict") = true := by decide
  unfold Builtin.Frozenset.updateFrom
  generalize hRF : setRoomFor = RF
  generalize hAH : setAddHashed = AH
  wp_walk
  subst hRF
  subst hAH
  rw [hdt]
  refine wpAny_pure ?_
  refine wpAny_bind (wpAny_dictEntries ho' hdt ?_)
  refine wpAny_bind (room_fresh (by rw [e1]; exact hl) (Heap.get?_push_size _ rfl) fun h1 sb1 R1 => ?_)
  have ho1 : h1.get? d = some o := (sb1.2 d hdS).trans ho'
  refine wpAny_bind (wpAny_dictEntries (s := { s with heap := h1 }) ho1 hdt ?_)
  refine wpAny_bind ?_
  refine TI.forIn_rng _ (fun rest _ s' => ∃ (h' : Heap) (i : Nat), s' = { s with heap := h' } ∧ rest = List.range' i (es.size - i) ∧ i ≤ es.size ∧ Heap.SameBut s.heap.objs.size h1 h' ∧
      ∃ c, c ≤ i ∧ ((ys.take i).Nodup → c = i) ∧ SetS w h' s.heap.objs.size (fun j => decide (j ∈ ys.take i)) c) _ ?_ ?_ _ ?_
  · rintro x rest _ s' ⟨h', i, rfl, hr, hi, sb, c, c1, c2, R⟩
    have hlt : i < es.size := by
      by_cases q : i < es.size
      · exact q
      · rw [show es.size - i = 0 by omega] at hr
        cases hr
    obtain ⟨rfl, hrest⟩ : x = i ∧ rest = List.range' (i + 1) (es.size - (i + 1)) := by
      have e : es.size - i = (es.size - (i + 1)) + 1 := by omega
      rw [e, List.range'_succ] at hr
      injection hr with a b
      exact ⟨a, b⟩
    have hod : h'.get? d = some o := (sb.2 d hdS).trans ho1
    refine wpAny_bind (wpAny_dictEntries (s := { s with heap := h' }) hod hdt ?_)
    rw [Array.getElem?_eq_getElem hlt]
    dsimp only
    obtain ⟨k, t, k1, k2, k3⟩ := e2 x es[x] (by rw [Array.getElem?_toList, Array.getElem?_eq_getElem hlt])
    rw [k2, k3]
    refine wpAny_bind (wpAny_holding ?_)
    refine setS_addH (s := { s with heap := h' }) R (by have : scanBound = 4096 := rfl; omega) fun h2 sb2 R2 => ?_
    have hod2 : h2.get? d = some o := (sb2.2 d hdS).trans hod
    refine wpAny_bind (wpAny_dictEpoch (s := { s with heap := h2 }) hod2 hdt ?_)
    rw [if_neg (by simp)]
    have et : ys.take (x + 1) = ys.take x ++ [k] := by
      rw [List.take_add_one, k1]
      rfl
    refine wpAny_pure ⟨h2, x + 1, rfl, hrest, hlt, sb.trans sb2, (if decide (k ∈ ys.take x) = true then c else c + 1), by split <;> omega, fun q => ?_, R2.congr fun j => by rw [et]; simp [List.mem_append]⟩
    rw [et] at q
    have q1 := (List.nodup_append.mp q)
    have nz : k ∉ ys.take x := fun m => q1.2.2 k m k (List.mem_singleton.mpr rfl) rfl
    rw [if_neg (by simpa using nz), c2 q1.1]
  · rintro _ s' ⟨h', i, rfl, hr, hi, sb, c, c1, c2, R⟩
    have hin : i = es.size := by
      by_cases q : i = es.size
      · exact q
      · rw [show es.size - i = (es.size - (i + 1)) + 1 by omega, List.range'_succ] at hr
        cases hr
    subst hin
    have e : ys.take es.size = ys := List.take_of_length_le (by omega)
    rw [e] at R c2
    refine wpAny_pure ⟨h', s.toks, rfl, ⟨c, by omega, fun q => by rw [c2 q, e1], R⟩, fun b u hb => ?_⟩
    have hbS : b ≠ s.heap.objs.size := Nat.ne_of_lt (Heap.lt_size hb)
    exact (sb.2 b hbS).trans ((sb1.2 b hbS).trans (Heap.get?_push_of_some _ hb))
  · refine ⟨h1, 0, rfl, by simp, Nat.zero_le _, Heap.SameBut.refl _ _, 0, Nat.le_refl _, fun _ => rfl, R1.congr fun j => by simp⟩
end
/-- set(d), d a dict with few text keys -/
def rSetD (w : World) : List V → Hp → VK → Prop := fun xs H Q => ∃ (d : Addr) (kvs : List (Key × V)) (ys : List Str), xs = [V.ref d] ∧ H d = some (.dK kvs) ∧ kvs.map (·.1) = ys.map Sum.inr ∧ ys.length < 13 ∧
  ∀ p c, H p = none → (ys.Nodup → c = ys.length) → c ≤ ys.length → Q (.ref p) (upd H p (SetSO w p (fun j => decide (j ∈ ys)) c))
section
variable {X : Cx}
theorem cr_setD : CallR X (.type "set") (rSetD X.w) := by
  intro pins s σ H xs us Q I r h
  obtain ⟨d, kvs, ys, rfl, hd, hk, hl, q⟩ := h
  rw [Vals.ref1 r]
  obtain ⟨z, hsm, vs, rel, dd⟩ := dk_of I.hok hd
  have ek : vs.map (·.1) = ys.map Sum.inr := by
    rw [← hk]
    clear dd hk hd q z
    induction rel with
    | nil => rfl
    | cons a _ ih => rw [List.map_cons, List.map_cons, ih, a.1]
  refine call_set_by (fun A' ha => fill_dict dd ek hl hsm) fun h' tk ⟨c, c1, c2, R⟩ k => ?_
  exact ⟨.ref _, upd H s.heap.objs.size (SetSO X.w s.heap.objs.size (fun j => decide (j ∈ ys)) c), I.laid (t' := tk) k (Nat.le_refl _) (setSO_new R), rfl, q _ c (I.hok.fresh (Nat.le_refl _)) c2 c1⟩
end
end K11
/-! KS6 -/
namespace K11
open PySem PySem.Spec PyProof.Rows L2
/-! ### set.add of a text; a set comprehension with two clauses -/
section
variable {P : Program} {w : World} {A : Around} {E : Value → Shared → Prop} {s : Shared} {a : Addr} {S : Str → Bool} {n : Nat}
theorem setS_add {k : Str} {tk : Tok} {Q : Value → Shared → Prop} (R : SetS w s.heap a S n) (room : n + 1 < scanBound)
    (hQ : ∀ h', Heap.SameBut a s.heap h' → SetS w h' a (fun j => S j || decide (j = k)) (if S k = true then n else n + 1) → Q .none { s with heap := h', toks := s.toks + 1 }) :
    wpAny (model P w) A (call (.builtin "set.add") [.ref a, .str k tk]) Q E s := by
  have hT : s.TypeIs (.ref a) "set" := by
    have ⟨o, _, _, _, ho, hex, _⟩ := R
    exact ⟨o, ho, hex.1⟩
  refine wpAny_call_entry F.slot_set_add hT F.entry_set_add ?_ (F.args_set_add_2 _ _)
  unfold Builtin.«set.add» Builtin.Frozenset.oneOther
  simp only [List.isEmpty_nil, bind_assoc]
  unfold Builtin.Frozenset.addrOf setAdd
  refine wpAny_bind (wpAny_pure ?_)
  try dsimp only
  refine wpAny_bind (wpAny_pure ?_)
  try dsimp only
  refine wpAny_bind ?_
  refine wpAny_holding ?_
  refine wpAny_bind ((PySem.strKind P w).pyHash (strKind_is P w k tk) ?_)
  refine setS_addH (s := { s with toks := s.toks + 1 }) R room fun h' sb r => ?_
  show wpAny _ _ (ret Value.none) _ _ _
  exact wpAny_pure ⟨_, rfl, hQ h' sb r⟩
end
section
variable {X : Cx}
theorem addS_ok {pins : List (Addr × Obj)} {σ : L2.St} {H : Hp} {s : Shared} {E : Value → Shared → Prop} {D : Addr} {S : Str → Bool} {n : Nat} {y : Str} {tk : Tok} {Q : Value → Shared → Prop} (I : Inv X pins σ H s) (hD : H D = some (SetSO X.w D S n)) (room : n + 1 < scanBound)
    (h : ∀ s', Inv X pins σ (upd H D (SetSO X.w D (fun j => S j || decide (j = y)) (if S y = true then n else n + 1))) s' → Q .none s') : wpAny (model X.prog X.w) X.A (call (.builtin "set.add") [.ref D, .str y tk]) Q E s :=
  setS_add (setSO_get I hD) room fun h' sb new => h _ (I.write (e := D) (t' := s.toks + 1) (by rw [hD]; trivial) (.inl rfl) (fun b u hb hu => (sb.2 b hb).trans hu) (by
    have ⟨o, _, _, _, ho, _⟩ := new
    exact ⟨o, ho⟩) (setSO_new new))
end
/-- the two clauses -/
abbrev two (t0 i0 t1 i1 : Expr) (f0 f1 : List Expr) : List Comprehension := [⟨t0, i0, f0, 0⟩, ⟨t1, i1, f1, 0⟩]
section
variable {P : Program} {w : World} {A : Around} {R : Result → Shared → Prop} {s : Shared} {elt t0 i0 t1 i1 : Expr} {f0 f1 : List Expr} {scope : Scope} {pos : Pos} {it acc : Value} {env : Env}
theorem turnS_out : compTurn (.SetComp elt (two t0 i0 t1 i1 f0 f1) scope pos) 0 it acc env = (do
      standAt i0.pos
      match ← pyNext it with
      | none => pure (.done .next)
      | some v =>
        letOwnedTupleGo t0 it v
        assign t0 env v
        let mut ok := true
        for c in f0 do
          if ok then ok ← isTrue c env (eval c env)
        if ok then
          let x ← eval i1 env
          standAt i1.pos
          let x ← foldedSetIterable i1 env x
          let _ ← runOwn (.compStart (.SetComp elt (two t0 i0 t1 i1 f0 f1) scope pos) 1 (← holding [x] (pyIter x)) acc env) env
        again (.compLoop (.SetComp elt (two t0 i0 t1 i1 f0 f1) scope pos) 0 it acc env)) := by rfl
theorem turnS_in : compTurn (.SetComp elt (two t0 i0 t1 i1 f0 f1) scope pos) 1 it acc env = (do
      standAt i1.pos
      match ← pyNext it with
      | none => pure (.done .next)
      | some v =>
        letOwnedTupleGo t1 it v
        assign t1 env v
        let mut ok := true
        for c in f1 do
          if ok then ok ← isTrue c env (eval c env)
        if ok then
          (do let v ← eval elt env; standAt elt.pos; let _ ← call (.builtin "set.add") [acc, v])
        again (.compLoop (.SetComp elt (two t0 i0 t1 i1 f0 f1) scope pos) 1 it acc env)) := by rfl
/-- what goes on behind an error within the block -/
abbrev noteX (P : Program) (w : World) (A : Around) (env : Env) (R : Result → Shared → Prop) : Value → Shared → Prop := notedBy (model P w) A env fun e s' => R (.error e) s'
/-- the tests of a clause, one by one -/
abbrev tests (fs : List Expr) (env : Env) : Sem Bool := forIn fs true fun c r => if r = true then do let ok ← isTrue c env (eval c env); pure (ForInStep.yield ok) else pure (ForInStep.yield r)
theorem loopS_out (hs : ∀ x, foldedSetIterable i1 env x = pure x) (I : Nat → Shared → Prop)
    (turn : ∀ n s, I n s → wpAny (model P w) A (pyNext it) (fun r s₁ => match r with
      | none => R (.ok .next) s₁
      | some v => wpAny (model P w) A (letOwnedTupleGo t0 it v) (fun _ s₂ => wpAny (model P w) A (assign t0 env v) (fun _ s₃ => wpAny (model P w) A (tests f0 env) (fun ok s₄ =>
            if ok = true then wpAny (model P w) A (eval i1 env) (fun x s₅ => wpAny (model P w) A (pyIter x) (fun it1 s₆ =>
              codeAny (model P w) A (.compStart (.SetComp elt (two t0 i0 t1 i1 f0 f1) scope pos) 1 it1 acc env) (fun r s' => match r with
                | .ok _ => ∃ m, m < n ∧ I m s'
                | .error _ => False) s₆) (noteX P w A env R) s₅) (noteX P w A env R) s₄
            else ∃ m, m < n ∧ I m s₄) (noteX P w A env R) s₃) (noteX P w A env R) s₂) (noteX P w A env R) s₁) (noteX P w A env R) s)
    (n : Nat) (h : I n s) : codeAny (model P w) A (.compLoop (.SetComp elt (two t0 i0 t1 i1 f0 f1) scope pos) 0 it acc env) R s := by
  refine codeAny_loop rfl I (fun n s hI => ?_) n h
  show wpAny _ A ((compTurn (.SetComp elt (two t0 i0 t1 i1 f0 f1) scope pos) 0 it acc env).onRaise (fun x => do noteFrame x env; theTreesLotGoes x)) _ _ s
  refine wpAny_noted ?_
  rw [turnS_out]
  refine wpAny_bind (wpAny_standAt (wpAny_bind (wpAny_mono (turn n s hI) (fun r s₁ q₁ => ?_) fun _ _ e => e)))
  cases r with
  | none => exact wpAny_pure q₁
  | some v =>
    refine wpAny_bind (wpAny_mono q₁ (fun _ s₂ q₂ => wpAny_bind (wpAny_mono q₂ (fun _ s₃ q₃ => wpAny_bind (wpAny_mono q₃ (fun ok s₄ q₄ => ?_) fun _ _ e => e)) fun _ _ e => e)) fun _ _ e => e)
    cases ok with
    | false => exact wpAny_pure ⟨rfl, q₄⟩
    | true =>
      refine wpAny_bind (wpAny_mono q₄ (fun x s₅ q₅ => wpAny_bind (wpAny_standAt (wpAny_bind (wpAny_of_eq (hs x) (wpAny_bind (wpAny_holding (wpAny_mono q₅ (fun it1 s₆ q₆ => ?_) fun _ _ e => e))))))) fun _ _ e => e)
      refine wpAny_bind (wpAny_runOwn ?_)
      rw [Around.mark_none]
      refine codeAny_mono q₆ fun r s' hr => ?_
      cases r with
      | ok f =>
        first
          | exact wpAny_pure ⟨rfl, hr⟩
          | exact wpAny_bind (wpAny_pure (wpAny_pure ⟨rfl, hr⟩))
      | error e => exact hr.elim
theorem loopS_in (I : Nat → Shared → Prop)
    (turn : ∀ n s, I n s → wpAny (model P w) A (pyNext it) (fun r s₁ => match r with
      | none => R (.ok .next) s₁
      | some v => wpAny (model P w) A (letOwnedTupleGo t1 it v) (fun _ s₂ => wpAny (model P w) A (assign t1 env v) (fun _ s₃ => wpAny (model P w) A (tests f1 env) (fun ok s₄ =>
            if ok = true then wpAny (model P w) A (eval elt env) (fun x s₅ =>
              wpAny (model P w) A (call (.builtin "set.add") [acc, x]) (fun _ s₆ => ∃ m, m < n ∧ I m s₆) (noteX P w A env R) s₅) (noteX P w A env R) s₄
            else ∃ m, m < n ∧ I m s₄) (noteX P w A env R) s₃) (noteX P w A env R) s₂) (noteX P w A env R) s₁) (noteX P w A env R) s)
    (n : Nat) (h : I n s) : codeAny (model P w) A (.compLoop (.SetComp elt (two t0 i0 t1 i1 f0 f1) scope pos) 1 it acc env) R s := by
  refine codeAny_loop rfl I (fun n s hI => ?_) n h
  show wpAny _ A ((compTurn (.SetComp elt (two t0 i0 t1 i1 f0 f1) scope pos) 1 it acc env).onRaise (fun x => do noteFrame x env; theTreesLotGoes x)) _ _ s
  refine wpAny_noted ?_
  rw [turnS_in]
  refine wpAny_bind (wpAny_standAt (wpAny_bind (wpAny_mono (turn n s hI) (fun r s₁ q₁ => ?_) fun _ _ e => e)))
  cases r with
  | none => exact wpAny_pure q₁
  | some v =>
    refine wpAny_bind (wpAny_mono q₁ (fun _ s₂ q₂ => wpAny_bind (wpAny_mono q₂ (fun _ s₃ q₃ => wpAny_bind (wpAny_mono q₃ (fun ok s₄ q₄ => ?_) fun _ _ e => e)) fun _ _ e => e)) fun _ _ e => e)
    cases ok with
    | false => exact wpAny_pure ⟨rfl, q₄⟩
    | true => exact wpAny_bind (wpAny_bind (wpAny_mono q₄ (fun x s₅ q₅ => wpAny_bind (wpAny_standAt (wpAny_bind (wpAny_mono q₅ (fun _ s₆ q₆ => wpAny_pure (wpAny_pure ⟨rfl, q₆⟩)) fun _ _ e => e)))) fun _ _ e => e))
theorem startS_in (h0 : codeAny (model P w) A (.compLoop (.SetComp elt (two t0 i0 t1 i1 f0 f1) scope pos) 1 it acc env) R s)
    (h : wpAny (model P w) A (pyIter it) (fun it' s' => codeAny (model P w) A (.compLoop (.SetComp elt (two t0 i0 t1 i1 f0 f1) scope pos) 1 it' acc env) R s') (noteX P w A env R) s) :
    codeAny (model P w) A (.compStart (.SetComp elt (two t0 i0 t1 i1 f0 f1) scope pos) 1 it acc env) R s := by
  refine codeAny_of_tree ?_
  show wpAny _ _ ((compStart (.SetComp elt (two t0 i0 t1 i1 f0 f1) scope pos) 1 it acc env).onRaise (fun x => do noteFrame x env; standAt theWindowsPlace)) _ _ s
  refine wpAny_notedAt ?_
  unfold compStart
  show wpAny _ _ (ask >>= _) _ _ s
  refine wpAny_bind (wpAny_askSetting (wpAny_ite ?_))
  split
  · first
      | exact wpAny_bind (wpAny_pure (wpAny_pure (And.intro rfl h0)))
      | exact wpAny_pure (And.intro rfl h0)
  · refine wpAny_bind (wpAny_rule ?_)
    show wpAny _ _ (standAt i1.pos >>= _) _ _ s
    exact wpAny_bind (wpAny_standAt (wpAny_bind (wpAny_mono h (fun it' s' h' => wpAny_pure (And.intro rfl h')) fun _ _ x => x)))
end
end K11
/-! KS7 -/
namespace K11
open PySem PySem.Spec PyProof.Rows L2
/-! ### {elt for tg in iter if .. for tg1 in iter1 if ..}, elt a text -/
abbrev eS (w : World) (D : Addr) : HO := SetSO w D (fun _ => false) 0
section
variable {X : Cx}
def tSc2 (w : World) (wi : TI) (g : TG) (tt : TT) (wi1 : TI) (g1 : TG) (tt1 : TT) (te : TE) (vs vs1 : List Nat) : TE := fun σ H Q => wi σ H fun J H1 => ∀ D, H1 D = none → ∃ W : Nat → Nat → Hp → Prop, (∃ m, W 0 m (upd H1 D (eS w D))) ∧ ∀ i m H, W i m H →
  (J.stop i H ∧ Q (.ref D) H) ∨ (J.go i H ∧ ∃ Nx : Hp → Prop, (∀ H', Nx H' → ∃ m', m' < m ∧ W (i + 1) m' H') ∧ ∀ x H', J.yld i H x H' → g x (wipe σ vs) H' fun σ2 H2 => wipe σ2 vs = wipe σ vs ∧ tt σ2 H2 fun b H3 =>
    if b = true then wi1 σ2 H3 fun J1 H4 => ∃ W1 : Nat → Nat → Hp → Prop, (∃ m, W1 0 m H4) ∧ ∀ j k H, W1 j k H →
      (J1.stop j H ∧ Nx H) ∨ (J1.go j H ∧ ∃ Nx1 : Hp → Prop, (∀ H', Nx1 H' → ∃ k', k' < k ∧ W1 (j + 1) k' H') ∧ ∀ x H', J1.yld j H x H' → g1 x (wipe σ2 vs1) H' fun σ3 H5 => wipe σ3 vs1 = wipe σ2 vs1 ∧ tt1 σ3 H5 fun b H6 =>
        if b = true then te σ3 H6 fun y H7 => ∃ (z : Str) (S : Str → Bool) (n : Nat), y = .str z ∧ H7 D = some (SetSO w D S n) ∧ n + 1 < scanBound ∧ Nx1 (upd H7 D (SetSO w D (fun j => S j || decide (j = z)) (if S z = true then n else n + 1))) else Nx1 H6)
    else Nx H3)
/-- the block's families -/
abbrev Blk (X : Cx) (scope : Scope) (F : Cx → Prop) : Prop := ∀ (s : Shared) (H : Hp) (C : Addr) (cl : List (Str × Addr)) (fp : List Addr), F (X.blk s H scope (compEnvC scope cl C X.env) fp)
theorem sc2_core {pins : List (Addr × Obj)} {s : Shared} {σ : L2.St} {H : Hp} {Q : VK} {elt tg iter tg1 iter1 : Expr} {ifs ifs1 : List Expr} {scope : Scope} {own : List (Str × Nat)} {vs1 : List Nat} {pos pos' : Pos} {wi wi1 : TI} {g g1 : TG} {tt tt1 : TT} {te : TE} {use : Option (Value → Sem Unit)} {Qf : Value → Shared → Prop}
    (hc : X.calm = true) (hN : X.N.Nodup) (I : Inv X pins σ H s) (hi : PI X tg iter wi) (ok : BlkOk X.N X.env.scope scope own) (hv : ∀ i ∈ vs1, i ∈ own.map (·.2))
    (hg : Blk X scope fun Y => PG Y tg g) (ht : Blk X scope fun Y => PTs Y ifs tt) (he : Blk X scope fun Y => PE Y elt te) (hs : ∀ x, foldedSetIterable iter X.env x = pure x)
    (hi1 : Blk X scope fun Y => PI Y tg1 iter1 wi1) (hg1 : Blk X scope fun Y => PG Y tg1 g1) (ht1 : Blk X scope fun Y => PTs Y ifs1 tt1) (hs1 : ∀ env x, foldedSetIterable iter1 env x = pure x)
    (h : tSc2 X.w wi g tt wi1 g1 tt1 te (own.map (·.2)) vs1 σ H Q)
    (hRR : ∀ D C s' m H', Inv X pins σ H' s' → Q (.ref D) H' → s'.heap.Ns C m → FpOk X pins H' C → compPost (model X.prog X.w) X.A X.xe use Qf (.ref D) C (.ok .next) s') :
    wpAny (model X.prog X.w) X.A (comprehension (.SetComp elt (two tg iter tg1 iter1 ifs ifs1) scope pos) scope X.env pos' (newSet (.type "set")) false (eval iter X.env) use) Qf X.xe s := by
  have hfree : ∀ y ∈ scope.names, y.2 = .free → ∃ c, X.env.cells.lookup y.1 = some c := fun y hy e => (ok.free y hy e).elim (fun k => I.ok.has _ (.inl k)) (fun k => I.ok.has _ (.inr k))
  refine wpAny_comprehension_free (use := use) rfl hs (closure_ok hfree) ok.kind (fun y hy e => by rw [ok.uniq y hy, e]) (thn (hi.run pins s σ H _ I h) fun xv s1 hx => thn hx fun itv s2 h2 => ?_)
  obtain ⟨it, fp, tn, J, H2, e, I2, T, st2, f2, q⟩ := h2
  subst e
  refine PpSet.newSet_ok (newEnv_comp ?_)
  generalize hD : s2.heap.objs.size = D
  have hDn : H2 D = none := I2.hok.fresh (Nat.le_of_eq hD)
  obtain ⟨W, ⟨m0, w0⟩, turn⟩ := q D hDn
  generalize hs3 : ({ s2 with heap := s2.heap.push (newSetO X.w) } : Shared) = s3
  have h3 : s3.heap = s2.heap.push (newSetO X.w) := by rw [← hs3]
  have I3 : Inv X pins σ (upd H2 D (eS X.w D)) s3 := by
    rw [← hs3]
    refine I2.laid (t' := s2.toks) (fun b o e => Heap.get?_push_of_some _ e) (Nat.le_of_eq hD) ?_
    rw [← hD]
    exact setSO_new (setS_fresh (Heap.get?_push_size _ rfl))
  have f3 : ∀ b ∈ fp, FpOk X pins (upd H2 D (eS X.w D)) b ∧ b < s3.heap.objs.size := fun b hb => by
    have hlt : b < s2.heap.objs.size := by
      obtain ⟨o, e, _⟩ := T.obj _ _ st2 b hb
      exact Heap.lt_size e
    refine ⟨⟨?_, (f2 b hb).2⟩, by rw [h3, Heap.size_push]; exact Nat.lt_succ_of_lt hlt⟩
    rw [upd_ne (by rw [← hD]; exact Nat.ne_of_lt hlt)]
    exact (f2 b hb).1
  have st3 : tn 0 s3.heap := T.keep _ _ _ st2 fun b _ o e => by rw [h3]; exact Heap.get?_push_of_some _ e
  have I4 := block_start I3 ok hN f3
  generalize hcl : cellsFrom (s3.heap.objs.size + 1) scope.names (cloFrom X.env.cells scope.names []) = cl at I4 ⊢
  generalize hH3 : upd H2 D (eS X.w D) = H3 at I3 I4 w0 f3
  have pg := hg s3 H3 s3.heap.objs.size cl fp
  have pt := ht s3 H3 s3.heap.objs.size cl fp
  have pe := he s3 H3 s3.heap.objs.size cl fp
  have pi1 := hi1 s3 H3 s3.heap.objs.size cl fp
  have pg1 := hg1 s3 H3 s3.heap.objs.size cl fp
  have pt1 := ht1 s3 H3 s3.heap.objs.size cl fp
  show codeAny _ _ (.compStart (.SetComp elt (two tg iter tg1 iter1 ifs ifs1) scope pos) 0 (.ref it) (.ref D) (compEnvC scope cl s3.heap.objs.size X.env)) (compPost (model X.prog X.w) X.A X.xe use Qf (.ref D) s3.heap.objs.size) { s3 with heap := pushCells (s3.heap.push { cls := .type "dict", data := .dict #[] }) scope.names }
  have nfp : ∀ b ∈ fp, H3 b = none := fun b hb => (f3 b hb).1.1
  generalize hce : compEnvC scope cl s3.heap.objs.size X.env = ce at I4 pg pt pe pi1 pg1 pt1 ⊢
  have cL : ce.locals = s3.heap.objs.size := by subst hce; rfl
  generalize hs4 : ({ s3 with heap := pushCells (s3.heap.push { cls := .type "dict", data := .dict #[] }) scope.names } : Shared) = s4 at I4 ⊢
  have st4 : tn 0 s4.heap := T.keep _ _ _ st3 fun b _ o e => by rw [← hs4]; exact pushCells_keeps _ _ _ _ (Heap.get?_push_of_some _ e)
  have stat : ∀ {σ' : L2.St} {H' : Hp} {s' : Shared}, Inv (X.blk s3 H3 scope ce fp) [] σ' H' s' → (∀ b ∈ fp, H' b = none) → ∀ b ∈ fp, FpOk (X.blk s3 H3 scope ce fp) [] H' b := fun {σ' H' s'} I' hn b hb =>
    ⟨hn b hb, (I'.ok.exf b hb).1, I'.ok.exfs b hb, .inl hb, fun x c e => (I'.ok.exf b hb).2 x c e, fun p hp => absurd (show p ∈ ([] : List (Addr × Obj)) ++ [] from hp) (by simp)⟩
  -- the first clause's loop holds this
  let Lp : Nat → Shared → Prop := fun n s' => ∃ i H', Inv (X.blk s3 H3 scope ce fp) [] (wipe σ (own.map (·.2))) H' s' ∧ tn i s'.heap ∧ (∀ b ∈ fp, H' b = none) ∧ W i n H'
  have loop : codeAny (model X.prog X.w) X.A (.compLoop (.SetComp elt (two tg iter tg1 iter1 ifs ifs1) scope pos) 0 (.ref it) (.ref D) ce) (compPost (model X.prog X.w) X.A X.xe use Qf (.ref D) s3.heap.objs.size) s4 := by
    refine loopS_out (hs1 ce) Lp ?_ m0 ⟨0, H3, I4, st4, nfp, w0⟩
    rintro n s5 ⟨i, H5, I5, st5, n5, w5⟩
    rcases turn i n H5 w5 with ⟨stop, qq⟩ | ⟨go, Nx, hNx, step⟩
    · refine thnF (T.done (X.blk s3 H3 scope ce fp) rfl rfl rfl hc i [] s5 _ H5 (fun _ _ => False) I5 (stat I5 n5) st5 stop) fun r s6 ⟨hr, I6⟩ => ?_
      subst hr
      have I7 : Inv X pins σ H5 s6 := I3.call' (ch := fp) I6.os I6.base I6.hok I6.bare fun b hb => ⟨(f3 b hb).1.2.2.2.1, (f3 b hb).1.2.1, (f3 b hb).1.2.2.2.2.1, (f3 b hb).1.2.2.2.2.2⟩
      have nC : H5 ce.locals = none := I6.free
      obtain ⟨m, hn, _⟩ := I6.loc
      have hn : s6.heap.Ns ce.locals m := hn
      rw [cL] at hn nC
      exact hRR D s3.heap.objs.size s6 m H5 I7 qq hn (I3.fpOk (Nat.le_refl _) nC)
    · refine thnF (T.item (X.blk s3 H3 scope ce fp) rfl rfl rfl hc i [] s5 _ H5 (fun _ _ => False) I5 (stat I5 n5) st5 go) fun r s6 ⟨u, hr, h6⟩ => ?_
      subst hr
      refine thnF h6 fun _ s7 ⟨x, H7, I7, r7, y7, st7, n7⟩ => ?_
      refine thnF (pg.run _ s7 _ H7 x u _ (I7.pinned (stat I7 n7) (T.obj _ _ st7)) r7 (step x H7 y7)) fun _ s8 ⟨σ8, H8, I8, hw8, q8⟩ => ?_
      refine thnF (pt.run _ s8 σ8 H8 _ I8 q8) fun b s9 ⟨H9, I9, q9⟩ => ?_
      have fin : ∀ {σ9 : L2.St} {s' : Shared} {H' : Hp}, Inv (X.blk s3 H3 scope ce fp) ([] ++ pinsAt fp s7.heap) σ9 H' s' → (wipe σ (own.map (·.2))).length = σ9.length → (∀ (j : Nat) v, (wipe σ (own.map (·.2)))[j]? = some (some v) → σ9[j]? = some (some v)) → Nx H' →
          ∃ m, m < n ∧ Lp m s' := fun {σ9 s' H'} I' hl hk nx => by
        obtain ⟨m', hm, w'⟩ := hNx H' nx
        have pin' : ∀ b ∈ fp, ∀ o, s7.heap.get? b = some o → s'.heap.get? b = some o ∧ H' b = none := fun b hb o e =>
          let z := I'.pin (b, o) (List.mem_append_right _ (List.mem_append_right _ (mem_pinsAt hb e)))
          ⟨z.1, z.2.1⟩
        refine ⟨m', hm, i + 1, H', (I'.unpinned (pins := [])).weak hl hk, T.keep _ _ _ st7 fun b hb o e => (pin' b hb o e).1, fun b hb => ?_, w'⟩
        obtain ⟨o, e, _⟩ := T.obj _ _ st7 b hb
        exact (pin' b hb o e).2
      have hl8 : (wipe σ (own.map (·.2))).length = σ8.length := by rw [← hw8, wipe_length]
      have hk8 : ∀ (j : Nat) v, (wipe σ (own.map (·.2)))[j]? = some (some v) → σ8[j]? = some (some v) := fun j v e => by
        rw [← hw8] at e
        exact (wipe_some e).1
      have hk9 : ∀ (j : Nat) v, (wipe σ (own.map (·.2)))[j]? = some (some v) → (wipe σ8 vs1)[j]? = some (some v) := fun j v e => by
        rw [← hw8] at e
        obtain ⟨e1, e2⟩ := wipe_some e
        rw [wipe_out fun z => e2 (hv j z)]
        exact e1
      cases b with
      | false =>
        simp only [Bool.false_eq_true, if_false] at q9 ⊢
        exact fin I9 hl8 hk8 q9
      | true =>
        simp only [if_true] at q9 ⊢
        refine thnF (pi1.run _ s9 σ8 H9 _ I9 q9) fun xv s10 hx => thnF hx fun itv s11 h11 => ?_
        obtain ⟨it1, fp1, tn1, J1, H11, e1, I11, T1, st11, f11, W1, ⟨m1, w1⟩, turn1⟩ := h11
        subst e1
        have stat1 : ∀ {H' : Hp}, (∀ b ∈ fp1, H' b = none) → ∀ b ∈ fp1, FpOk (X.blk s3 H3 scope ce fp) ([] ++ pinsAt fp s7.heap) H' b := fun hn b hb => ⟨hn b hb, (f11 b hb).2⟩
        let Lq : Nat → Shared → Prop := fun k s' => ∃ j H', Inv (X.blk s3 H3 scope ce fp) ([] ++ pinsAt fp s7.heap) (wipe σ8 vs1) H' s' ∧ tn1 j s'.heap ∧ (∀ b ∈ fp1, H' b = none) ∧ W1 j k H'
        have loop1 : codeAny (model X.prog X.w) X.A (.compLoop (.SetComp elt (two tg iter tg1 iter1 ifs ifs1) scope pos) 1 (.ref it1) (.ref D) ce)
            (fun r s' => match r with
              | .ok _ => ∃ m, m < n ∧ Lp m s'
              | .error _ => False) s11 := by
          refine loopS_in Lq ?_ m1 ⟨0, H11, I11.weak (wipe_length _ _) (fun j v e => (wipe_some e).1), st11, fun b hb => (f11 b hb).1, w1⟩
          rintro k s12 ⟨j, H12, I12, st12, n12, w12⟩
          rcases turn1 j k H12 w12 with ⟨stop1, nx1⟩ | ⟨go1, Nx1, hNx1, step1⟩
          · refine thnF (T1.done (X.blk s3 H3 scope ce fp) rfl rfl rfl hc j _ s12 (wipe σ8 vs1) H12 (fun _ _ => False) I12 (stat1 n12) st12 stop1) fun r s13 ⟨hr, I13⟩ => ?_
            subst hr
            exact fin I13 (hl8.trans (wipe_length σ8 vs1).symm) hk9 nx1
          · refine thnF (T1.item (X.blk s3 H3 scope ce fp) rfl rfl rfl hc j _ s12 (wipe σ8 vs1) H12 (fun _ _ => False) I12 (stat1 n12) st12 go1) fun r s13 ⟨u1, hr, h13⟩ => ?_
            subst hr
            refine thnF h13 fun _ s14 ⟨x1, H14, I14, r14, y14, st14, n14⟩ => ?_
            refine thnF (pg1.run _ s14 (wipe σ8 vs1) H14 x1 u1 _ (I14.pinned (stat1 n14) (T1.obj _ _ st14)) r14 (step1 x1 H14 y14)) fun _ s15 ⟨σ15, H15, I15, hw15, q15⟩ => ?_
            refine thnF (pt1.run _ s15 σ15 H15 _ I15 q15) fun b1 s16 ⟨H16, I16, q16⟩ => ?_
            have fin1 : ∀ {s' : Shared} {H' : Hp}, Inv (X.blk s3 H3 scope ce fp) (([] ++ pinsAt fp s7.heap) ++ pinsAt fp1 s14.heap) σ15 H' s' → Nx1 H' → ∃ m, m < k ∧ Lq m s' := fun {s' H'} I' nx => by
              obtain ⟨m', hm, w'⟩ := hNx1 H' nx
              have pin' : ∀ b ∈ fp1, ∀ o, s14.heap.get? b = some o → s'.heap.get? b = some o ∧ H' b = none := fun b hb o e =>
                let z := I'.pin (b, o) (List.mem_append_right _ (List.mem_append_right _ (mem_pinsAt hb e)))
                ⟨z.1, z.2.1⟩
              refine ⟨m', hm, j + 1, H', I'.unpinned.weak (by rw [← hw15, wipe_length]) (fun j v e => by rw [← hw15] at e; exact (wipe_some e).1), T1.keep _ _ _ st14 fun b hb o e => (pin' b hb o e).1, fun b hb => ?_, w'⟩
              obtain ⟨o, e, _⟩ := T1.obj _ _ st14 b hb
              exact (pin' b hb o e).2
            cases b1 with
            | false =>
              simp only [Bool.false_eq_true, if_false] at q16 ⊢
              exact fin1 I16 q16
            | true =>
              simp only [if_true] at q16 ⊢
              refine thnF (pe.run _ s16 σ15 H16 _ I16 q16) fun z s17 ⟨yv, H17, I17, r17, zs, S0, n0, ey, hD17, hz17, nx⟩ => ?_
              subst ey
              obtain ⟨tk, rfl⟩ : ∃ tk, z = Value.str zs tk := r17
              exact addS_ok (X := X.blk s3 H3 scope ce fp) I17 hD17 hz17 fun s18 I18 => fin1 I18 nx
        exact startS_in loop1 (T1.self X.A 0 _ _ _ st11 loop1)
  exact PpSet.codeAny_compStart_set loop (T.self X.A 0 _ _ _ st4 loop)
theorem pe_sc2 {elt tg iter tg1 iter1 : Expr} {ifs ifs1 : List Expr} {scope : Scope} {own : List (Str × Nat)} {vs1 : List Nat} {pos : Pos} {wi wi1 : TI} {g g1 : TG} {tt tt1 : TT} {te : TE} (hc : X.calm = true) (hN : X.N.Nodup) (hi : PI X tg iter wi) (ok : BlkOk X.N X.env.scope scope own) (hv : ∀ i ∈ vs1, i ∈ own.map (·.2))
    (hg : Blk X scope fun Y => PG Y tg g) (ht : Blk X scope fun Y => PTs Y ifs tt) (he : Blk X scope fun Y => PE Y elt te)
    (hi1 : Blk X scope fun Y => PI Y tg1 iter1 wi1) (hg1 : Blk X scope fun Y => PG Y tg1 g1) (ht1 : Blk X scope fun Y => PTs Y ifs1 tt1) (hs : ∀ x, foldedSetIterable iter X.env x = pure x := by intro _; rfl) (hs1 : ∀ env x, foldedSetIterable iter1 env x = pure x := by intro _ _; rfl) :
    PE X (.SetComp elt (two tg iter tg1 iter1 ifs ifs1) scope pos) (tSc2 X.w wi g tt wi1 g1 tt1 te (own.map (·.2)) vs1) := by
  refine ⟨fun pins s σ H Q I h => ?_⟩
  rw [PpSet.eval_SetComp]
  refine sc2_core hc hN I hi ok hv hg ht he hs hi1 hg1 ht1 hs1 h fun D C s' m H' I' q hn f => ⟨m, hn, fun h'' sb => ?_⟩
  obtain ⟨f0, f1, f2, f3, f4, f5⟩ := f
  exact ⟨.ref D, H', I'.turned (t' := s'.toks) (fun b o hb e => (sb.2 b hb).trans e) f0 f1 f3 f4 f5, rfl, q⟩
end
end K11
/-! KD1 -/
namespace K11
open PySem PySem.Spec PyProof.Rows L2
/-! ### what a piece of syntax is known to do: the weakest that any rule gives -/
section
variable (X : Cx)
def E (e : Expr) : TE := fun σ H Q => ∃ t, PE X e t ∧ t σ H Q
def ET (e : Expr) : TT := fun σ H Q => ∃ t, PT X e t ∧ t σ H Q
def EA (es : List Expr) : TA := fun σ H Q => ∃ t, PA X es t ∧ t σ H Q
def EG (tg : Expr) : TG := fun v σ H Q => ∃ t, PG X tg t ∧ t v σ H Q
def EGs (tgs : List Expr) : TGs := fun vs σ H Q => ∃ t, PGs X tgs t ∧ t vs σ H Q
def ES (st : Stmt) : TS := fun D σ H => ∃ t, PS X st t ∧ t D σ H
def ESs (ss : List Stmt) : TS := fun D σ H => ∃ t, PSs X ss t ∧ t D σ H
def EI (tg it : Expr) : TI := fun σ H R => ∃ t, PI X tg it t ∧ t σ H R
variable {X}
theorem E_pe {e : Expr} : PE X e (E X e) := ⟨fun pins s σ H Q I ⟨t, h, q⟩ => h.run pins s σ H Q I q⟩
theorem E_pt {e : Expr} : PT X e (ET X e) := ⟨fun pins s σ H Q I ⟨t, h, q⟩ => h.run pins s σ H Q I q⟩
theorem E_pa {es : List Expr} : PA X es (EA X es) := ⟨fun pos pins s σ H Q I ⟨t, h, q⟩ => h.run pos pins s σ H Q I q⟩
theorem E_pg {tg : Expr} : PG X tg (EG X tg) := ⟨fun pins s σ H v u Q I r ⟨t, h, q⟩ => h.run pins s σ H v u Q I r q⟩
theorem E_pgs {tgs : List Expr} : PGs X tgs (EGs X tgs) := ⟨fun pins s σ H v u Q I r ⟨t, h, q⟩ => h.run pins s σ H v u Q I r q⟩
theorem E_ps {st : Stmt} : PS X st (ES X st) := ⟨fun pins s σ H D I ⟨t, h, q⟩ => h.run pins s σ H D I q⟩
theorem E_pss {ss : List Stmt} : PSs X ss (ESs X ss) := ⟨fun pins s σ H D I ⟨t, h, q⟩ => h.run pins s σ H D I q⟩
theorem E_pi {tg it : Expr} : PI X tg it (EI X tg it) := ⟨fun pins s σ H R I ⟨t, h, q⟩ => h.run pins s σ H R I q⟩
end
/-! ### data -/
inductive W where
  | non | bl (b : Bool) | int (i : Int) | str (z : Str) | lst (xs : List W) | tup (xs : List W) | tpx (xs : List W) | ins (C : Addr) (fs : List (Str × W)) | dic (fs : List (Str × W))
mutual
def D (H : Hp) (ex : List Addr) : W → V → Prop
  | .non, v => v = .non
  | .bl b, v => v = .bl b
  | .int i, v => v = .int i
  | .str z, v => v = .str z
  | .lst ws, v => ∃ a xs, v = .ref a ∧ a ∉ ex ∧ H a = some (.lst xs) ∧ DA H ex ws xs
  | .tup ws, v => ∃ a xs, v = .ref a ∧ a ∉ ex ∧ H a = some (.tup xs) ∧ DA H ex ws xs
  | .tpx ws, v => ∃ a xs ob, v = .ref a ∧ a ∉ ex ∧ H a = some (.frz ob (.tup xs)) ∧ ob.dict = none ∧ DA H ex ws xs
  | .ins C fs, v => ∃ a dx xs, v = .ref a ∧ a ∉ ex ∧ H a = some (.ins C dx xs) ∧ DF H ex fs xs
  | .dic fs, v => ∃ a xs, v = .ref a ∧ a ∉ ex ∧ H a = some (.dK (xs.map fun p => (Sum.inr p.1, p.2))) ∧ DF H ex fs xs
def DA (H : Hp) (ex : List Addr) : List W → List V → Prop
  | [], xs => xs = []
  | w :: ws, xs => ∃ v r, xs = v :: r ∧ D H ex w v ∧ DA H ex ws r
def DF (H : Hp) (ex : List Addr) : List (Str × W) → List (Str × V) → Prop
  | [], xs => xs = []
  | (k, w) :: ws, xs => ∃ v r, xs = (k, v) :: r ∧ D H ex w v ∧ DF H ex ws r
end
/-- what stands outside ex stands on, outside ex' -/
def Kp (ex : List Addr) (H : Hp) (ex' : List Addr) (H' : Hp) : Prop := ∀ a o, a ∉ ex → H a = some o → (∀ ps, o ≠ .tbl ps) → a ∉ ex' ∧ H' a = some o
section
variable {H H' H2 : Hp} {ex ex' ex2 : List Addr}
theorem Kp.refl : Kp ex H ex H := fun _ _ n h _ => ⟨n, h⟩
theorem Kp.trans (a : Kp ex H ex' H') (b : Kp ex' H' ex2 H2) : Kp ex H ex2 H2 := fun x o n h t => let ⟨m, g⟩ := a x o n h t; b x o m g t
mutual
theorem D.to (k : Kp ex H ex' H') : ∀ (w : W) (v : V), D H ex w v → D H' ex' w v
  | .non, _, h => by unfold D at h ⊢; exact h
  | .bl b, _, h => by unfold D at h ⊢; exact h
  | .int i, _, h => by unfold D at h ⊢; exact h
  | .str z, _, h => by unfold D at h ⊢; exact h
  | .lst ws, _, h => by
    unfold D at h ⊢
    obtain ⟨a, xs, e, n, g, d⟩ := h
    obtain ⟨m, g'⟩ := k a _ n g (by intro _ z; cases z)
    exact ⟨a, xs, e, m, g', DA.to k ws xs d⟩
  | .tup ws, _, h => by
    unfold D at h ⊢
    obtain ⟨a, xs, e, n, g, d⟩ := h
    obtain ⟨m, g'⟩ := k a _ n g (by intro _ z; cases z)
    exact ⟨a, xs, e, m, g', DA.to k ws xs d⟩
  | .tpx ws, _, h => by
    unfold D at h ⊢
    obtain ⟨a, xs, ob, e, n, g, b, d⟩ := h
    obtain ⟨m, g'⟩ := k a _ n g (by intro _ z; cases z)
    exact ⟨a, xs, ob, e, m, g', b, DA.to k ws xs d⟩
  | .ins C fs, _, h => by
    unfold D at h ⊢
    obtain ⟨a, dx, xs, e, n, g, d⟩ := h
    obtain ⟨m, g'⟩ := k a _ n g (by intro _ z; cases z)
    exact ⟨a, dx, xs, e, m, g', DF.to k fs xs d⟩
  | .dic fs, _, h => by
    unfold D at h ⊢
    obtain ⟨a, xs, e, n, g, d⟩ := h
    obtain ⟨m, g'⟩ := k a _ n g (by intro _ z; cases z)
    exact ⟨a, xs, e, m, g', DF.to k fs xs d⟩
theorem DA.to (k : Kp ex H ex' H') : ∀ (ws : List W) (xs : List V), DA H ex ws xs → DA H' ex' ws xs
  | [], _, h => by unfold DA at h ⊢; exact h
  | w :: ws, _, h => by
    unfold DA at h ⊢
    obtain ⟨v, r, e, d, q⟩ := h
    exact ⟨v, r, e, D.to k w v d, DA.to k ws r q⟩
theorem DF.to (k : Kp ex H ex' H') : ∀ (ws : List (Str × W)) (xs : List (Str × V)), DF H ex ws xs → DF H' ex' ws xs
  | [], _, h => by unfold DF at h ⊢; exact h
  | (f, w) :: ws, _, h => by
    unfold DF at h ⊢
    obtain ⟨v, r, e, d, q⟩ := h
    exact ⟨v, r, e, D.to k w v d, DF.to k ws r q⟩
end
/-! forms -/
theorem D.non_iff {v : V} : D H ex .non v ↔ v = .non := by unfold D; exact Iff.rfl
theorem D.bl_iff {b : Bool} {v : V} : D H ex (.bl b) v ↔ v = .bl b := by unfold D; exact Iff.rfl
theorem D.int_iff {b : Int} {v : V} : D H ex (.int b) v ↔ v = .int b := by unfold D; exact Iff.rfl
theorem D.str_iff {b : Str} {v : V} : D H ex (.str b) v ↔ v = .str b := by unfold D; exact Iff.rfl
theorem D.lst_iff {ws : List W} {v : V} : D H ex (.lst ws) v ↔ ∃ a xs, v = .ref a ∧ a ∉ ex ∧ H a = some (.lst xs) ∧ DA H ex ws xs := by rw [D]
theorem D.tup_iff {ws : List W} {v : V} : D H ex (.tup ws) v ↔ ∃ a xs, v = .ref a ∧ a ∉ ex ∧ H a = some (.tup xs) ∧ DA H ex ws xs := by rw [D]
theorem D.tpx_iff {ws : List W} {v : V} : D H ex (.tpx ws) v ↔ ∃ a xs ob, v = .ref a ∧ a ∉ ex ∧ H a = some (.frz ob (.tup xs)) ∧ ob.dict = none ∧ DA H ex ws xs := by rw [D]
theorem D.ins_iff {C : Addr} {fs : List (Str × W)} {v : V} : D H ex (.ins C fs) v ↔ ∃ a dx xs, v = .ref a ∧ a ∉ ex ∧ H a = some (.ins C dx xs) ∧ DF H ex fs xs := by rw [D]
theorem D.dic_iff {fs : List (Str × W)} {v : V} : D H ex (.dic fs) v ↔ ∃ a xs, v = .ref a ∧ a ∉ ex ∧ H a = some (.dK (xs.map fun p => (Sum.inr p.1, p.2))) ∧ DF H ex fs xs := by rw [D]
theorem D.non : D H ex .non .non := D.non_iff.mpr rfl
theorem D.bl (b : Bool) : D H ex (.bl b) (.bl b) := D.bl_iff.mpr rfl
theorem D.int (b : Int) : D H ex (.int b) (.int b) := D.int_iff.mpr rfl
theorem D.str (b : Str) : D H ex (.str b) (.str b) := D.str_iff.mpr rfl
theorem DA.nil_iff {xs : List V} : DA H ex [] xs ↔ xs = [] := by rw [DA]
theorem DA.cons_iff {w : W} {ws : List W} {xs : List V} : DA H ex (w :: ws) xs ↔ ∃ v r, xs = v :: r ∧ D H ex w v ∧ DA H ex ws r := by rw [DA]
theorem DA.nil : DA H ex [] [] := DA.nil_iff.mpr rfl
theorem DA.cons {w : W} {ws : List W} {v : V} {xs : List V} (a : D H ex w v) (b : DA H ex ws xs) : DA H ex (w :: ws) (v :: xs) := DA.cons_iff.mpr ⟨v, xs, rfl, a, b⟩
theorem DF.nil_iff {xs : List (Str × V)} : DF H ex [] xs ↔ xs = [] := by rw [DF]
theorem DF.cons_iff {k : Str} {w : W} {ws : List (Str × W)} {xs : List (Str × V)} : DF H ex ((k, w) :: ws) xs ↔ ∃ v r, xs = (k, v) :: r ∧ D H ex w v ∧ DF H ex ws r := by rw [DF]
theorem DF.nil : DF H ex [] [] := DF.nil_iff.mpr rfl
theorem DF.cons {k : Str} {w : W} {ws : List (Str × W)} {v : V} {xs : List (Str × V)} (a : D H ex w v) (b : DF H ex ws xs) : DF H ex ((k, w) :: ws) ((k, v) :: xs) := DF.cons_iff.mpr ⟨v, xs, rfl, a, b⟩
theorem DA.len : ∀ {ws : List W} {xs : List V}, DA H ex ws xs → xs.length = ws.length
  | [], _, h => by rw [DA.nil_iff.mp h]; rfl
  | w :: ws, _, h => by
    obtain ⟨v, r, rfl, _, q⟩ := DA.cons_iff.mp h
    rw [List.length_cons, List.length_cons, DA.len q]
theorem DA.get : ∀ {ws : List W} {xs : List V} {i : Nat} {w : W}, DA H ex ws xs → ws[i]? = some w → ∃ v, xs[i]? = some v ∧ D H ex w v
  | [], _, i, w, _, g => by simp at g
  | w :: ws, _, i, _, h, g => by
    obtain ⟨v, r, rfl, d, q⟩ := DA.cons_iff.mp h
    cases i with
    | zero =>
      cases (show some w = some _ from by simpa using g)
      exact ⟨v, rfl, d⟩
    | succ i =>
      obtain ⟨u, a, b⟩ := DA.get q (by simpa using g)
      exact ⟨u, by simpa using a, b⟩
theorem DA.get' {ws : List W} {xs : List V} {i : Nat} {v : V} (h : DA H ex ws xs) (g : xs[i]? = some v) : ∃ w, ws[i]? = some w ∧ D H ex w v := by
  have hi : i < xs.length := by
    by_cases q : i < xs.length
    · exact q
    · rw [List.getElem?_eq_none (by omega)] at g; cases g
  rw [h.len] at hi
  obtain ⟨u, a, b⟩ := h.get (List.getElem?_eq_getElem hi)
  rw [a] at g
  cases g
  exact ⟨_, List.getElem?_eq_getElem hi, b⟩
theorem DA.of : ∀ {ws : List W} {xs : List V}, xs.length = ws.length → (∀ (i : Nat) (w : W) (v : V), ws[i]? = some w → xs[i]? = some v → D H ex w v) → DA H ex ws xs
  | [], [], _, _ => DA.nil
  | [], _ :: _, e, _ => by simp at e
  | _ :: _, [], e, _ => by simp at e
  | w :: ws, v :: xs, e, h => DA.cons (h 0 w v rfl rfl) (DA.of (by simpa using e) fun i w' v' a b => h (i + 1) w' v' (by simpa using a) (by simpa using b))
theorem DA.append : ∀ {ws : List W} {xs : List V} {ws' : List W} {xs' : List V}, DA H ex ws xs → DA H ex ws' xs' → DA H ex (ws ++ ws') (xs ++ xs')
  | [], _, _, _, h, h' => by rw [DA.nil_iff.mp h]; exact h'
  | w :: ws, _, _, _, h, h' => by
    obtain ⟨v, r, rfl, d, q⟩ := DA.cons_iff.mp h
    exact DA.cons d (DA.append q h')
theorem DA.drop : ∀ {ws : List W} {xs : List V} (n : Nat), DA H ex ws xs → DA H ex (ws.drop n) (xs.drop n)
  | _, _, 0, h => by simpa using h
  | [], _, n + 1, h => by rw [DA.nil_iff.mp h]; exact DA.nil
  | w :: ws, _, n + 1, h => by
    obtain ⟨v, r, rfl, d, q⟩ := DA.cons_iff.mp h
    simpa using DA.drop n q
theorem DA.take : ∀ {ws : List W} {xs : List V} (n : Nat), DA H ex ws xs → DA H ex (ws.take n) (xs.take n)
  | _, _, 0, h => by simpa using DA.nil
  | [], _, n + 1, h => by rw [DA.nil_iff.mp h]; exact DA.nil
  | w :: ws, _, n + 1, h => by
    obtain ⟨v, r, rfl, d, q⟩ := DA.cons_iff.mp h
    simpa using DA.cons d (DA.take n q)
theorem DA.strs : ∀ (zs : List Str), DA H ex (zs.map W.str) (zs.map V.str)
  | [] => DA.nil
  | z :: zs => DA.cons (D.str z) (DA.strs zs)
theorem DA.strs_iff : ∀ {zs : List Str} {xs : List V}, DA H ex (zs.map W.str) xs → xs = zs.map V.str
  | [], _, h => DA.nil_iff.mp h
  | z :: zs, _, h => by
    obtain ⟨v, r, rfl, d, q⟩ := DA.cons_iff.mp h
    rw [D.str_iff.mp d, DA.strs_iff q]
    rfl
theorem DA.bls : ∀ (zs : List Bool), DA H ex (zs.map W.bl) (zs.map V.bl)
  | [] => DA.nil
  | z :: zs => DA.cons (D.bl z) (DA.bls zs)
theorem DA.bls_iff : ∀ {zs : List Bool} {xs : List V}, DA H ex (zs.map W.bl) xs → xs = zs.map V.bl
  | [], _, h => DA.nil_iff.mp h
  | z :: zs, _, h => by
    obtain ⟨v, r, rfl, d, q⟩ := DA.cons_iff.mp h
    rw [D.bl_iff.mp d, DA.bls_iff q]
    rfl
theorem DA.ints : ∀ (zs : List Int), DA H ex (zs.map W.int) (zs.map V.int)
  | [] => DA.nil
  | z :: zs => DA.cons (D.int z) (DA.ints zs)
theorem DA.ints_iff : ∀ {zs : List Int} {xs : List V}, DA H ex (zs.map W.int) xs → xs = zs.map V.int
  | [], _, h => DA.nil_iff.mp h
  | z :: zs, _, h => by
    obtain ⟨v, r, rfl, d, q⟩ := DA.cons_iff.mp h
    rw [D.int_iff.mp d, DA.ints_iff q]
    rfl
theorem DF.look : ∀ {fs : List (Str × W)} {xs : List (Str × V)} {f : Str} {w : W}, DF H ex fs xs → fs.lookup f = some w → ∃ v, xs.lookup f = some v ∧ D H ex w v
  | [], _, f, w, _, g => by simp at g
  | (k, w) :: fs, _, f, w', h, g => by
    obtain ⟨v, r, rfl, d, q⟩ := DF.cons_iff.mp h
    rw [List.lookup_cons] at g ⊢
    cases e : (f == k) with
    | true =>
      rw [e] at g
      cases g
      exact ⟨v, rfl, d⟩
    | false =>
      rw [e] at g
      exact DF.look q g
theorem DF.look0 : ∀ {fs : List (Str × W)} {xs : List (Str × V)} {f : Str}, DF H ex fs xs → fs.lookup f = none → xs.lookup f = none
  | [], _, f, h, g => by rw [DF.nil_iff.mp h]; rfl
  | (k, w) :: fs, _, f, h, g => by
    obtain ⟨v, r, rfl, d, q⟩ := DF.cons_iff.mp h
    rw [List.lookup_cons] at g ⊢
    cases e : (f == k) with
    | true =>
      rw [e] at g
      cases g
    | false =>
      rw [e] at g
      exact DF.look0 q g
end
/-! ### the context -/
/-- what is known of a slot: its datum; the address that stands in it; something else that stays while what stands outside stays -/
inductive Th where
  | dat (w : W) | adr (a : Addr) | prp (p : List Addr → Hp → V → Prop) (m : ∀ (ex : List Addr) (H : Hp) (ex' : List Addr) (H' : Hp) (v : V), Kp ex H ex' H' → p ex H v → p ex' H' v)
inductive Mu where
  | lst (ws : List W) | ins (C dx : Addr) (fs : List (Str × W))
structure Cn where
  ρ : List (Option Th)
  μ : List (Addr × Mu) := []
  st : Option (Addr × Addr) := none
  ex : List Addr := []
  T : List (Addr × Str) := []
def Cn.sl (c : Cn) : List Addr := (c.st.map (·.1)).toList
def Cn.ms (c : Cn) : List Addr := c.μ.map (·.1) ++ c.sl
def Cn.xs (c : Cn) : List Addr := c.ms ++ c.ex
def Tk (H : Hp) (ex : List Addr) : Th → V → Prop
  | .dat w, v => D H ex w v
  | .adr a, v => v = .ref a
  | .prp p _, v => p ex H v
def EnvOk (c : Cn) (σ : L2.St) (H : Hp) : Prop := σ.length = c.ρ.length ∧ ∀ (i : Nat) (th : Th), c.ρ[i]? = some (some th) → ∃ v, σ[i]? = some (some v) ∧ Tk H c.xs th v
def MuOk (H : Hp) (ex : List Addr) (a : Addr) : Mu → Prop
  | .lst ws => ∃ xs, H a = some (.lst xs) ∧ DA H ex ws xs
  | .ins C dx fs => ∃ xs, H a = some (.ins C dx xs) ∧ DF H ex fs xs
/-- the law's state: its list, and the list of the script's cells -/
def StOk (H : Hp) (ex : List Addr) (a : Addr × Addr) : Prop := ∃ (ns : List Int) (i : Nat) (r m n : Int), H a.1 = some (.lst [.ref a.2, .int i, .int r, .int m, .int n]) ∧ a.2 ∉ ex ∧ H a.2 = some (.lst (ns.map V.int))
theorem StOk.to {H H' : Hp} {ex ex' : List Addr} {a : Addr × Addr} (s : StOk H ex a) (h1 : ∀ o, H a.1 = some o → (∀ ps, o ≠ .tbl ps) → H' a.1 = some o) (k : Kp ex H ex' H') : StOk H' ex' a := by
  obtain ⟨ns, i, r, m, n, e, x, y⟩ := s
  obtain ⟨z1, z2⟩ := k _ _ x y (fun _ z => by cases z)
  exact ⟨ns, i, r, m, n, h1 _ e (fun _ z => by cases z), z1, z2⟩
/-- something stands there, no table -/
abbrev Al (H : Hp) (a : Addr) : Prop := ∃ o, H a = some o ∧ ∀ ps, o ≠ .tbl ps
structure Mem (c : Cn) (H : Hp) : Prop where
  mu : ∀ p ∈ c.μ, MuOk H c.xs p.1 p.2
  st : ∀ a, c.st = some a → StOk H c.xs a
  nd : c.xs.Nodup
  ex : ∀ a ∈ c.ex, Al H a
  tb : LamX.Tabs c.T H
structure Grw (c c' : Cn) (H H' : Hp) : Prop where
  st : c'.st = c.st
  ex : c'.ex = c.ex
  T : c'.T = c.T
  kp : Kp c.ms H c'.ms H'
section
variable {H H' H2 : Hp} {c c' c2 : Cn} {σ : L2.St}
theorem Kp.xs (k : Kp c.ms H c'.ms H') (e : c'.ex = c.ex) : Kp c.xs H c'.xs H' := fun a o n h t => by
  unfold Cn.xs at n ⊢
  rw [List.mem_append, not_or] at n
  obtain ⟨m, g⟩ := k a o n.1 h t
  exact ⟨by rw [e, List.mem_append, not_or]; exact ⟨m, n.2⟩, g⟩
theorem Grw.refl : Grw c c H H := ⟨rfl, rfl, rfl, Kp.refl⟩
theorem Grw.trans (a : Grw c c' H H') (b : Grw c' c2 H' H2) : Grw c c2 H H2 := ⟨b.st.trans a.st, b.ex.trans a.ex, b.T.trans a.T, a.kp.trans b.kp⟩
theorem Grw.xs (a : Grw c c' H H') : Kp c.xs H c'.xs H' := a.kp.xs a.ex
theorem Grw.of (k : Kp c.ms H c.ms H') : Grw c c H H' := ⟨rfl, rfl, rfl, k⟩
theorem EnvOk.kp (e : EnvOk c σ H) (k : Kp c.ms H c.ms H') : EnvOk c σ H' := ⟨e.1, fun i th g => by
  obtain ⟨v, a, b⟩ := e.2 i th g
  refine ⟨v, a, ?_⟩
  cases th with
  | dat w => exact D.to (k.xs rfl) w v b
  | adr a => exact b
  | prp p m => exact m _ _ _ _ _ (k.xs rfl) b⟩
theorem Mem.al_of (m : Mem c H) {a : Addr} (h : a ∈ c.xs) : Al H a := by
  unfold Cn.xs Cn.ms at h
  rcases List.mem_append.mp h with h | h
  · rcases List.mem_append.mp h with h | h
    · obtain ⟨p, hp, rfl⟩ := List.mem_map.mp h
      have q := m.mu p hp
      obtain ⟨a, x⟩ := p
      cases x with
      | lst ws =>
        obtain ⟨xs, e, _⟩ := q
        exact ⟨_, e, fun _ z => by cases z⟩
      | ins C dx fs =>
        obtain ⟨xs, e, _⟩ := q
        exact ⟨_, e, fun _ z => by cases z⟩
    · unfold Cn.sl at h
      cases hs : c.st with
      | none => rw [hs] at h; simp at h
      | some q =>
        rw [hs] at h
        have h : a = q.1 := by simpa using h
        obtain ⟨_, _, _, _, _, e, _⟩ := m.st q hs
        rw [h]
        exact ⟨_, e, fun _ z => by cases z⟩
  · exact m.ex a h
theorem Mem.some_of (m : Mem c H) {a : Addr} (h : a ∈ c.xs) : ∃ o, H a = some o := let ⟨o, e, _⟩ := m.al_of h; ⟨o, e⟩
theorem Mem.fresh (m : Mem c H) {p : Addr} (h : H p = none) : p ∉ c.xs := fun z => by
  obtain ⟨o, e⟩ := m.some_of z
  rw [h] at e
  cases e
theorem ms_xs {c : Cn} {a : Addr} (h : a ∈ c.ms) : a ∈ c.xs := List.mem_append_left _ h
/-- the heap grows -/
def Gro (H H' : Hp) : Prop := ∀ a o, H a = some o → H' a = some o
theorem Gro.refl : Gro H H := fun _ _ h => h
theorem Gro.trans (a : Gro H H') (b : Gro H' H2) : Gro H H2 := fun x o h => b x o (a x o h)
theorem Gro.kp (g : Gro H H') (ex : List Addr) : Kp ex H ex H' := fun a o n h _ => ⟨n, g a o h⟩
theorem Gro.upd {p : Addr} {o : HO} (h : H p = none) : Gro H (upd H p o) := fun a u e => by
  rw [upd_ne (fun z => by rw [z, h] at e; cases e)]
  exact e
theorem tabs_gro {T : List (Addr × Str)} (g : Gro H H') (t : LamX.Tabs T H) : LamX.Tabs T H' := fun p hp => by
  obtain ⟨ps, a, b, d⟩ := t p hp
  exact ⟨ps, g _ _ a, b, fun pos cv e => let ⟨z, z1, z2⟩ := d pos cv e; ⟨z, z1, g _ _ z2⟩⟩
theorem MuOk.gro {ex : List Addr} {a : Addr} (g : Gro H H') : ∀ {u : Mu}, MuOk H ex a u → MuOk H' ex a u
  | .lst ws, ⟨xs, e, d⟩ => ⟨xs, g _ _ e, DA.to (g.kp ex) ws xs d⟩
  | .ins C dx fs, ⟨xs, e, d⟩ => ⟨xs, g _ _ e, DF.to (g.kp ex) fs xs d⟩
theorem Mem.gro (m : Mem c H) (g : Gro H H') : Mem c H' where
  mu := fun p hp => (m.mu p hp).gro g
  st := fun a e => (m.st a e).to (fun _ h _ => g _ _ h) (g.kp _)
  nd := m.nd
  ex := fun a h => let ⟨o, e, t⟩ := m.ex a h; ⟨o, g _ _ e, t⟩
  tb := tabs_gro g m.tb
end
/-! ### judgements over data -/
section
variable (X : Cx) (c : Cn)
/-- behind an expression -/
abbrev AfE (H : Hp) (P : W → Prop) (Q : VK) : Prop := ∀ v w H', D H' c.xs w v → P w → Kp c.ms H c.ms H' → Mem c H' → Q v H'
def WE (e : Expr) (P : W → Prop) : Prop := ∀ σ H Q, EnvOk c σ H → Mem c H → AfE c H P Q → E X e σ H Q
def WT (e : Expr) (P : Bool → Prop) : Prop := ∀ σ H (Q : Bool → Hp → Prop), EnvOk c σ H → Mem c H → (∀ b H', P b → Kp c.ms H c.ms H' → Mem c H' → Q b H') → ET X e σ H Q
def WAs (es : List Expr) (P : List W → Prop) : Prop := ∀ σ H (Q : List V → Hp → Prop), EnvOk c σ H → Mem c H → (∀ vs ws H', DA H' c.xs ws vs → P ws → Kp c.ms H c.ms H' → Mem c H' → Q vs H') → EA X es σ H Q
/-- the slots outside js stay -/
def Agr (js : List Nat) (σ σ' : L2.St) : Prop := σ'.length = σ.length ∧ ∀ k, k ∉ js → σ'[k]? = σ[k]?
def WG (tg : Expr) (w : W) (js : List Nat) (N : List (Option Th) → Prop) : Prop := ∀ σ H v (Q : L2.St → Hp → Prop), EnvOk c σ H → Mem c H → D H c.xs w v → (∀ ρ' σ', N ρ' → EnvOk { c with ρ := ρ' } σ' H → Agr js σ σ' → Q σ' H) → EG X tg v σ H Q
def WGs (tgs : List Expr) (ws : List W) (js : List Nat) (N : List (Option Th) → Prop) : Prop := ∀ σ H vs (Q : L2.St → Hp → Prop), EnvOk c σ H → Mem c H → DA H c.xs ws vs → (∀ ρ' σ', N ρ' → EnvOk { c with ρ := ρ' } σ' H → Agr js σ σ' → Q σ' H) → EGs X tgs vs σ H Q
/-- what a return gives: seen from outside -/
structure RetOk (c : Cn) (H : Hp) (w : W) (v : V) (H' : Hp) : Prop where
  d : D H' (c.sl ++ c.ex) w v
  kp : Kp c.ms H c.sl H'
  st : ∀ a, c.st = some a → StOk H' (c.sl ++ c.ex) a
  ex : ∀ a ∈ c.ex, Al H' a
  tb : LamX.Tabs c.T H'
def AfS (σ : L2.St) (H : Hp) (N : Cn → Prop) (R : W → Prop) (Dn : Ends) : Prop :=
  (∀ c' σ' H', N c' → EnvOk c' σ' H' → Mem c' H' → Grw c c' H H' → Dn.nx σ' H') ∧ (∀ v w H', R w → RetOk c H w v H' → Dn.rt v H')
def WS (st : Stmt) (N : Cn → Prop) (R : W → Prop) : Prop := ∀ σ H Dn, EnvOk c σ H → Mem c H → AfS c σ H N R Dn → ES X st Dn σ H
def WSs (ss : List Stmt) (N : Cn → Prop) (R : W → Prop) : Prop := ∀ σ H Dn, EnvOk c σ H → Mem c H → AfS c σ H N R Dn → ESs X ss Dn σ H
end
end K11
/-! KD2 -/
namespace K11
open PySem PySem.Spec PyProof.Rows L2
section
variable {X : Cx} {c : Cn} {P : W → Prop} {e a b : Expr} {es : List Expr} {pos : Pos}
theorem WE.mono {P' : W → Prop} (h : WE X c e P) (k : ∀ w, P w → P' w) : WE X c e P' := fun σ H Q ev me q => h σ H Q ev me fun v w H' d p kp m => q v w H' d (k w p) kp m
/-! atoms -/
theorem we_name (i : Nat) {x : Str} {w : W} (hN : X.N[i]? = some x) (hv : Vis X.env.scope x) (g : c.ρ[i]? = some (some (.dat w))) (p : P w)
    (hd : (x == ("__debug__" : Str)) = false := by decide) (hcd : (x == ("__classdict__" : Str)) = false := by decide) : WE X c (.Name x pos) P := fun σ H Q ev me q => by
  obtain ⟨v, s1, s2⟩ := ev.2 i _ g
  exact ⟨_, pe_var hN hv hd hcd, v, s1, q v w H s2 p Kp.refl me⟩
theorem we_sc {v : V} {w : W} (h : PE X e (tC v)) (d : ∀ H ex, D H ex w v) (p : P w) : WE X c e P := fun σ H Q ev me q => ⟨_, h, q v w H (d _ _) p Kp.refl me⟩
theorem we_int {i : Int} {j} (p : P (.int i)) : WE X c (.Constant (.int i) j pos) P := we_sc pe_int (fun _ _ => D.int i) p
theorem we_bl {i : Bool} {j} (p : P (.bl i)) : WE X c (.Constant (.bool i) j pos) P := we_sc pe_bl (fun _ _ => D.bl i) p
theorem we_non {j} (p : P .non) : WE X c (.Constant .none j pos) P := we_sc pe_non (fun _ _ => D.non) p
theorem we_str {z : Str} {j} (p : P (.str z)) : WE X c (.Constant (.str z) j pos) P := we_sc pe_str (fun _ _ => D.str z) p
theorem we_gint {x : Str} {i : Int} (hg : Gl X x) (h : ∃ u, X.mg x = some u ∧ RelV (.int i) u) (p : P (.int i)) (hd : (x == ("__debug__" : Str)) = false := by decide) : WE X c (.Name x pos) P := we_sc (C8.pe_gc hg h hd) (fun _ _ => D.int i) p
theorem we_gstr {x : Str} {i : Str} (hg : Gl X x) (h : ∃ u, X.mg x = some u ∧ RelV (.str i) u) (p : P (.str i)) (hd : (x == ("__debug__" : Str)) = false := by decide) : WE X c (.Name x pos) P := we_sc (C8.pe_gc hg h hd) (fun _ _ => D.str i) p
/-! operators by values -/
def DR1 (c : Cn) (r : V → Hp → VK → Prop) (x : W) (P : W → Prop) : Prop := ∀ H v Q, Mem c H → D H c.xs x v → AfE c H P Q → r v H Q
def DR2 (c : Cn) (r : R2) (x y : W) (P : W → Prop) : Prop := ∀ H v u Q, Mem c H → D H c.xs x v → D H c.xs y u → AfE c H P Q → r v u H Q
def DRA (c : Cn) (r : List V → Hp → VK → Prop) (xs : List W) (P : W → Prop) : Prop := ∀ H vs Q, Mem c H → DA H c.xs xs vs → AfE c H P Q → r vs H Q
theorem we_bin {r : R2} (hp : ∀ ta tb, PE X a ta → PE X b tb → PE X e (tOp r ta tb)) (h : WE X c a (fun x => WE X c b (fun y => DR2 c r x y P))) : WE X c e P := fun σ H Q ev me q => by
  refine ⟨_, hp _ _ E_pe E_pe, ?_⟩
  refine h σ H _ ev me fun v x H1 dx hx k1 m1 => ?_
  refine hx σ H1 _ (ev.kp k1) m1 fun u y H2 dy hy k2 m2 => ?_
  exact hy H2 v u Q m2 (D.to (k2.xs rfl) x v dx) dy fun z w H' d p k m => q z w H' d p (k1.trans (k2.trans k)) m
theorem we_un {r : V → Hp → VK → Prop} (hp : ∀ ta, PE X a ta → PE X e (fun σ H Q => ta σ H fun x H1 => r x H1 Q)) (h : WE X c a (fun x => DR1 c r x P)) : WE X c e P := fun σ H Q ev me q => by
  refine ⟨_, hp _ E_pe, ?_⟩
  refine h σ H _ ev me fun v x H1 dx hx k1 m1 => ?_
  exact hx H1 v Q m1 dx fun z w H' d p k m => q z w H' d p (k1.trans k) m
theorem we_args {r : List V → Hp → VK → Prop} (hp : ∀ ta, PA X es ta → PE X e (tCB r ta)) (h : WAs X c es (fun ws => DRA c r ws P)) : WE X c e P := fun σ H Q ev me q => by
  refine ⟨_, hp _ E_pa, ?_⟩
  refine h σ H _ ev me fun vs xs H1 dx hx k1 m1 => ?_
  exact hx H1 vs Q m1 dx fun z w H' d p k m => q z w H' d p (k1.trans k) m
/-! argument lists -/
theorem wa_nil {P : List W → Prop} (p : P []) : WAs X c [] P := fun σ H Q ev me q => ⟨_, pa_nil, q [] [] H DA.nil p Kp.refl me⟩
theorem wa_cons {P : List W → Prop} (h : WE X c a (fun x => WAs X c es (fun ws => P (x :: ws)))) (hs : starEach (a :: es) X.env = (false, eval a X.env) :: starEach es X.env := by rfl) : WAs X c (a :: es) P := fun σ H Q ev me q => by
  refine ⟨_, pa_cons E_pe E_pa hs, ?_⟩
  refine h σ H _ ev me fun v x H1 dx hx k1 m1 => ?_
  refine hx σ H1 _ (ev.kp k1) m1 fun vs xs H2 ds p k2 m2 => ?_
  exact q (v :: vs) (x :: xs) H2 (DA.cons (D.to (k2.xs rfl) x v dx) ds) p (k1.trans k2) m2
theorem wa_star {P : List W → Prop} {p : Pos} (h : WE X c a (fun x => ∃ xs, (x = .lst xs ∨ x = .tup xs) ∧ WAs X c es (fun ws => P (xs ++ ws)))) (hs : starEach (.Starred a p :: es) X.env = (true, eval a X.env) :: starEach es X.env := by rfl) : WAs X c (.Starred a p :: es) P := fun σ H Q ev me q => by
  refine ⟨_, StX.pa_star E_pe E_pa hs, ?_⟩
  refine h σ H _ ev me fun v x H1 dx hx k1 m1 => ?_
  obtain ⟨xs, hx, hw⟩ := hx
  have go : ∀ a ys, v = .ref a → (SqT X.K H1 a ys ∨ SqL X.K H1 a ys) → DA H1 c.xs xs ys → ∃ p xs, v = V.ref p ∧ (SqT X.K H1 p xs ∨ SqL X.K H1 p xs) ∧ EA X es σ H1 (fun ys H2 => Q (xs ++ ys) H2) := fun a ys ea hy dy => by
    refine ⟨a, ys, ea, hy, ?_⟩
    refine hw σ H1 _ (ev.kp k1) m1 fun vs ws H2 ds p k2 m2 => ?_
    exact q (ys ++ vs) (xs ++ ws) H2 ((DA.to (k2.xs rfl) xs ys dy).append ds) p (k1.trans k2) m2
  rcases hx with rfl | rfl
  · obtain ⟨a, ys, ea, _, ha, dy⟩ := D.lst_iff.mp dx
    exact go a ys ea (.inr (.inl (Rd.of ha))) dy
  · obtain ⟨a, ys, ea, _, ha, dy⟩ := D.tup_iff.mp dx
    exact go a ys ea (.inl (.inl (Rd.of ha))) dy
/-! a new object -/
theorem new_af {H : Hp} {Q : VK} {p : Addr} {o : HO} {w : W} (me : Mem c H) (hp : H p = none) (q : AfE c H P Q) (d : D (upd H p o) c.xs w (.ref p)) (h : P w) : Q (.ref p) (upd H p o) :=
  q _ w _ d h ((Gro.upd hp).kp _) (me.gro (Gro.upd hp))
theorem D.newL {H : Hp} {ex : List Addr} {p : Addr} {ws : List W} {xs : List V} (hp : H p = none) (n : p ∉ ex) (d : DA H ex ws xs) : D (upd H p (.lst xs)) ex (.lst ws) (.ref p) := D.lst_iff.mpr ⟨p, xs, rfl, n, upd_same, DA.to ((Gro.upd hp).kp _) ws xs d⟩
theorem D.newT {H : Hp} {ex : List Addr} {p : Addr} {ws : List W} {xs : List V} (hp : H p = none) (n : p ∉ ex) (d : DA H ex ws xs) : D (upd H p (.tup xs)) ex (.tup ws) (.ref p) := D.tup_iff.mpr ⟨p, xs, rfl, n, upd_same, DA.to ((Gro.upd hp).kp _) ws xs d⟩
theorem we_tup {k : Nat} (h : WAs X c es (fun ws => ws.length ≤ sizeLine ∧ P (.tup ws))) : WE X c (.Tuple es k pos) P := fun σ H Q ev me q => by
  refine ⟨_, pe_tup E_pa, h σ H _ ev me fun vs ws H1 ds p k1 m1 => ⟨by rw [ds.len]; exact p.1, fun a ha => ?_⟩⟩
  exact q _ _ _ (D.newT ha (m1.fresh ha) ds) p.2 (k1.trans ((Gro.upd ha).kp _)) (m1.gro (Gro.upd ha))
theorem we_lst {k : Nat} (h : WAs X c es (fun ws => ws.length ≤ sizeLine ∧ P (.lst ws))) : WE X c (.List es pos) P := fun σ H Q ev me q => by
  refine ⟨_, pe_lst E_pa, h σ H _ ev me fun vs ws H1 ds p k1 m1 => ⟨by rw [ds.len]; exact p.1, fun a ha => ?_⟩⟩
  exact q _ _ _ (D.newL ha (m1.fresh ha) ds) p.2 (k1.trans ((Gro.upd ha).kp _)) (m1.gro (Gro.upd ha))
/-! scalars -/
theorem dr_sc {H : Hp} {Q : VK} {w : W} {v : V} (me : Mem c H) (q : AfE c H P Q) (d : D H c.xs w v) (h : P w) : Q v H := q v w H d h Kp.refl me
theorem dr_i0 {g : Int → Int → V} {g' : Int → Int → W} (hg : ∀ i j H ex, D H ex (g' i j) (g i j)) {x y : W} (h : ∃ i j, x = .int i ∧ y = .int j ∧ P (g' i j)) : DR2 c (rI0 g) x y P := fun H v u Q me dx dy q => by
  obtain ⟨i, j, rfl, rfl, p⟩ := h
  exact ⟨i, j, D.int_iff.mp dx, D.int_iff.mp dy, dr_sc me q (hg i j _ _) p⟩
theorem dr_iC {C : Int → Int → Prop} {g : Int → Int → V} {g' : Int → Int → W} (hg : ∀ i j H ex, D H ex (g' i j) (g i j)) {x y : W} (h : ∃ i j, x = .int i ∧ y = .int j ∧ C i j ∧ P (g' i j)) : DR2 c (rI C g) x y P := fun H v u Q me dx dy q => by
  obtain ⟨i, j, rfl, rfl, hc, p⟩ := h
  exact ⟨i, j, D.int_iff.mp dx, D.int_iff.mp dy, hc, dr_sc me q (hg i j _ _) p⟩
theorem we_add (h : WE X c a (fun x => WE X c b (fun y => ∃ i j, x = .int i ∧ y = .int j ∧ P (.int (i + j))))) : WE X c (.BinOp a .Add b pos) P :=
  we_bin (fun _ _ => pe_op op_add) (h.mono fun _ h => h.mono fun _ h => dr_i0 (g' := fun i j => .int (i + j)) (fun i j _ _ => D.int _) h)
theorem we_sub (h : WE X c a (fun x => WE X c b (fun y => ∃ i j, x = .int i ∧ y = .int j ∧ P (.int (i - j))))) : WE X c (.BinOp a .Sub b pos) P :=
  we_bin (fun _ _ => pe_op op_sub) (h.mono fun _ h => h.mono fun _ h => dr_i0 (g' := fun i j => .int (i - j)) (fun i j _ _ => D.int _) h)
theorem we_mul (h : WE X c a (fun x => WE X c b (fun y => ∃ i j, x = .int i ∧ y = .int j ∧ CMul i j ∧ P (.int (i * j))))) : WE X c (.BinOp a .Mult b pos) P :=
  we_bin (fun _ _ => pe_op op_mul) (h.mono fun _ h => h.mono fun _ h => dr_iC (g' := fun i j => .int (i * j)) (fun i j _ _ => D.int _) h)
theorem we_mod (h : WE X c a (fun x => WE X c b (fun y => ∃ i j, x = .int i ∧ y = .int j ∧ 0 < j ∧ P (.int (i % j))))) : WE X c (.BinOp a .Mod b pos) P :=
  we_bin (fun _ _ => pe_op op_mod) (h.mono fun _ h => h.mono fun _ h => dr_iC (g' := fun i j => .int (i % j)) (fun i j _ _ => D.int _) h)
theorem we_fdiv (h : WE X c a (fun x => WE X c b (fun y => ∃ i j, x = .int i ∧ y = .int j ∧ CDiv i j ∧ P (.int (i / j))))) : WE X c (.BinOp a .FloorDiv b pos) P :=
  we_bin (fun _ _ => pe_op op_fdiv) (h.mono fun _ h => h.mono fun _ h => dr_iC (g' := fun i j => .int (i / j)) (fun i j _ _ => D.int _) h)
theorem we_adds (h : WE X c a (fun x => WE X c b (fun y => ∃ i j, x = .str i ∧ y = .str j ∧ i.length + j.length ≤ sizeLine ∧ P (.str (i ++ j))))) : WE X c (.BinOp a .Add b pos) P :=
  we_bin (fun _ _ => pe_op op_add_str) (h.mono fun _ h => h.mono fun _ h => fun H v u Q me dx dy q => by
    obtain ⟨i, j, rfl, rfl, hl, p⟩ := h
    exact ⟨i, j, D.str_iff.mp dx, D.str_iff.mp dy, hl, dr_sc me q (D.str _) p⟩)
theorem we_addl (h : WE X c a (fun x => WE X c b (fun y => ∃ i j, x = .lst i ∧ y = .lst j ∧ i.length + j.length ≤ sizeLine ∧ P (.lst (i ++ j))))) : WE X c (.BinOp a .Add b pos) P :=
  we_bin (fun _ _ => pe_op op_cat) (h.mono fun _ h => h.mono fun _ h => fun H v u Q me dx dy q => by
    obtain ⟨i, j, rfl, rfl, hl, p⟩ := h
    obtain ⟨l, xs, rfl, _, h1, d1⟩ := D.lst_iff.mp dx
    obtain ⟨m, ys, rfl, _, h2, d2⟩ := D.lst_iff.mp dy
    exact ⟨l, m, xs, ys, rfl, rfl, h1, h2, by rw [d1.len, d2.len]; exact hl, fun p' hp => new_af me hp q (D.newL hp (me.fresh hp) (d1.append d2)) p⟩)
theorem we_ltI (h : WE X c a (fun x => WE X c b (fun y => ∃ i j, x = .int i ∧ y = .int j ∧ P (.bl (decide (i < j)))))) : WE X c (.Compare a [.Lt] [b] pos) P :=
  we_bin (fun _ _ ha hb => pe_cmpR op_lt ha hb (nomark _)) (h.mono fun _ h => h.mono fun _ h => dr_i0 (g' := fun i j => .bl (decide (i < j))) (fun i j _ _ => D.bl _) h)
theorem we_leI (h : WE X c a (fun x => WE X c b (fun y => ∃ i j, x = .int i ∧ y = .int j ∧ P (.bl (decide (i ≤ j)))))) : WE X c (.Compare a [.LtE] [b] pos) P :=
  we_bin (fun _ _ ha hb => pe_cmpR op_le ha hb (nomark _)) (h.mono fun _ h => h.mono fun _ h => dr_i0 (g' := fun i j => .bl (decide (i ≤ j))) (fun i j _ _ => D.bl _) h)
theorem we_gtI (h : WE X c a (fun x => WE X c b (fun y => ∃ i j, x = .int i ∧ y = .int j ∧ P (.bl (decide (j < i)))))) : WE X c (.Compare a [.Gt] [b] pos) P :=
  we_bin (fun _ _ ha hb => pe_cmpR op_gt ha hb (nomark _)) (h.mono fun _ h => h.mono fun _ h => dr_i0 (g' := fun i j => .bl (decide (j < i))) (fun i j _ _ => D.bl _) h)
theorem we_geI (h : WE X c a (fun x => WE X c b (fun y => ∃ i j, x = .int i ∧ y = .int j ∧ P (.bl (decide (j ≤ i)))))) : WE X c (.Compare a [.GtE] [b] pos) P :=
  we_bin (fun _ _ ha hb => pe_cmpR op_ge ha hb (nomark _)) (h.mono fun _ h => h.mono fun _ h => dr_i0 (g' := fun i j => .bl (decide (j ≤ i))) (fun i j _ _ => D.bl _) h)
theorem we_ltS (h : WE X c a (fun x => WE X c b (fun y => ∃ i j, x = .str i ∧ y = .str j ∧ P (.bl (decide (i.cps.toList < j.cps.toList)))))) : WE X c (.Compare a [.Lt] [b] pos) P :=
  we_bin (fun _ _ ha hb => pe_cmpR op_lt_str ha hb (nomark _)) (h.mono fun _ h => h.mono fun _ h => fun H v u Q me dx dy q => by
    obtain ⟨i, j, rfl, rfl, p⟩ := h
    exact ⟨i, j, D.str_iff.mp dx, D.str_iff.mp dy, dr_sc me q (D.bl _) p⟩)
theorem we_leS (h : WE X c a (fun x => WE X c b (fun y => ∃ i j, x = .str i ∧ y = .str j ∧ P (.bl (!decide (j.cps.toList < i.cps.toList)))))) : WE X c (.Compare a [.LtE] [b] pos) P :=
  we_bin (fun _ _ ha hb => pe_cmpR op_le_str ha hb (nomark _)) (h.mono fun _ h => h.mono fun _ h => fun H v u Q me dx dy q => by
    obtain ⟨i, j, rfl, rfl, p⟩ := h
    exact ⟨i, j, D.str_iff.mp dx, D.str_iff.mp dy, dr_sc me q (D.bl _) p⟩)
/-- flat data -/
def W.v : W → Option V
  | .non => some .non | .bl b => some (.bl b) | .int i => some (.int i) | .str z => some (.str z) | _ => none
theorem D.of_v {H : Hp} {ex : List Addr} : ∀ {w : W} {v u : V}, w.v = some v → D H ex w u → u = v
  | .non, _, _, e, d => by cases e; exact D.non_iff.mp d
  | .bl b, _, _, e, d => by cases e; exact D.bl_iff.mp d
  | .int b, _, _, e, d => by cases e; exact D.int_iff.mp d
  | .str b, _, _, e, d => by cases e; exact D.str_iff.mp d
  | .lst _, _, _, e, _ => by cases e
  | .tup _, _, _, e, _ => by cases e
  | .tpx _, _, _, e, _ => by cases e
  | .ins _ _, _, _, e, _ => by cases e
  | .dic _, _, _, e, _ => by cases e
theorem we_eqV {x' y' : V} (h : WE X c a (fun x => WE X c b (fun y => ∃ v u, x.v = some v ∧ y.v = some u ∧ scal v u = true ∧ P (.bl (decide (v = u)))))) : WE X c (.Compare a [.Eq] [b] pos) P :=
  we_bin (fun _ _ ha hb => pe_cmpR op_eq ha hb (nomark _)) (h.mono fun _ h => h.mono fun _ h => fun H v u Q me dx dy q => by
    obtain ⟨i, j, e1, e2, s, p⟩ := h
    rw [D.of_v e1 dx, D.of_v e2 dy]
    exact ⟨s, dr_sc me q (D.bl _) p⟩)
theorem we_eqS (h : WE X c a (fun x => WE X c b (fun y => ∃ i j, x = .str i ∧ y = .str j ∧ P (.bl (decide (i = j)))))) : WE X c (.Compare a [.Eq] [b] pos) P :=
  we_eqV (x' := .non) (y' := .non) (h.mono fun _ h => h.mono fun _ ⟨i, j, e1, e2, p⟩ => ⟨.str i, .str j, by rw [e1]; rfl, by rw [e2]; rfl, rfl, by
    have : decide ((V.str i) = V.str j) = decide (i = j) := by rw [decide_eq_decide]; exact ⟨fun h => by injection h, fun h => by rw [h]⟩
    rw [this]; exact p⟩)
theorem we_eqI (h : WE X c a (fun x => WE X c b (fun y => ∃ i j, x = .int i ∧ y = .int j ∧ P (.bl (decide (i = j)))))) : WE X c (.Compare a [.Eq] [b] pos) P :=
  we_eqV (x' := .non) (y' := .non) (h.mono fun _ h => h.mono fun _ ⟨i, j, e1, e2, p⟩ => ⟨.int i, .int j, by rw [e1]; rfl, by rw [e2]; rfl, rfl, by
    have : decide ((V.int i) = V.int j) = decide (i = j) := by rw [decide_eq_decide]; exact ⟨fun h => by injection h, fun h => by rw [h]⟩
    rw [this]; exact p⟩)
theorem we_eqB (h : WE X c a (fun x => WE X c b (fun y => ∃ i j, x = .bl i ∧ y = .bl j ∧ P (.bl (decide (i = j)))))) : WE X c (.Compare a [.Eq] [b] pos) P :=
  we_eqV (x' := .non) (y' := .non) (h.mono fun _ h => h.mono fun _ ⟨i, j, e1, e2, p⟩ => ⟨.bl i, .bl j, by rw [e1]; rfl, by rw [e2]; rfl, rfl, by
    have : decide ((V.bl i) = V.bl j) = decide (i = j) := by rw [decide_eq_decide]; exact ⟨fun h => by injection h, fun h => by rw [h]⟩
    rw [this]; exact p⟩)
theorem we_neV (h : WE X c a (fun x => WE X c b (fun y => ∃ v u, x.v = some v ∧ y.v = some u ∧ scal v u = true ∧ P (.bl (!decide (v = u)))))) : WE X c (.Compare a [.NotEq] [b] pos) P :=
  we_bin (fun _ _ ha hb => pe_cmpR op_ne ha hb (nomark _)) (h.mono fun _ h => h.mono fun _ h => fun H v u Q me dx dy q => by
    obtain ⟨i, j, e1, e2, s, p⟩ := h
    rw [D.of_v e1 dx, D.of_v e2 dy]
    exact ⟨s, dr_sc me q (D.bl _) p⟩)
theorem we_neS (h : WE X c a (fun x => WE X c b (fun y => ∃ i j, x = .str i ∧ y = .str j ∧ P (.bl (!decide (i = j)))))) : WE X c (.Compare a [.NotEq] [b] pos) P :=
  we_neV (h.mono fun _ h => h.mono fun _ ⟨i, j, e1, e2, p⟩ => ⟨.str i, .str j, by rw [e1]; rfl, by rw [e2]; rfl, rfl, by
    have : decide ((V.str i) = V.str j) = decide (i = j) := by rw [decide_eq_decide]; exact ⟨fun h => by injection h, fun h => by rw [h]⟩
    rw [this]; exact p⟩)
theorem we_neI (h : WE X c a (fun x => WE X c b (fun y => ∃ i j, x = .int i ∧ y = .int j ∧ P (.bl (!decide (i = j)))))) : WE X c (.Compare a [.NotEq] [b] pos) P :=
  we_neV (h.mono fun _ h => h.mono fun _ ⟨i, j, e1, e2, p⟩ => ⟨.int i, .int j, by rw [e1]; rfl, by rw [e2]; rfl, rfl, by
    have : decide ((V.int i) = V.int j) = decide (i = j) := by rw [decide_eq_decide]; exact ⟨fun h => by injection h, fun h => by rw [h]⟩
    rw [this]; exact p⟩)
theorem we_neB (h : WE X c a (fun x => WE X c b (fun y => ∃ i j, x = .bl i ∧ y = .bl j ∧ P (.bl (!decide (i = j)))))) : WE X c (.Compare a [.NotEq] [b] pos) P :=
  we_neV (h.mono fun _ h => h.mono fun _ ⟨i, j, e1, e2, p⟩ => ⟨.bl i, .bl j, by rw [e1]; rfl, by rw [e2]; rfl, rfl, by
    have : decide ((V.bl i) = V.bl j) = decide (i = j) := by rw [decide_eq_decide]; exact ⟨fun h => by injection h, fun h => by rw [h]⟩
    rw [this]; exact p⟩)
/-- is the datum None -/
def W.isN : W → Bool
  | .non => true
  | _ => false
theorem D.isN {H : Hp} {ex : List Addr} : ∀ {w : W} {v : V}, D H ex w v → decide (v = .non) = w.isN
  | .non, _, d => by cases D.non_iff.mp d; rfl
  | .bl b, _, d => by cases D.bl_iff.mp d; rfl
  | .int b, _, d => by cases D.int_iff.mp d; rfl
  | .str b, _, d => by cases D.str_iff.mp d; rfl
  | .lst _, _, d => by obtain ⟨a, xs, rfl, _⟩ := D.lst_iff.mp d; rfl
  | .tup _, _, d => by obtain ⟨a, xs, rfl, _⟩ := D.tup_iff.mp d; rfl
  | .tpx _, _, d => by obtain ⟨a, xs, ob, rfl, _⟩ := D.tpx_iff.mp d; rfl
  | .ins _ _, _, d => by obtain ⟨a, dx, xs, rfl, _⟩ := D.ins_iff.mp d; rfl
  | .dic _, _, d => by obtain ⟨a, xs, rfl, _⟩ := D.dic_iff.mp d; rfl
theorem we_isN {j pos'} (h : WE X c a (fun x => P (.bl x.isN))) : WE X c (.Compare a [.Is] [.Constant .none j pos'] pos) P := fun σ H Q ev me q => by
  refine ⟨_, pe_cmp (pc_isN E_pe) rfl, ?_⟩
  refine h σ H _ ev me fun v x H1 dx hx k1 m1 => ?_
  have e := D.isN dx
  rw [e]
  exact q _ _ _ (D.bl _) hx k1 m1
/-- sign in text -/
theorem we_inSign (h : WE X c a (fun x => WE X c b (fun y => ∃ (k : Nat) (z : Str), x = .str ⟨#[k]⟩ ∧ y = .str z ∧ P (.bl (decide (k ∈ z.cps.toList)))))) (hm : behindInMarks .In b = false := by rfl) : WE X c (.Compare a [.In] [b] pos) P :=
  we_bin (fun _ _ ha hb => pe_cmpR op_in_sign ha hb hm) (h.mono fun _ h => h.mono fun _ h => fun H v u Q me dx dy q => by
    obtain ⟨i, j, rfl, rfl, p⟩ := h
    exact ⟨i, j, D.str_iff.mp dx, D.str_iff.mp dy, dr_sc me q (D.bl _) p⟩)
theorem inV_strs (z : Str) : ∀ zs : List Str, inV (.str z) (zs.map V.str) = decide (z ∈ zs)
  | [] => by simp [inV]
  | y :: ys => by
    have ih := inV_strs z ys
    unfold inV at ih ⊢
    rw [List.map_cons, List.any_cons, ih]
    show ((y == z) || _) = _
    by_cases h : y = z
    · subst h; simp
    · have h' : (y == z) = false := by rw [beq_eq_false_iff_ne]; exact h
      have h2 : z ≠ y := fun q => h q.symm
      rw [h']; simp [h2]
theorem flat_strs : ∀ zs : List Str, (zs.map V.str).all flatV = true
  | [] => rfl
  | y :: ys => by rw [List.map_cons, List.all_cons, flat_strs ys]; rfl
theorem dr_inStrs {neg : Bool} {x y : W} (h : ∃ (z : Str) (zs : List Str), x = .str z ∧ (y = .lst (zs.map W.str) ∨ y = .tup (zs.map W.str)) ∧ P (.bl (if neg then !decide (z ∈ zs) else decide (z ∈ zs)))) : DR2 c (rIn X.K neg) x y P := fun H v u Q me dx dy q => by
  obtain ⟨z, zs, rfl, hy, p⟩ := h
  cases D.str_iff.mp dx
  rw [← inV_strs] at p
  rcases hy with rfl | rfl
  · obtain ⟨a, xs, rfl, _, ha, d⟩ := D.lst_iff.mp dy
    cases DA.strs_iff d
    exact ⟨a, _, rfl, .inl (.inl (Rd.of ha)), rfl, flat_strs zs, dr_sc me q (D.bl _) p⟩
  · obtain ⟨a, xs, rfl, _, ha, d⟩ := D.tup_iff.mp dy
    cases DA.strs_iff d
    exact ⟨a, _, rfl, .inr (.inl (Rd.of ha)), rfl, flat_strs zs, dr_sc me q (D.bl _) p⟩
theorem we_inS (h : WE X c a (fun x => WE X c b (fun y => ∃ (z : Str) (zs : List Str), x = .str z ∧ (y = .lst (zs.map W.str) ∨ y = .tup (zs.map W.str)) ∧ P (.bl (decide (z ∈ zs)))))) (hm : behindInMarks .In b = false := by rfl) : WE X c (.Compare a [.In] [b] pos) P :=
  we_bin (fun _ _ ha hb => pe_cmpR op_in_seq ha hb hm) (h.mono fun _ h => h.mono fun _ h => dr_inStrs (neg := false) h)
theorem we_notInS (h : WE X c a (fun x => WE X c b (fun y => ∃ (z : Str) (zs : List Str), x = .str z ∧ (y = .lst (zs.map W.str) ∨ y = .tup (zs.map W.str)) ∧ P (.bl (!decide (z ∈ zs)))))) (hm : behindInMarks .NotIn b = false := by rfl) : WE X c (.Compare a [.NotIn] [b] pos) P :=
  we_bin (fun _ _ ha hb => pe_cmpR op_notIn_seq ha hb hm) (h.mono fun _ h => h.mono fun _ h => dr_inStrs (neg := true) h)
theorem inV_ints (z : Int) : ∀ zs : List Int, inV (.int z) (zs.map V.int) = decide (z ∈ zs)
  | [] => by simp [inV]
  | y :: ys => by
    have ih := inV_ints z ys
    unfold inV at ih ⊢
    rw [List.map_cons, List.any_cons, ih]
    show ((y == z) || _) = _
    by_cases h : y = z
    · subst h; simp
    · have h' : (y == z) = false := by rw [beq_eq_false_iff_ne]; exact h
      have h2 : z ≠ y := fun q => h q.symm
      rw [h']; simp [h2]
theorem flat_ints : ∀ zs : List Int, (zs.map V.int).all flatV = true
  | [] => rfl
  | y :: ys => by rw [List.map_cons, List.all_cons, flat_ints ys]; rfl
theorem we_inI (h : WE X c a (fun x => WE X c b (fun y => ∃ (z : Int) (zs : List Int), x = .int z ∧ y = .lst (zs.map W.int) ∧ P (.bl (decide (z ∈ zs)))))) (hm : behindInMarks .In b = false := by rfl) : WE X c (.Compare a [.In] [b] pos) P :=
  we_bin (fun _ _ ha hb => pe_cmpR op_in_seq ha hb hm) (h.mono fun _ h => h.mono fun _ h => fun H v u Q me dx dy q => by
    obtain ⟨z, zs, rfl, rfl, p⟩ := h
    cases D.int_iff.mp dx
    rw [← inV_ints] at p
    obtain ⟨a, xs, rfl, _, ha, d⟩ := D.lst_iff.mp dy
    cases DA.ints_iff d
    exact ⟨a, _, rfl, .inl (.inl (Rd.of ha)), rfl, flat_ints zs, dr_sc me q (D.bl _) p⟩)
end
end K11
/-! KD3 -/
namespace K11
open PySem PySem.Spec PyProof.Rows L2
section
variable {X : Cx} {c : Cn} {P : W → Prop} {e a b : Expr} {es : List Expr} {pos : Pos}
/-! tests -/
def TB (P : Bool → Prop) : W → Prop := fun w => ∃ k, w = .bl k ∧ P k
theorem WT.mono {P P' : Bool → Prop} (h : WT X c e P) (k : ∀ w, P w → P' w) : WT X c e P' := fun σ H Q ev me q => h σ H Q ev me fun v H' p kp m => q v H' (k v p) kp m
theorem wt_val {P : Bool → Prop} (h : WE X c e (TB P)) (he : ∀ whole, isTrue e X.env whole = (do let v ← whole; standAt e.pos; holding [v] (truthy v)) := by intro _; rfl) : WT X c e P := fun σ H Q ev me q => by
  refine ⟨_, pt_val E_pe he, ?_⟩
  refine h σ H _ ev me fun v w H' d p kp m => ?_
  obtain ⟨k, rfl, p⟩ := p
  exact ⟨k, D.bl_iff.mp d, q k H' p kp m⟩
theorem wt_bin {r : R2} {P : Bool → Prop} (hp : ∀ ta tb, PE X a ta → PE X b tb → PT X e (tTest (tOp r ta tb))) (h : WE X c a (fun x => WE X c b (fun y => DR2 c r x y (TB P)))) : WT X c e P := fun σ H Q ev me q => by
  refine ⟨_, hp _ _ E_pe E_pe, ?_⟩
  refine h σ H _ ev me fun v x H1 dx hx k1 m1 => ?_
  refine hx σ H1 _ (ev.kp k1) m1 fun u y H2 dy hy k2 m2 => ?_
  refine hy H2 v u _ m2 (D.to (k2.xs rfl) x v dx) dy fun z w H' d p k m => ?_
  obtain ⟨b, rfl, p⟩ := p
  exact ⟨b, D.bl_iff.mp d, q b H' p (k1.trans (k2.trans k)) m⟩
theorem wt_not {P : Bool → Prop} (h : WT X c a (fun b => P (!b))) : WT X c (.UnaryOp .Not a pos) P := fun σ H Q ev me q =>
  ⟨_, pt_not E_pt, h σ H _ ev me fun b H' p kp m => q (!b) H' p kp m⟩
def WTw (X : Cx) (c : Cn) (e : Expr) (P : Bool → Prop) : Prop := ∀ σ H (Q : Bool → Hp → Prop), EnvOk c σ H → Mem c H → (∀ b H', P b → Kp c.ms H c.ms H' → Mem c H' → Q b H') → ∃ t, PW X e t ∧ t σ H Q
def EW (X : Cx) (e : Expr) : TT := fun σ H Q => ∃ t, PW X e t ∧ t σ H Q
theorem E_pw {e : Expr} : PW X e (EW X e) := ⟨fun whole pins s σ H Q I ⟨t, h, q⟩ => h.run whole pins s σ H Q I q⟩
theorem wt_w {P : Bool → Prop} (h : WTw X c e P) : WT X c e P := fun σ H Q ev me q => let ⟨t, a, b⟩ := h σ H Q ev me q; ⟨t, a.pt, b⟩
theorem ww_and1 {P : Bool → Prop} (h : WT X c a P) : WTw X c (.BoolOp .And [a] pos) P := fun σ H Q ev me q => let ⟨t, a, b⟩ := h σ H Q ev me q; ⟨t, pw_and1 a, b⟩
theorem ww_or1 {P : Bool → Prop} (h : WT X c a P) : WTw X c (.BoolOp .Or [a] pos) P := fun σ H Q ev me q => let ⟨t, a, b⟩ := h σ H Q ev me q; ⟨t, pw_or1 a, b⟩
theorem ww_and {P : Bool → Prop} (h : WT X c a (fun k => if k = true then WTw X c (.BoolOp .And (b :: es) pos) P else P false)) : WTw X c (.BoolOp .And (a :: b :: es) pos) P := fun σ H Q ev me q => by
  refine ⟨_, pw_and E_pt E_pw, ?_⟩
  refine h σ H _ ev me fun k H1 p k1 m1 => ?_
  cases k with
  | true => exact p σ H1 Q (ev.kp k1) m1 fun b H' p' k' m' => q b H' p' (k1.trans k') m'
  | false => exact q false H1 p k1 m1
theorem ww_or {P : Bool → Prop} (h : WT X c a (fun k => if k = true then P true else WTw X c (.BoolOp .Or (b :: es) pos) P)) : WTw X c (.BoolOp .Or (a :: b :: es) pos) P := fun σ H Q ev me q => by
  refine ⟨_, pw_or E_pt E_pw, ?_⟩
  refine h σ H _ ev me fun k H1 p k1 m1 => ?_
  cases k with
  | false => exact p σ H1 Q (ev.kp k1) m1 fun b H' p' k' m' => q b H' p' (k1.trans k') m'
  | true => exact q true H1 p k1 m1
theorem wt_and {P : Bool → Prop} (h : WT X c a (fun k => if k = true then WTw X c (.BoolOp .And (b :: es) pos) P else P false)) : WT X c (.BoolOp .And (a :: b :: es) pos) P := wt_w (ww_and h)
theorem wt_or {P : Bool → Prop} (h : WT X c a (fun k => if k = true then P true else WTw X c (.BoolOp .Or (b :: es) pos) P)) : WT X c (.BoolOp .Or (a :: b :: es) pos) P := wt_w (ww_or h)
/-! and, or, not, if as values -/
theorem we_one {op} (h : WE X c a P) : WE X c (.BoolOp op [a] pos) P := fun σ H Q ev me q => let ⟨t, x, y⟩ := h σ H Q ev me q; ⟨t, pe_one x, y⟩
theorem we_and (h : WE X c a (fun w => ∃ k, w = .bl k ∧ if k = true then WE X c (.BoolOp .And (b :: es) pos) P else P (.bl false))) : WE X c (.BoolOp .And (a :: b :: es) pos) P := fun σ H Q ev me q => by
  refine ⟨_, pe_and E_pe E_pe, ?_⟩
  refine h σ H _ ev me fun v w H1 d p k1 m1 => ?_
  obtain ⟨k, rfl, p⟩ := p
  refine ⟨k, D.bl_iff.mp d, ?_⟩
  cases k with
  | true => exact p σ H1 Q (ev.kp k1) m1 fun v w H' d p' k' m' => q v w H' d p' (k1.trans k') m'
  | false => exact q _ _ H1 (D.bl _) p k1 m1
theorem we_or (h : WE X c a (fun w => ∃ k, w = .bl k ∧ if k = true then P (.bl true) else WE X c (.BoolOp .Or (b :: es) pos) P)) : WE X c (.BoolOp .Or (a :: b :: es) pos) P := fun σ H Q ev me q => by
  refine ⟨_, pe_or E_pe E_pe, ?_⟩
  refine h σ H _ ev me fun v w H1 d p k1 m1 => ?_
  obtain ⟨k, rfl, p⟩ := p
  refine ⟨k, D.bl_iff.mp d, ?_⟩
  cases k with
  | false => exact p σ H1 Q (ev.kp k1) m1 fun v w H' d p' k' m' => q v w H' d p' (k1.trans k') m'
  | true => exact q _ _ H1 (D.bl _) p k1 m1
theorem we_not (h : WE X c a (fun w => ∃ k, w = .bl k ∧ P (.bl (!k)))) : WE X c (.UnaryOp .Not a pos) P := fun σ H Q ev me q => by
  refine ⟨_, pe_not E_pe, ?_⟩
  refine h σ H _ ev me fun v w H1 d p k1 m1 => ?_
  obtain ⟨k, rfl, p⟩ := p
  exact ⟨k, D.bl_iff.mp d, q _ _ H1 (D.bl _) p k1 m1⟩
theorem we_if {t : Expr} (h : WT X c t (fun k => if k = true then WE X c a P else WE X c b P)) : WE X c (.IfExp t a b pos) P := fun σ H Q ev me q => by
  refine ⟨_, pe_ifExp E_pt E_pe E_pe, ?_⟩
  refine h σ H _ ev me fun k H1 p k1 m1 => ?_
  cases k with
  | true => exact p σ H1 Q (ev.kp k1) m1 fun v w H' d p' k' m' => q v w H' d p' (k1.trans k') m'
  | false => exact p σ H1 Q (ev.kp k1) m1 fun v w H' d p' k' m' => q v w H' d p' (k1.trans k') m'
theorem wt_ltI {P : Bool → Prop} (h : WE X c a (fun x => WE X c b (fun y => ∃ i j, x = .int i ∧ y = .int j ∧ P (decide (i < j))))) : WT X c (.Compare a [.Lt] [b] pos) P :=
  wt_bin (fun _ _ ha hb => pt_cmpR op_lt ha hb (nomark _)) (h.mono fun _ h => h.mono fun _ ⟨i, j, e1, e2, p⟩ => dr_i0 (g' := fun i j => .bl (decide (i < j))) (fun i j _ _ => D.bl _) ⟨i, j, e1, e2, _, rfl, p⟩)
theorem wt_leI {P : Bool → Prop} (h : WE X c a (fun x => WE X c b (fun y => ∃ i j, x = .int i ∧ y = .int j ∧ P (decide (i ≤ j))))) : WT X c (.Compare a [.LtE] [b] pos) P :=
  wt_bin (fun _ _ ha hb => pt_cmpR op_le ha hb (nomark _)) (h.mono fun _ h => h.mono fun _ ⟨i, j, e1, e2, p⟩ => dr_i0 (g' := fun i j => .bl (decide (i ≤ j))) (fun i j _ _ => D.bl _) ⟨i, j, e1, e2, _, rfl, p⟩)
theorem wt_gtI {P : Bool → Prop} (h : WE X c a (fun x => WE X c b (fun y => ∃ i j, x = .int i ∧ y = .int j ∧ P (decide (j < i))))) : WT X c (.Compare a [.Gt] [b] pos) P :=
  wt_bin (fun _ _ ha hb => pt_cmpR op_gt ha hb (nomark _)) (h.mono fun _ h => h.mono fun _ ⟨i, j, e1, e2, p⟩ => dr_i0 (g' := fun i j => .bl (decide (j < i))) (fun i j _ _ => D.bl _) ⟨i, j, e1, e2, _, rfl, p⟩)
theorem wt_geI {P : Bool → Prop} (h : WE X c a (fun x => WE X c b (fun y => ∃ i j, x = .int i ∧ y = .int j ∧ P (decide (j ≤ i))))) : WT X c (.Compare a [.GtE] [b] pos) P :=
  wt_bin (fun _ _ ha hb => pt_cmpR op_ge ha hb (nomark _)) (h.mono fun _ h => h.mono fun _ ⟨i, j, e1, e2, p⟩ => dr_i0 (g' := fun i j => .bl (decide (j ≤ i))) (fun i j _ _ => D.bl _) ⟨i, j, e1, e2, _, rfl, p⟩)
theorem wt_ltS {P : Bool → Prop} (h : WE X c a (fun x => WE X c b (fun y => ∃ i j, x = .str i ∧ y = .str j ∧ P (decide (i.cps.toList < j.cps.toList))))) : WT X c (.Compare a [.Lt] [b] pos) P :=
  wt_bin (fun _ _ ha hb => pt_cmpR op_lt_str ha hb (nomark _)) (h.mono fun _ h => h.mono fun _ h => fun H v u Q me dx dy q => by
    obtain ⟨i, j, rfl, rfl, p⟩ := h
    exact ⟨i, j, D.str_iff.mp dx, D.str_iff.mp dy, dr_sc me q (D.bl _) ⟨_, rfl, p⟩⟩)
theorem wt_leS {P : Bool → Prop} (h : WE X c a (fun x => WE X c b (fun y => ∃ i j, x = .str i ∧ y = .str j ∧ P (!decide (j.cps.toList < i.cps.toList))))) : WT X c (.Compare a [.LtE] [b] pos) P :=
  wt_bin (fun _ _ ha hb => pt_cmpR op_le_str ha hb (nomark _)) (h.mono fun _ h => h.mono fun _ h => fun H v u Q me dx dy q => by
    obtain ⟨i, j, rfl, rfl, p⟩ := h
    exact ⟨i, j, D.str_iff.mp dx, D.str_iff.mp dy, dr_sc me q (D.bl _) ⟨_, rfl, p⟩⟩)
theorem wt_eqV {P : Bool → Prop} (h : WE X c a (fun x => WE X c b (fun y => ∃ v u, x.v = some v ∧ y.v = some u ∧ scal v u = true ∧ P (decide (v = u))))) : WT X c (.Compare a [.Eq] [b] pos) P :=
  wt_bin (fun _ _ ha hb => pt_cmpR op_eq ha hb (nomark _)) (h.mono fun _ h => h.mono fun _ h => fun H v u Q me dx dy q => by
    obtain ⟨i, j, e1, e2, s, p⟩ := h
    rw [D.of_v e1 dx, D.of_v e2 dy]
    exact ⟨s, dr_sc me q (D.bl _) ⟨_, rfl, p⟩⟩)
theorem wt_eqS {P : Bool → Prop} (h : WE X c a (fun x => WE X c b (fun y => ∃ i j, x = .str i ∧ y = .str j ∧ P (decide (i = j))))) : WT X c (.Compare a [.Eq] [b] pos) P :=
  wt_eqV (h.mono fun _ h => h.mono fun _ ⟨i, j, e1, e2, p⟩ => ⟨.str i, .str j, by rw [e1]; rfl, by rw [e2]; rfl, rfl, by
    have : decide ((V.str i) = V.str j) = decide (i = j) := by rw [decide_eq_decide]; exact ⟨fun h => by injection h, fun h => by rw [h]⟩
    rw [this]; exact p⟩)
theorem wt_eqI {P : Bool → Prop} (h : WE X c a (fun x => WE X c b (fun y => ∃ i j, x = .int i ∧ y = .int j ∧ P (decide (i = j))))) : WT X c (.Compare a [.Eq] [b] pos) P :=
  wt_eqV (h.mono fun _ h => h.mono fun _ ⟨i, j, e1, e2, p⟩ => ⟨.int i, .int j, by rw [e1]; rfl, by rw [e2]; rfl, rfl, by
    have : decide ((V.int i) = V.int j) = decide (i = j) := by rw [decide_eq_decide]; exact ⟨fun h => by injection h, fun h => by rw [h]⟩
    rw [this]; exact p⟩)
theorem wt_eqB {P : Bool → Prop} (h : WE X c a (fun x => WE X c b (fun y => ∃ i j, x = .bl i ∧ y = .bl j ∧ P (decide (i = j))))) : WT X c (.Compare a [.Eq] [b] pos) P :=
  wt_eqV (h.mono fun _ h => h.mono fun _ ⟨i, j, e1, e2, p⟩ => ⟨.bl i, .bl j, by rw [e1]; rfl, by rw [e2]; rfl, rfl, by
    have : decide ((V.bl i) = V.bl j) = decide (i = j) := by rw [decide_eq_decide]; exact ⟨fun h => by injection h, fun h => by rw [h]⟩
    rw [this]; exact p⟩)
theorem wt_neV {P : Bool → Prop} (h : WE X c a (fun x => WE X c b (fun y => ∃ v u, x.v = some v ∧ y.v = some u ∧ scal v u = true ∧ P (!decide (v = u))))) : WT X c (.Compare a [.NotEq] [b] pos) P :=
  wt_bin (fun _ _ ha hb => pt_cmpR op_ne ha hb (nomark _)) (h.mono fun _ h => h.mono fun _ h => fun H v u Q me dx dy q => by
    obtain ⟨i, j, e1, e2, s, p⟩ := h
    rw [D.of_v e1 dx, D.of_v e2 dy]
    exact ⟨s, dr_sc me q (D.bl _) ⟨_, rfl, p⟩⟩)
theorem wt_neS {P : Bool → Prop} (h : WE X c a (fun x => WE X c b (fun y => ∃ i j, x = .str i ∧ y = .str j ∧ P (!decide (i = j))))) : WT X c (.Compare a [.NotEq] [b] pos) P :=
  wt_neV (h.mono fun _ h => h.mono fun _ ⟨i, j, e1, e2, p⟩ => ⟨.str i, .str j, by rw [e1]; rfl, by rw [e2]; rfl, rfl, by
    have : decide ((V.str i) = V.str j) = decide (i = j) := by rw [decide_eq_decide]; exact ⟨fun h => by injection h, fun h => by rw [h]⟩
    rw [this]; exact p⟩)
theorem wt_neI {P : Bool → Prop} (h : WE X c a (fun x => WE X c b (fun y => ∃ i j, x = .int i ∧ y = .int j ∧ P (!decide (i = j))))) : WT X c (.Compare a [.NotEq] [b] pos) P :=
  wt_neV (h.mono fun _ h => h.mono fun _ ⟨i, j, e1, e2, p⟩ => ⟨.int i, .int j, by rw [e1]; rfl, by rw [e2]; rfl, rfl, by
    have : decide ((V.int i) = V.int j) = decide (i = j) := by rw [decide_eq_decide]; exact ⟨fun h => by injection h, fun h => by rw [h]⟩
    rw [this]; exact p⟩)
theorem wt_neB {P : Bool → Prop} (h : WE X c a (fun x => WE X c b (fun y => ∃ i j, x = .bl i ∧ y = .bl j ∧ P (!decide (i = j))))) : WT X c (.Compare a [.NotEq] [b] pos) P :=
  wt_neV (h.mono fun _ h => h.mono fun _ ⟨i, j, e1, e2, p⟩ => ⟨.bl i, .bl j, by rw [e1]; rfl, by rw [e2]; rfl, rfl, by
    have : decide ((V.bl i) = V.bl j) = decide (i = j) := by rw [decide_eq_decide]; exact ⟨fun h => by injection h, fun h => by rw [h]⟩
    rw [this]; exact p⟩)
theorem wt_isN {P : Bool → Prop} {j pos'} (h : WE X c a (fun x => P x.isN)) : WT X c (.Compare a [.Is] [.Constant .none j pos'] pos) P := fun σ H Q ev me q => by
  refine ⟨_, pt_cmp (pc_isN E_pe) rfl, ?_⟩
  refine h σ H _ ev me fun v x H1 dx hx k1 m1 => ?_
  have e := D.isN dx
  rw [e]
  exact ⟨_, rfl, q _ _ hx k1 m1⟩
theorem wt_inS {P : Bool → Prop} (h : WE X c a (fun x => WE X c b (fun y => ∃ (z : Str) (zs : List Str), x = .str z ∧ (y = .lst (zs.map W.str) ∨ y = .tup (zs.map W.str)) ∧ P (decide (z ∈ zs))))) (hm : behindInMarks .In b = false := by rfl) : WT X c (.Compare a [.In] [b] pos) P :=
  wt_bin (fun _ _ ha hb => pt_cmpR op_in_seq ha hb hm) (h.mono fun _ h => h.mono fun _ ⟨z, zs, e1, e2, p⟩ => dr_inStrs (neg := false) ⟨z, zs, e1, e2, _, rfl, p⟩)
theorem wt_notInS {P : Bool → Prop} (h : WE X c a (fun x => WE X c b (fun y => ∃ (z : Str) (zs : List Str), x = .str z ∧ (y = .lst (zs.map W.str) ∨ y = .tup (zs.map W.str)) ∧ P (!decide (z ∈ zs))))) (hm : behindInMarks .NotIn b = false := by rfl) : WT X c (.Compare a [.NotIn] [b] pos) P :=
  wt_bin (fun _ _ ha hb => pt_cmpR op_notIn_seq ha hb hm) (h.mono fun _ h => h.mono fun _ ⟨z, zs, e1, e2, p⟩ => dr_inStrs (neg := true) ⟨z, zs, e1, e2, _, rfl, p⟩)
theorem wt_inI {P : Bool → Prop} (h : WE X c a (fun x => WE X c b (fun y => ∃ (z : Int) (zs : List Int), x = .int z ∧ y = .lst (zs.map W.int) ∧ P (decide (z ∈ zs))))) (hm : behindInMarks .In b = false := by rfl) : WT X c (.Compare a [.In] [b] pos) P :=
  wt_bin (fun _ _ ha hb => pt_cmpR op_in_seq ha hb hm) (h.mono fun _ h => h.mono fun _ h => fun H v u Q me dx dy q => by
    obtain ⟨z, zs, rfl, rfl, p⟩ := h
    cases D.int_iff.mp dx
    rw [← inV_ints] at p
    obtain ⟨a, xs, rfl, _, ha, d⟩ := D.lst_iff.mp dy
    cases DA.ints_iff d
    exact ⟨a, _, rfl, .inl (.inl (Rd.of ha)), rfl, flat_ints zs, dr_sc me q (D.bl _) ⟨_, rfl, p⟩⟩)
/-- 1 <= x <= y -/
theorem wt_chainLe {P : Bool → Prop} {c1 : Expr} (h : WE X c a (fun x => WE X c b (fun y => ∃ i j, x = .int i ∧ y = .int j ∧ if i ≤ j then WE X c c1 (fun z => ∃ k, z = .int k ∧ P (decide (j ≤ k))) else P false)))
    (hm : lastMarks [CmpOp.LtE, .LtE] [b, c1] = false := by with_unfolding_all rfl) : WT X c (.Compare a [.LtE, .LtE] [b, c1] pos) P := fun σ H Q ev me q => by
  refine ⟨_, pt_chain op_le op_le E_pe E_pe E_pe hm, ?_⟩
  refine h σ H _ ev me fun v x H1 dx hx k1 m1 => ?_
  refine hx σ H1 _ (ev.kp k1) m1 fun u y H2 dy hy k2 m2 => ?_
  obtain ⟨i, j, rfl, rfl, p⟩ := hy
  cases D.int_iff.mp dx
  cases D.int_iff.mp dy
  refine ⟨i, j, rfl, rfl, _, rfl, ?_⟩
  by_cases hij : i ≤ j
  · rw [if_pos hij] at p
    rw [if_pos (decide_eq_true hij)]
    refine p σ H2 _ (ev.kp (k1.trans k2)) m2 fun v z H3 dz hz k3 m3 => ?_
    obtain ⟨k, rfl, p⟩ := hz
    cases D.int_iff.mp dz
    exact ⟨j, k, rfl, rfl, _, rfl, q _ _ p (k1.trans (k2.trans k3)) m3⟩
  · rw [if_neg hij] at p
    rw [if_neg (by simpa using hij)]
    exact ⟨_, rfl, q _ _ p (k1.trans k2) m2⟩
/-! builtins -/
theorem wa_one (h : WE X c a (fun x => DRA c r [x] P)) (hs : starEach [a] X.env = (false, eval a X.env) :: starEach [] X.env := by rfl) : WAs X c [a] (fun ws => DRA c r ws P) := wa_cons (h.mono fun _ h => wa_nil h) hs
theorem DA.one {H : Hp} {ex : List Addr} {x : W} {vs : List V} (d : DA H ex [x] vs) : ∃ v, vs = [v] ∧ D H ex x v := by
  obtain ⟨v, r, rfl, d, q⟩ := DA.cons_iff.mp d
  rw [DA.nil_iff.mp q]
  exact ⟨v, rfl, d⟩
theorem DA.two {H : Hp} {ex : List Addr} {x y : W} {vs : List V} (d : DA H ex [x, y] vs) : ∃ v u, vs = [v, u] ∧ D H ex x v ∧ D H ex y u := by
  obtain ⟨v, r, rfl, d1, q⟩ := DA.cons_iff.mp d
  obtain ⟨u, rfl, d2⟩ := DA.one q
  exact ⟨v, u, rfl, d1, d2⟩
variable {p : Pos}
theorem we_blt {id : String} {x : Str} {r : List V → Hp → VK → Prop} (hc : CallR X (.builtin id) r) (hg : Gl X x) (hm : X.mg x = none) (hv : bootBuiltins x = some (.builtin id)) (h : WE X c a (fun x => DRA c r [x] P)) (hn : x ≠ "__name__" := by decide) (hdb : (x == ("__debug__" : Str)) = false := by decide)
    (he : starEach [a] X.env = (false, eval a X.env) :: starEach [] X.env := by rfl) (hpl : (backTo pos (starEach [] X.env)).any (·.1) = false := by rfl) : WE X c (.Call (.Name x p) [a] [] pos) P :=
  we_args (fun _ ha => pe_callB hc hg hm hv ha hn hdb he hpl) (wa_one h he)
theorem we_bty {id : String} {x : Str} {r : List V → Hp → VK → Prop} (hc : CallR X (.type id) r) (hg : Gl X x) (hm : X.mg x = none) (hv : bootBuiltins x = some (.type id)) (h : WE X c a (fun x => DRA c r [x] P)) (hn : x ≠ "__name__" := by decide) (hdb : (x == ("__debug__" : Str)) = false := by decide)
    (he : starEach [a] X.env = (false, eval a X.env) :: starEach [] X.env := by rfl) (hpl : (backTo pos (starEach [] X.env)).any (·.1) = false := by rfl) : WE X c (.Call (.Name x p) [a] [] pos) P :=
  we_args (fun _ ha => pe_callTy hc hg hm hv ha hn hdb he hpl) (wa_one h he)
theorem we_lenQ (hg : Gl X "len") (hm : X.mg "len" = none) (h : WE X c a (fun x => ∃ ws, (x = .lst ws ∨ x = .tup ws) ∧ P (.int ws.length)))
    (he : starEach [a] X.env = (false, eval a X.env) :: starEach [] X.env := by rfl) : WE X c (.Call (.Name "len" p) [a] [] pos) P :=
  we_blt call_len_seq hg hm (by decide +kernel) (h.mono fun x h H vs Q me d q => by
    obtain ⟨v, rfl, dd⟩ := d.one
    obtain ⟨ws, hx, p⟩ := h
    rcases hx with rfl | rfl
    · obtain ⟨a, xs, rfl, _, ha, de⟩ := D.lst_iff.mp dd
      exact ⟨a, xs, rfl, .inl (.inl (Rd.of ha)), by rw [de.len]; exact dr_sc me q (D.int _) p⟩
    · obtain ⟨a, xs, rfl, _, ha, de⟩ := D.tup_iff.mp dd
      exact ⟨a, xs, rfl, .inr (.inl (Rd.of ha)), by rw [de.len]; exact dr_sc me q (D.int _) p⟩) (he := he)
theorem we_lenS (hg : Gl X "len") (hm : X.mg "len" = none) (h : WE X c a (fun x => ∃ z, x = .str z ∧ z.length ≤ sizeLine ∧ P (.int z.length)))
    (he : starEach [a] X.env = (false, eval a X.env) :: starEach [] X.env := by rfl) : WE X c (.Call (.Name "len" p) [a] [] pos) P :=
  we_blt call_len_str hg hm (by decide +kernel) (h.mono fun x h H vs Q me d q => by
    obtain ⟨v, rfl, dd⟩ := d.one
    obtain ⟨z, rfl, hz, p⟩ := h
    exact ⟨z, by rw [D.str_iff.mp dd], hz, dr_sc me q (D.int _) p⟩) (he := he)
theorem we_all (hc : X.calm = true) (hg : Gl X "all") (hm : X.mg "all" = none) (h : WE X c a (fun x => ∃ bs : List Bool, x = .lst (bs.map W.bl) ∧ P (.bl (bs.all id))))
    (he : starEach [a] X.env = (false, eval a X.env) :: starEach [] X.env := by rfl) : WE X c (.Call (.Name "all" p) [a] [] pos) P :=
  we_blt (cr_all hc) hg hm (by decide +kernel) (h.mono fun x h H vs Q me d q => by
    obtain ⟨v, rfl, dd⟩ := d.one
    obtain ⟨bs, rfl, p⟩ := h
    obtain ⟨a, xs, rfl, _, ha, de⟩ := D.lst_iff.mp dd
    cases DA.bls_iff de
    exact ⟨a, bs, rfl, .inl (Rd.of ha), dr_sc me q (D.bl _) p⟩) (he := he)
theorem we_tupleOf (hg : Gl X "tuple") (hm : X.mg "tuple" = none) (h : WE X c a (fun x => ∃ ws, (x = .lst ws ∨ x = .tup ws) ∧ P (.tup ws)))
    (he : starEach [a] X.env = (false, eval a X.env) :: starEach [] X.env := by rfl) : WE X c (.Call (.Name "tuple" p) [a] [] pos) P :=
  we_bty call_tuple_of hg hm (by decide +kernel) (h.mono fun x h H vs Q me d q => by
    obtain ⟨v, rfl, dd⟩ := d.one
    obtain ⟨ws, hx, p⟩ := h
    rcases hx with rfl | rfl
    · obtain ⟨a, xs, rfl, _, ha, de⟩ := D.lst_iff.mp dd
      exact ⟨a, xs, rfl, .inl ⟨.inl (Rd.of ha), fun l hl => new_af me hl q (D.newT hl (me.fresh hl) de) p⟩⟩
    · obtain ⟨a, xs, e, h1, ha, d'⟩ := D.tup_iff.mp dd
      subst e
      exact ⟨a, xs, rfl, .inr ⟨.inl (Rd.of ha), dr_sc me q dd p⟩⟩) (he := he)
theorem we_listOf (hg : Gl X "list") (hm : X.mg "list" = none) (h : WE X c a (fun x => ∃ ws, (x = .lst ws ∨ x = .tup ws) ∧ P (.lst ws)))
    (he : starEach [a] X.env = (false, eval a X.env) :: starEach [] X.env := by rfl) : WE X c (.Call (.Name "list" p) [a] [] pos) P :=
  we_bty call_list_of hg hm (by decide +kernel) (h.mono fun x h H vs Q me d q => by
    obtain ⟨v, rfl, dd⟩ := d.one
    obtain ⟨ws, hx, p⟩ := h
    rcases hx with rfl | rfl
    · obtain ⟨a, xs, rfl, _, ha, de⟩ := D.lst_iff.mp dd
      exact ⟨a, xs, rfl, .inl (.inl (Rd.of ha)), fun l hl => new_af me hl q (D.newL hl (me.fresh hl) de) p⟩
    · obtain ⟨a, xs, rfl, _, ha, de⟩ := D.tup_iff.mp dd
      exact ⟨a, xs, rfl, .inr (.inl (Rd.of ha)), fun l hl => new_af me hl q (D.newL hl (me.fresh hl) de) p⟩) (he := he)
/-- sorted(list of texts) -/
theorem we_sortedS (hg : Gl X "sorted") (hm : X.mg "sorted" = none) (h : WE X c a (fun x => ∃ zs : List Str, x = .lst (zs.map W.str) ∧ zs.length < 64 ∧ ∀ ys : List Str, ys.Perm zs → sortedS ys = true → P (.lst (ys.map W.str))))
    (he : starEach [a] X.env = (false, eval a X.env) :: starEach [] X.env := by rfl) : WE X c (.Call (.Name "sorted" p) [a] [] pos) P :=
  we_blt cr_sortedS hg hm (by decide +kernel) (h.mono fun x h H vs Q me d q => by
    obtain ⟨v, rfl, dd⟩ := d.one
    obtain ⟨zs, rfl, hl, p⟩ := h
    obtain ⟨a, xs, rfl, _, ha, de⟩ := D.lst_iff.mp dd
    cases DA.strs_iff de
    exact ⟨a, zs, rfl, .inl (Rd.of ha), hl, fun ys l h1 h2 hl => new_af me hl q (D.newL hl (me.fresh hl) (DA.strs ys)) (p ys h1 h2)⟩) (he := he)
theorem we_strS (hg : Gl X "str") (hm : X.mg "str" = none) (h : WE X c a (fun x => ∃ z, x = .str z ∧ P (.str z)))
    (he : starEach [a] X.env = (false, eval a X.env) :: starEach [] X.env := by rfl) : WE X c (.Call (.Name "str" p) [a] [] pos) P :=
  we_bty SkE.call_str_str hg hm (by decide +kernel) (h.mono fun x h H vs Q me d q => by
    obtain ⟨v, rfl, dd⟩ := d.one
    obtain ⟨z, rfl, p⟩ := h
    exact ⟨z, by rw [D.str_iff.mp dd], dr_sc me q (D.str _) p⟩) (he := he)
theorem we_intI (hg : Gl X "int") (hm : X.mg "int" = none) (h : WE X c a (fun x => ∃ z, x = .int z ∧ P (.int z)))
    (he : starEach [a] X.env = (false, eval a X.env) :: starEach [] X.env := by rfl) : WE X c (.Call (.Name "int" p) [a] [] pos) P :=
  we_bty call_int1 hg hm (by decide +kernel) (h.mono fun x h H vs Q me d q => by
    obtain ⟨v, rfl, dd⟩ := d.one
    obtain ⟨z, rfl, p⟩ := h
    exact .inl ⟨z, by rw [D.int_iff.mp dd], dr_sc me q (D.int _) p⟩) (he := he)
theorem we_min2 (hc : X.calm = true) (hg : Gl X "min") (hm : X.mg "min" = none) (h : WE X c a (fun x => WE X c b (fun y => ∃ i j, x = .int i ∧ y = .int j ∧ P (.int (if j < i then j else i)))))
    (he : starEach [a, b] X.env = (false, eval a X.env) :: starEach [b] X.env := by rfl) (he2 : starEach [b] X.env = (false, eval b X.env) :: starEach [] X.env := by rfl) (hpl : (backTo pos (starEach [b] X.env)).any (·.1) = false := by rfl) : WE X c (.Call (.Name "min" p) [a, b] [] pos) P :=
  we_args (fun _ ha => pe_callB (call_min2 hc) hg hm (by decide +kernel) ha (by decide) (by decide) he hpl) (wa_cons (h.mono fun _ h => wa_cons (h.mono fun _ h => wa_nil fun H vs Q me d q => by
    obtain ⟨v, u, rfl, d1, d2⟩ := d.two
    obtain ⟨i, j, rfl, rfl, p⟩ := h
    exact ⟨i, j, by rw [D.int_iff.mp d1, D.int_iff.mp d2], dr_sc me q (D.int _) p⟩) he2) he)
/-! isinstance -/
/-- the type of a datum that is no instance -/
def W.ty : W → String
  | .non => "NoneType" | .bl _ => "bool" | .int _ => "int" | .str _ => "str" | .lst _ => "list" | .tup _ => "tuple" | .tpx _ => "" | .dic _ => "dict" | .ins _ _ => ""
def W.pl : W → Bool
  | .ins _ _ => false | .tpx _ => false | _ => true
theorem D.tyOf {H : Hp} {ex : List Addr} {K : PySem.W.Frag} : ∀ {w : W} {v : V}, w.pl = true → D H ex w v → TyOf K H v (.type w.ty)
  | .non, _, _, d => by cases D.non_iff.mp d; exact .non
  | .bl b, _, _, d => by cases D.bl_iff.mp d; exact .bl b
  | .int b, _, _, d => by cases D.int_iff.mp d; exact .int b
  | .str b, _, _, d => by cases D.str_iff.mp d; exact .str b
  | .lst _, _, _, d => by obtain ⟨a, xs, rfl, _, ha, _⟩ := D.lst_iff.mp d; exact .lst ha
  | .tup _, _, _, d => by obtain ⟨a, xs, rfl, _, ha, _⟩ := D.tup_iff.mp d; exact .tup ha
  | .ins _ _, _, h, _ => by cases h
  | .tpx _, _, h, _ => by cases h
  | .dic _, _, _, d => by obtain ⟨a, xs, rfl, _, ha, _⟩ := D.dic_iff.mp d; exact .dK ha
theorem W.ty_in {w : W} (h : w.pl = true) : w.ty ∈ ["NoneType", "bool", "int", "str", "list", "tuple", "dict"] := by
  cases w with
  | ins _ _ => cases h
  | tpx _ => cases h
  | _ => simp [W.ty]
def isiB (t T : String) : Bool := t == T || (t == "bool" && T == "int")
theorem kit_isi {K : PySem.W.Frag} {T : String} (hT : T ∈ ["str", "int", "bool", "list", "tuple"]) {t : String} (ht : t ∈ ["NoneType", "bool", "int", "str", "list", "tuple", "dict"]) : PySem.W.kitOne K (.type t) (.type T) = some (isiB t T) :=
  kit_ty (by
    have : ∀ T ∈ ["str", "int", "bool", "list", "tuple"], ∀ t ∈ ["NoneType", "bool", "int", "str", "list", "tuple", "dict"], kitB t T = some (isiB t T) := by decide +kernel
    exact this T hT t ht)
theorem we_isi {x : Str} {T : String} {p2 : Pos} (hg : Gl X "isinstance") (hm : X.mg "isinstance" = none) (hgT : Gl X x) (hmT : X.mg x = none) (hv : bootBuiltins x = some (.type T)) (hT : T ∈ ["str", "int", "bool", "list", "tuple"])
    (h : WE X c a (fun x => x.pl = true ∧ P (.bl (isiB x.ty T))))
    (hn : x ≠ "__name__" := by decide) (hdb : (x == ("__debug__" : Str)) = false := by decide) (he : starEach [a, .Name x p2] X.env = (false, eval a X.env) :: starEach [.Name x p2] X.env := by rfl) (hpl : (backTo pos (starEach [.Name x p2] X.env)).any (·.1) = false := by rfl) : WE X c (.Call (.Name "isinstance" p) [a, .Name x p2] [] pos) P := fun σ H Q ev me q => by
  refine ⟨_, pe_callB call_isi hg hm (by decide +kernel) (pa_cons E_pe (pa_cons (pe_bltn (v := .ty T) hgT hmT hv rfl hn hdb) pa_nil) he) (by decide) (by decide) he hpl, ?_⟩
  refine h σ H _ ev me fun v w H1 d p k1 m1 => ?_
  refine ⟨v, .ty T, .type w.ty, .type T, _, rfl, .ty T, .base (D.tyOf p.1 d), kit_isi hT (W.ty_in p.1), q _ _ H1 (D.bl _) p.2 k1 m1⟩
theorem we_isiLT {p2 p3 p4 : Pos} {k : Nat} (hg : Gl X "isinstance") (hm : X.mg "isinstance" = none) (hg1 : Gl X "list") (hm1 : X.mg "list" = none) (hg2 : Gl X "tuple") (hm2 : X.mg "tuple" = none)
    (h : WE X c a (fun x => x.pl = true ∧ P (.bl (x.ty == "list" || x.ty == "tuple"))))
    (he : starEach [a, .Tuple [.Name "list" p2, .Name "tuple" p3] k p4] X.env = (false, eval a X.env) :: starEach [.Tuple [.Name "list" p2, .Name "tuple" p3] k p4] X.env := by rfl) (hpl : (backTo pos (starEach [.Tuple [.Name "list" p2, .Name "tuple" p3] k p4] X.env)).any (·.1) = false := by rfl) : WE X c (.Call (.Name "isinstance" p) [a, .Tuple [.Name "list" p2, .Name "tuple" p3] k p4] [] pos) P := fun σ H Q ev me q => by
  refine ⟨_, pe_callB call_isiT hg hm (by decide +kernel) (pa_cons E_pe (pa_cons (pe_tup (pa_cons (pe_bltn (v := .ty "list") hg1 hm1 (by decide +kernel) rfl) (pa_cons (pe_bltn (v := .ty "tuple") hg2 hm2 (by decide +kernel) rfl) pa_nil))) pa_nil) he) (by decide) (by decide) he hpl, ?_⟩
  refine h σ H _ ev me fun v w H1 d p k1 m1 => ?_
  refine ⟨by show 2 ≤ sizeLine; decide, fun tp htp => ?_⟩
  have g := Gro.upd (o := .tup [V.ty "list", V.ty "tuple"]) htp
  refine ⟨v, tp, _, .type w.ty, [.type "list", .type "tuple"], _, rfl, upd_same, .cons (.ty _) (.cons (.ty _) .nil), .base (D.tyOf p.1 (D.to (g.kp c.xs) w v d)), ?_, q _ (.bl (w.ty == "list" || w.ty == "tuple")) _ (D.bl _) p.2 (k1.trans (g.kp _)) (m1.gro g)⟩
  have h1 := kit_isi (K := X.K) (T := "list") (by decide) (W.ty_in p.1)
  have h2 := kit_isi (K := X.K) (T := "tuple") (by decide) (W.ty_in p.1)
  have e1 : isiB w.ty "list" = (w.ty == "list") := by unfold isiB; rw [show (("list" : String) == "int") = false from by decide]; simp
  have e2 : isiB w.ty "tuple" = (w.ty == "tuple") := by unfold isiB; rw [show (("tuple" : String) == "int") = false from by decide]; simp
  rw [e1] at h1
  rw [e2] at h2
  refine kitAny_cons h1 (fun e => ?_) (fun e => by rw [e]; rfl)
  refine kitAny_cons h2 (fun e' => ?_) (fun e' => by rw [e, e']; rfl)
  rw [e, e']
  rfl
end
end K11
/-! KD4 -/
namespace K11
open PySem PySem.Spec PyProof.Rows L2
theorem Mem.rho {c : Cn} {H : Hp} (m : Mem c H) (ρ' : List (Option Th)) : Mem { c with ρ := ρ' } H := ⟨m.mu, m.st, m.nd, m.ex, m.tb⟩
theorem Mem.unrho {c : Cn} {H : Hp} {ρ' : List (Option Th)} (m : Mem { c with ρ := ρ' } H) : Mem c H := ⟨m.mu, m.st, m.nd, m.ex, m.tb⟩
section
variable {X : Cx} {c : Cn} {P : W → Prop} {e a b : Expr} {es : List Expr} {pos p : Pos}
/-! targets -/
theorem wg_name (i : Nat) {x : Str} {w : W} {js : List Nat} {N : List (Option Th) → Prop} (hN : X.N.Nodup) (hi : X.N[i]? = some x) (hx : Loc X.env.scope x) (hf : X.fn x = true ∨ X.env.scope.names.lookup x = some .local) (hj : i ∈ js) (h : N (c.ρ.set i (some (.dat w)))) : WG X c (.Name x pos) w js N := fun σ H v Q ev me d q => by
  refine ⟨_, pg_name hN hi hx hf, q _ _ h ?_ ⟨by simp, fun k hk => ?_⟩⟩
  · refine ⟨by simp [ev.1], fun k th g => ?_⟩
    by_cases e : k = i
    · subst e
      have hlt : k < c.ρ.length := by
        by_cases q : k < c.ρ.length
        · exact q
        · rw [List.getElem?_eq_none (by simp; omega)] at g; cases g
      rw [List.getElem?_set_self hlt] at g
      cases g
      exact ⟨v, by rw [List.getElem?_set_self (by rw [ev.1]; exact hlt)], d⟩
    · rw [List.getElem?_set_ne (Ne.symm e)] at g
      obtain ⟨u, a, b⟩ := ev.2 k th g
      exact ⟨u, by rw [List.getElem?_set_ne (Ne.symm e)]; exact a, b⟩
  · exact List.getElem?_set_ne (fun z => hk (by rw [← z]; exact hj))
theorem wgs_nil {js : List Nat} {N : List (Option Th) → Prop} (h : N c.ρ) : WGs X c [] [] js N := fun σ H vs Q ev me d q => by
  refine ⟨_, pgs_nil, DA.nil_iff.mp d, q _ _ h ev ⟨rfl, fun _ _ => rfl⟩⟩
theorem wgs_cons {w : W} {ws : List W} {js : List Nat} {N : List (Option Th) → Prop} (h : WG X c a w js (fun ρ => WGs X { c with ρ := ρ } es ws js N))
    (he : (assignEach (a :: es) X.env).map (·.2) = assign a X.env :: (assignEach es X.env).map (·.2) := by rfl) : WGs X c (a :: es) (w :: ws) js N := fun σ H vs Q ev me d q => by
  obtain ⟨v, r, rfl, d1, d2⟩ := DA.cons_iff.mp d
  refine ⟨_, pgs_cons E_pg E_pgs he, v, r, rfl, ?_⟩
  refine h σ H v _ ev me d1 fun ρ σ' hn ev' ag => ?_
  exact hn σ' H r Q ev' (me.rho _) d2 fun ρ2 σ2 h2 ev2 ag2 => q ρ2 σ2 h2 ev2 ⟨ag2.1.trans ag.1, fun k hk => (ag2.2 k hk).trans (ag.2 k hk)⟩
theorem wg_tup {w : W} {js : List Nat} {N : List (Option Th) → Prop} {k n : Nat} (hc : X.calm = true) (h : ∃ ws, w = .tup ws ∧ ws.length = n ∧ WGs X c es ws js N)
    (hn : (assignEach es X.env).length = n := by rfl) (hst : (assignEach es X.env).findIdx? (·.1) = none := by rfl) : WG X c (.Tuple es k pos) w js N := fun σ H v Q ev me d q => by
  obtain ⟨ws, rfl, hl, h⟩ := h
  obtain ⟨a, xs, rfl, _, ha, dd⟩ := D.tup_iff.mp d
  exact ⟨_, pg_tup hc E_pgs hn hst, a, xs, rfl, .inl (Rd.of ha), by rw [dd.len]; exact hl, h σ H xs Q ev me dd q⟩
theorem wg_lst {w : W} {js : List Nat} {N : List (Option Th) → Prop} {k n : Nat} (hc : X.calm = true) (h : ∃ ws, w = .tup ws ∧ ws.length = n ∧ WGs X c es ws js N)
    (hn : (assignEach es X.env).length = n := by rfl) (hst : (assignEach es X.env).findIdx? (·.1) = none := by rfl) : WG X c (.Tuple es k pos) w js N := wg_tup hc h hn hst
/-! subscripts -/
theorem dr_ixL {x y : W} (h : ∃ ws i w, x = .lst ws ∧ y = .int i ∧ atI ws i = some w ∧ P w) : DR2 c (rIxL X.K) x y P := fun H v u Q me dx dy q => by
  obtain ⟨ws, i, w, rfl, rfl, hi, p⟩ := h
  obtain ⟨a, xs, rfl, _, ha, dd⟩ := D.lst_iff.mp dx
  cases D.int_iff.mp dy
  have hj : ∃ j, ixN ws.length i = some j ∧ ws[j]? = some w := by
    unfold atI at hi
    cases e : ixN ws.length i with
    | none => rw [e] at hi; cases hi
    | some j => rw [e] at hi; exact ⟨j, rfl, hi⟩
  obtain ⟨j, j1, j2⟩ := hj
  obtain ⟨v, v1, v2⟩ := dd.get j2
  exact ⟨a, xs, i, v, rfl, rfl, .inl (Rd.of ha), by unfold atI; rw [dd.len, j1]; exact v1, dr_sc me q v2 p⟩
theorem dr_ixT {x y : W} (h : ∃ ws i w, x = .tup ws ∧ y = .int i ∧ atI ws i = some w ∧ P w) : DR2 c (rIxT X.K) x y P := fun H v u Q me dx dy q => by
  obtain ⟨ws, i, w, rfl, rfl, hi, p⟩ := h
  obtain ⟨a, xs, rfl, _, ha, dd⟩ := D.tup_iff.mp dx
  cases D.int_iff.mp dy
  have hj : ∃ j, ixN ws.length i = some j ∧ ws[j]? = some w := by
    unfold atI at hi
    cases e : ixN ws.length i with
    | none => rw [e] at hi; cases hi
    | some j => rw [e] at hi; exact ⟨j, rfl, hi⟩
  obtain ⟨j, j1, j2⟩ := hj
  obtain ⟨v, v1, v2⟩ := dd.get j2
  exact ⟨a, xs, i, v, rfl, rfl, .inl (Rd.of ha), by unfold atI; rw [dd.len, j1]; exact v1, dr_sc me q v2 p⟩
theorem we_ixL (h : WE X c a (fun x => WE X c b (fun y => ∃ ws i w, x = .lst ws ∧ y = .int i ∧ atI ws i = some w ∧ P w))) (hs : PlainIx b := by exact fun _ _ => rfl) : WE X c (.Subscript a b pos) P :=
  we_bin (fun _ _ ha hb => pe_ix ix_list ha hb hs) (h.mono fun _ h => h.mono fun _ h => dr_ixL h)
theorem we_ixT (h : WE X c a (fun x => WE X c b (fun y => ∃ ws i w, x = .tup ws ∧ y = .int i ∧ atI ws i = some w ∧ P w))) (hs : PlainIx b := by exact fun _ _ => rfl) : WE X c (.Subscript a b pos) P :=
  we_bin (fun _ _ ha hb => pe_ix ix_tup ha hb hs) (h.mono fun _ h => h.mono fun _ h => dr_ixT h)
theorem we_ixS (h : WE X c a (fun x => WE X c b (fun y => ∃ z i k, x = .str z ∧ y = .int i ∧ z.length ≤ sizeLine ∧ atI z.cps.toList i = some k ∧ P (.str ⟨#[k]⟩)))) (hs : PlainIx b := by exact fun _ _ => rfl) : WE X c (.Subscript a b pos) P :=
  we_bin (fun _ _ ha hb => pe_ix ix_str ha hb hs) (h.mono fun _ h => h.mono fun _ h => fun H v u Q me dx dy q => by
    obtain ⟨z, i, k, rfl, rfl, hz, hk, p⟩ := h
    exact ⟨z, i, k, D.str_iff.mp dx, D.int_iff.mp dy, hz, hk, dr_sc me q (D.str _) p⟩)
/-! slices -/
def WO (X : Cx) (c : Cn) (e : Option Expr) (P : Option Int → Prop) : Prop := ∀ σ H (Q : Option Int → Hp → Prop), EnvOk c σ H → Mem c H → (∀ o H', P o → Kp c.ms H c.ms H' → Mem c H' → Q o H') → ∃ t, PO X e t ∧ t σ H Q
def EO (X : Cx) (e : Option Expr) : TO := fun σ H Q => ∃ t, PO X e t ∧ t σ H Q
theorem E_po {e : Option Expr} : PO X e (EO X e) := ⟨fun pins s σ H Q I ⟨t, h, q⟩ => h.run pins s σ H Q I q⟩
theorem WO.mono {e : Option Expr} {P P' : Option Int → Prop} (h : WO X c e P) (k : ∀ o, P o → P' o) : WO X c e P' := fun σ H Q ev me q => h σ H Q ev me fun o H' p kp m => q o H' (k o p) kp m
theorem wo_none {P : Option Int → Prop} (p : P none) : WO X c none P := fun σ H Q ev me q => ⟨_, po_none, q none H p Kp.refl me⟩
theorem wo_some {P : Option Int → Prop} (h : WE X c e (fun w => ∃ i, w = .int i ∧ P (some i))) : WO X c (some e) P := fun σ H Q ev me q => by
  refine ⟨_, po_some E_pe, ?_⟩
  refine h σ H _ ev me fun v w H' d p k m => ?_
  obtain ⟨i, rfl, p⟩ := p
  exact ⟨i, D.int_iff.mp d, q _ H' p k m⟩
def cutL {α : Type} (ws : List α) (lo hi : Option Int) : List α := (ws.drop (HT.sIx ws.length 0 lo)).take (HT.sIx ws.length ws.length hi - HT.sIx ws.length 0 lo)
theorem cutL_cutV (xs : List V) (lo hi : Option Int) : cutV xs lo hi = cutL xs lo hi := rfl
theorem DA.cut {H : Hp} {ex : List Addr} {ws : List W} {xs : List V} (d : DA H ex ws xs) (lo hi : Option Int) : DA H ex (cutL ws lo hi) (cutV xs lo hi) := by
  unfold cutV cutL
  rw [d.len]
  exact (d.drop _).take _
theorem cutL_from {α : Type} (ws : List α) (k : Nat) : cutL ws (some (k : Int)) none = ws.drop k := by
  unfold cutL
  rw [HT.sIx_nat, HT.sIx_none]
  by_cases h : k ≤ ws.length
  · rw [Nat.min_eq_left h, List.take_of_length_le (by simp)]
  · rw [Nat.min_eq_right (by omega), List.drop_of_length_le (Nat.le_refl _), List.drop_of_length_le (by omega)]
    simp
theorem cutL_to {α : Type} (ws : List α) (k : Nat) : cutL ws none (some (k : Int)) = ws.take k := by
  unfold cutL
  rw [HT.sIx_nat, HT.sIx_none]
  simp
theorem cutL_both {α : Type} (ws : List α) (k n : Nat) (h : k + n ≤ ws.length) : cutL ws (some (k : Int)) (some ((k : Int) + (n : Int))) = (ws.drop k).take n := by
  unfold cutL
  rw [show ((k : Int) + (n : Int)) = ((k + n : Nat) : Int) from by omega, HT.sIx_nat, HT.sIx_nat, Nat.min_eq_left h, Nat.min_eq_left (by omega)]
  congr 1
  omega
theorem we_sl {r : V → Option Int → Option Int → Hp → VK → Prop} {lo hi : Option Expr} {p2 : Pos} (hr : SlR X r) (h : WE X c a (fun x => WO X c lo (fun l => WO X c hi (fun u => DR1 c (fun v H Q => r v l u H Q) x P)))) : WE X c (.Subscript a (.Slice lo hi none p2) pos) P := fun σ H Q ev me q => by
  refine ⟨_, pe_slice hr E_pe E_po E_po, ?_⟩
  refine h σ H _ ev me fun v x H1 dx hx k1 m1 => ?_
  refine hx σ H1 _ (ev.kp k1) m1 fun l H2 hl k2 m2 => ?_
  refine hl σ H2 _ (ev.kp (k1.trans k2)) m2 fun u H3 hu k3 m3 => ?_
  exact hu H3 v Q m3 (D.to ((k2.trans k3).xs rfl) x v dx) fun z w H' d p k m => q z w H' d p (k1.trans (k2.trans (k3.trans k))) m
theorem we_slL {lo hi : Option Expr} {p2 : Pos} (h : WE X c a (fun x => WO X c lo (fun l => WO X c hi (fun u => ∃ ws, x = .lst ws ∧ P (.lst (cutL ws l u)))))) : WE X c (.Subscript a (.Slice lo hi none p2) pos) P :=
  we_sl sl_list (h.mono fun x hx => hx.mono fun l hl => hl.mono fun u hu H v Q me d q => by
    obtain ⟨ws, rfl, p⟩ := hu
    obtain ⟨a, xs, rfl, _, ha, dd⟩ := D.lst_iff.mp d
    exact ⟨a, xs, rfl, .inl (Rd.of ha), fun p' hp => new_af me hp q (D.newL hp (me.fresh hp) (dd.cut l u)) p⟩)
theorem we_slT {lo hi : Option Expr} {p2 : Pos} (h : WE X c a (fun x => WO X c lo (fun l => WO X c hi (fun u => ∃ ws, x = .tup ws ∧ P (.tup (cutL ws l u)))))) : WE X c (.Subscript a (.Slice lo hi none p2) pos) P :=
  we_sl sl_tupA (h.mono fun x hx => hx.mono fun l hl => hl.mono fun u hu H v Q me d q => by
    obtain ⟨ws, rfl, p⟩ := hu
    obtain ⟨a, xs, e, hn, ha, dd⟩ := D.tup_iff.mp d
    subst e
    refine ⟨a, xs, rfl, .inl (Rd.of ha), fun hw => ?_, fun _ p' hp => new_af me hp q (D.newT hp (me.fresh hp) (dd.cut l u)) p⟩
    have e : cutL ws l u = ws := by
      unfold cutL
      rw [dd.len] at hw
      rw [hw.1, hw.2]
      simp
    rw [e] at p
    exact dr_sc me q d p)
theorem we_slS {lo hi : Option Expr} {p2 : Pos} (h : WE X c a (fun x => WO X c lo (fun l => WO X c hi (fun u => ∃ z, x = .str z ∧ z.length ≤ sizeLine ∧ P (.str ⟨(cutL z.cps.toList l u).toArray⟩))))) : WE X c (.Subscript a (.Slice lo hi none p2) pos) P :=
  we_sl sl_str (h.mono fun x hx => hx.mono fun l hl => hl.mono fun u hu H v Q me d q => by
    obtain ⟨z, rfl, hz, p⟩ := hu
    have e : cutS z l u = ⟨(cutL z.cps.toList l u).toArray⟩ := by
      unfold cutS cutL
      rw [Array.length_toList]
      rfl
    refine ⟨z, D.str_iff.mp d, hz, dr_sc me q (D.str _) ?_⟩
    rw [e]
    exact p)
/-! methods of texts -/
theorem we_m1 {id : String} {name : Str} {apos : Pos} {r : V → List V → Hp → VK → Prop} (hp : ∀ ta tb, PE X a ta → PE X b tb → PE X e (tM1 r ta tb)) (h : WE X c a (fun x => ∃ s, x = .str s ∧ WE X c b (fun y => DR1 c (fun v H Q => r (.str s) [v] H Q) y P))) : WE X c e P := fun σ H Q ev me q => by
  refine ⟨_, hp _ _ E_pe E_pe, ?_⟩
  refine h σ H _ ev me fun v x H1 dx hx k1 m1 => ?_
  obtain ⟨s, rfl, hx⟩ := hx
  cases D.str_iff.mp dx
  refine ⟨⟨s, rfl⟩, hx σ H1 _ (ev.kp k1) m1 fun u y H2 dy hy k2 m2 => ?_⟩
  exact hy H2 u Q m2 dy fun z w H' d p k m => q z w H' d p (k1.trans (k2.trans k)) m
theorem we_split {apos : Pos} (h : WE X c a (fun x => ∃ s, x = .str s ∧ WE X c b (fun y => ∃ z, y = .str z ∧ (z.length == 0) = false ∧ s.length + 2 ≤ sizeLine ∧ P (.lst ((Txt.split s z).map W.str)))))
    (hs : starEach [b] X.env = [(false, eval b X.env)] := by rfl) (hbase : attributeBase a "split" X.env (eval a X.env) = eval a X.env := by rfl) (hline : (apos.endLine == pos.line) = true := by rfl) : WE X c (.Call (.Attribute a "split" apos) [b] [] pos) P :=
  we_m1 (id := "") (name := "split") (apos := apos) (fun _ _ ha hb => pe_split ha hb hs hbase hline) (h.mono fun x ⟨s, e, h⟩ => ⟨s, e, h.mono fun y hy H v Q me d q => by
    obtain ⟨z, rfl, h1, h2, p⟩ := hy
    exact ⟨s, z, rfl, by rw [D.str_iff.mp d], h1, h2, fun p' hp => new_af me hp q (D.newL hp (me.fresh hp) (DA.strs _)) p⟩⟩)
theorem we_join {apos : Pos} (h : WE X c a (fun x => ∃ s, x = .str s ∧ WE X c b (fun y => ∃ zs : List Str, y = .lst (zs.map W.str) ∧ (zs.map (·.length)).sum + zs.length * s.length ≤ 16777216 ∧ P (.str (Txt.join s zs)))))
    (hs : starEach [b] X.env = [(false, eval b X.env)] := by rfl) (hbase : attributeBase a "join" X.env (eval a X.env) = eval a X.env := by rfl) (hline : (apos.endLine == pos.line) = true := by rfl) : WE X c (.Call (.Attribute a "join" apos) [b] [] pos) P :=
  we_m1 (id := "") (name := "join") (apos := apos) (fun _ _ ha hb => pe_join ha hb hs hbase hline) (h.mono fun x ⟨s, e, h⟩ => ⟨s, e, h.mono fun y hy H v Q me d q => by
    obtain ⟨zs, rfl, h1, p⟩ := hy
    obtain ⟨a, xs, rfl, _, ha, dd⟩ := D.lst_iff.mp d
    cases DA.strs_iff dd
    exact ⟨s, a, zs, rfl, rfl, .inl (.inl (Rd.of ha)), h1, dr_sc me q (D.str _) p⟩⟩)
/-! f'{line}\n' : two parts -/
theorem we_fstr2 {p1 p2 : Pos} {z : Str} {j} (h : WE X c a (fun x => ∃ s, x = .str s ∧ s.length + z.length ≤ sizeLine ∧ P (.str (s ++ z)))) : WE X c (.JoinedStr [.FormattedValue a (-1) none p1, .Constant (.str z) j p2] pos) P := fun σ H Q ev me q => by
  refine ⟨_, pe_joined (.cons (pe_fmt E_pe) (.cons pe_str .nil)), ?_⟩
  refine h σ H _ ev me fun v x H1 dx hx k1 m1 => ?_
  obtain ⟨s, rfl, hl, p⟩ := hx
  have e0 : (Str.empty ++ s) = s := TL.ext_tl (by rw [TL.tl_append]; rfl)
  have e1 : ∀ x y : Str, (x ++ y).length = x.length + y.length := fun x y => by rw [TL.len_tl, TL.len_tl, TL.len_tl, TL.tl_append, List.length_append]
  refine .inl ⟨s, D.str_iff.mp dx, by omega, s, rfl, by rw [e0]; omega, z, rfl, ?_, ?_⟩
  · rw [e0, e1]
    exact hl
  · rw [e0]
    exact q _ _ H1 (D.str _) p k1 m1
/-! fields -/
theorem we_fld {f : Str} (h : WE X c a (fun x => ∃ C fs w, x = .ins C fs ∧ fs.lookup f = some w ∧ Cls X.K C ∧ NoAttr X.K C f ∧ P w)) (hs : attributeBase a f X.env (eval a X.env) = eval a X.env := by rfl) : WE X c (.Attribute a f pos) P := fun σ H Q ev me q => by
  refine ⟨_, pe_fld E_pe hs, ?_⟩
  refine h σ H _ ev me fun v x H1 dx hx k1 m1 => ?_
  obtain ⟨C, fs, w, rfl, hl, hc, hn, p⟩ := hx
  obtain ⟨i, dx', xs, rfl, _, hi, df⟩ := D.ins_iff.mp dx
  obtain ⟨u, u1, u2⟩ := df.look hl
  exact ⟨i, C, dx', xs, u, rfl, hi, hc, hn, u1, q u w H1 u2 p k1 m1⟩
end
end K11
/-! KD5 -/
namespace K11
open PySem PySem.Spec PyProof.Rows L2
/-! ### what a for walks -/
def IterOk (J : It) (ds : List W) (ex : List Addr) (H : Hp) : Prop := ∀ ex' H', Kp ex H ex' H' → (∀ a ∈ ex', ∃ o, H' a = some o) → ∀ i, (ds.length ≤ i → J.stop i H') ∧ (∀ d, ds[i]? = some d → J.go i H' ∧ ∀ x H3, J.yld i H' x H3 → D H3 ex' d x ∧ Gro H' H3)
def WI (X : Cx) (c : Cn) (tg it : Expr) (P : List W → Prop) : Prop := ∀ σ H (R : It → Hp → Prop), EnvOk c σ H → Mem c H → (∀ J ds H', IterOk J ds c.xs H' → P ds → Kp c.ms H c.ms H' → Mem c H' → R J H') → EI X tg it σ H R
section
variable {X : Cx} {c : Cn} {P : List W → Prop} {tg a b : Expr} {es : List Expr} {pos p : Pos}
theorem WI.mono {it : Expr} {P' : List W → Prop} (h : WI X c tg it P) (k : ∀ w, P w → P' w) : WI X c tg it P' := fun σ H Q ev me q => h σ H Q ev me fun J ds H' j p kp m => q J ds H' j (k ds p) kp m
theorem wi_list (h : WE X c a (fun x => ∃ ds, x = .lst ds ∧ P ds)) : WI X c tg a P := fun σ H R ev me q => by
  refine ⟨_, pi_list E_pe, ?_⟩
  refine h σ H _ ev me fun v x H1 dx hx k1 m1 => ?_
  obtain ⟨ds, rfl, hp⟩ := hx
  obtain ⟨l, xs, rfl, hn, hl, dd⟩ := D.lst_iff.mp dx
  refine ⟨l, rfl, ⟨xs, .inl (Rd.of hl)⟩, q _ ds H1 (fun ex' H' kp ht i => ?_) hp k1 m1⟩
  obtain ⟨hn', hl'⟩ := kp l _ hn hl (fun _ z => by cases z)
  have dd' := DA.to kp ds xs dd
  refine ⟨fun hi => ⟨xs, .inl (Rd.of hl'), by rw [dd.len]; exact hi⟩, fun d hd => ?_⟩
  obtain ⟨v, v1, v2⟩ := dd'.get hd
  refine ⟨⟨xs, v, .inl (Rd.of hl'), v1⟩, fun x H3 y => ?_⟩
  obtain ⟨e, y⟩ := y
  subst e
  have := y xs (.inl (Rd.of hl'))
  rw [v1] at this
  cases this
  exact ⟨v2, Gro.refl⟩
theorem wi_tup (h : WE X c a (fun x => ∃ ds, x = .tup ds ∧ P ds)) : WI X c tg a P := fun σ H R ev me q => by
  refine ⟨_, pi_tup E_pe, ?_⟩
  refine h σ H _ ev me fun v x H1 dx hx k1 m1 => ?_
  obtain ⟨ds, rfl, hp⟩ := hx
  obtain ⟨l, xs, rfl, hn, hl, dd⟩ := D.tup_iff.mp dx
  refine ⟨l, rfl, ⟨xs, .inl (Rd.of hl)⟩, q _ ds H1 (fun ex' H' kp ht i => ?_) hp k1 m1⟩
  obtain ⟨hn', hl'⟩ := kp l _ hn hl (fun _ z => by cases z)
  have dd' := DA.to kp ds xs dd
  refine ⟨fun hi => ⟨xs, .inl (Rd.of hl'), by rw [dd.len]; exact hi⟩, fun d hd => ?_⟩
  obtain ⟨v, v1, v2⟩ := dd'.get hd
  refine ⟨⟨xs, v, .inl (Rd.of hl'), v1⟩, fun x H3 y => ?_⟩
  obtain ⟨e, y⟩ := y
  subst e
  have := y xs (.inl (Rd.of hl'))
  rw [v1] at this
  cases this
  exact ⟨v2, Gro.refl⟩
/-- the signs of a text -/
def signs (z : Str) : List W := z.cps.toList.map fun k => .str ⟨#[k]⟩
theorem wi_str (h : WE X c a (fun x => ∃ z, x = .str z ∧ P (signs z))) : WI X c tg a P := fun σ H R ev me q => by
  refine ⟨_, pi_str E_pe, ?_⟩
  refine h σ H _ ev me fun v x H1 dx hx k1 m1 => ?_
  obtain ⟨z, rfl, hp⟩ := hx
  refine ⟨z, D.str_iff.mp dx, q _ _ H1 (fun ex' H' kp ht i => ?_) hp k1 m1⟩
  have hl : (signs z).length = z.cps.size := by simp [signs]
  refine ⟨fun hi => by show z.cps.size ≤ i; rw [hl] at hi; exact hi, fun d hd => ?_⟩
  have hlt : i < z.cps.size := by
    by_cases q : i < z.cps.size
    · exact q
    · rw [List.getElem?_eq_none (by rw [hl]; omega)] at hd; cases hd
  refine ⟨hlt, fun x H3 y => ?_⟩
  obtain ⟨e, k, hk, rfl⟩ := y
  subst e
  have : (signs z)[i]? = some (.str ⟨#[k]⟩) := by
    unfold signs
    rw [List.getElem?_map, Array.getElem?_toList, hk]
    rfl
  rw [this] at hd
  cases hd
  exact ⟨D.str _, Gro.refl⟩
def rangeW (n : Nat) : List W := (List.range n).map fun (i : Nat) => W.int (i : Int)
theorem rangeW_len (n : Nat) : (rangeW n).length = n := by simp [rangeW]
theorem rangeW_get {n i : Nat} {d : W} (h : (rangeW n)[i]? = some d) : i < n ∧ d = .int (i : Int) := by
  have hlt : i < n := by
    by_cases q : i < n
    · exact q
    · rw [List.getElem?_eq_none (by rw [rangeW_len]; omega)] at h; cases h
  refine ⟨hlt, ?_⟩
  unfold rangeW at h
  rw [List.getElem?_map, List.getElem?_range hlt] at h
  cases h
  rfl
theorem wi_range (hg : Gl X "range") (hm : X.mg "range" = none) (h : WE X c a (fun x => ∃ n : Nat, x = .int (n : Int) ∧ n < 2 ^ 62 ∧ P (rangeW n))) (hs : starEach [a] X.env = [(false, eval a X.env)] := by rfl)
    (hs2 : starEach [a] X.env = (false, eval a X.env) :: starEach [] X.env := by rfl) : WI X c tg (.Call (.Name "range" p) [a] [] pos) P := fun σ H R ev me q => by
  refine ⟨_, pi_range1 hg hm (pa_cons E_pe pa_nil hs2) hs, ?_⟩
  refine h σ H _ ev me fun v x H1 dx hx k1 m1 => ?_
  obtain ⟨n, rfl, hn, hp⟩ := hx
  have e := D.int_iff.mp dx
  subst e
  refine ⟨(n : Int), rfl, by omega, by omega, q _ _ H1 (fun ex' H' kp ht i => ?_) hp k1 m1⟩
  refine ⟨fun hi => ?_, fun d hd => ?_⟩
  · show (n : Int).toNat ≤ i
    rw [rangeW_len] at hi
    omega
  · obtain ⟨hlt, rfl⟩ := rangeW_get hd
    refine ⟨by show i < (n : Int).toNat; omega, fun x H3 y => ?_⟩
    obtain ⟨e, y⟩ := y
    subst e y
    exact ⟨by rw [Int.zero_add]; exact D.int _, Gro.refl⟩
/-- the pairs of enumerate -/
def enumW (ds : List W) : List W := ds.mapIdx fun (i : Nat) d => W.tup [.int (i : Int), d]
theorem enumW_len (ds : List W) : (enumW ds).length = ds.length := by simp [enumW]
theorem enumW_get {ds : List W} {i : Nat} {d : W} (h : (enumW ds)[i]? = some d) : ∃ x, ds[i]? = some x ∧ d = .tup [.int (i : Int), x] := by
  unfold enumW at h
  rw [List.getElem?_mapIdx] at h
  cases e : ds[i]? with
  | none => rw [e] at h; cases h
  | some x => rw [e] at h; cases h; exact ⟨x, rfl, rfl⟩
theorem pairD {H : Hp} {ex : List Addr} {T : Addr} {x y : W} {v u : V} (hT : H T = none) (hn : T ∉ ex) (d1 : D H ex x v) (d2 : D H ex y u) : D (upd H T (.tup [v, u])) ex (.tup [x, y]) (.ref T) := D.newT hT hn (DA.cons d1 (DA.cons d2 DA.nil))
theorem nin_of {H : Hp} {ex : List Addr} {T : Addr} (ht : ∀ a ∈ ex, ∃ o, H a = some o) (hT : H T = none) : T ∉ ex := fun z => by
  obtain ⟨o, e⟩ := ht T z
  rw [hT] at e
  cases e
theorem wi_enum {elts : List Expr} {kk : Nat} {tpos : Pos} (hg : Gl X "enumerate") (hm : X.mg "enumerate" = none) (h : WE X c a (fun x => ∃ ds, x = .lst ds ∧ P (enumW ds)))
    (hpi : ∀ {te}, PE X a te → PI X (.Tuple elts kk tpos) (.Call (.Name "enumerate" p) [a] [] pos) (iEnum X.K (tCons te tNil))) : WI X c (.Tuple elts kk tpos) (.Call (.Name "enumerate" p) [a] [] pos) P := fun σ H R ev me q => by
  refine ⟨_, hpi E_pe, ?_⟩
  refine h σ H _ ev me fun v x H1 dx hx k1 m1 => ?_
  obtain ⟨ds, rfl, hp⟩ := hx
  obtain ⟨l, xs, rfl, hn, hl, dd⟩ := D.lst_iff.mp dx
  refine ⟨l, xs, rfl, .inl (Rd.of hl), q _ _ H1 (fun ex' H' kp ht i => ?_) hp k1 m1⟩
  obtain ⟨hn', hl'⟩ := kp l _ hn hl (fun _ z => by cases z)
  have dd' := DA.to kp ds xs dd
  refine ⟨fun hi => ⟨xs, .inl (Rd.of hl'), by rw [enumW_len] at hi; rw [dd.len]; exact hi⟩, fun d hd => ?_⟩
  obtain ⟨w, hw, rfl⟩ := enumW_get hd
  obtain ⟨v, v1, v2⟩ := dd'.get hw
  refine ⟨⟨xs, v, .inl (Rd.of hl'), v1⟩, fun x H3 y => ?_⟩
  obtain ⟨T, u, rfl, hT, rfl, y⟩ := y
  have := y xs (.inl (Rd.of hl'))
  rw [v1] at this
  cases this
  exact ⟨pairD hT (nin_of ht hT) (D.int _) v2, Gro.upd hT⟩
/-! ### comprehensions -/
def WTs (X : Cx) (c : Cn) (ifs : List Expr) (P : Bool → Prop) : Prop := ∀ σ H (Q : Bool → Hp → Prop), EnvOk c σ H → Mem c H → (∀ b H', P b → Kp c.ms H c.ms H' → Mem c H' → Q b H') → ∃ t, PTs X ifs t ∧ t σ H Q
theorem wts_nil {P : Bool → Prop} (p : P true) : WTs X c [] P := fun σ H Q ev me q => ⟨_, pts_nil, q true H p Kp.refl me⟩
theorem wts_one {P : Bool → Prop} (h : WT X c a P) : WTs X c [a] P := fun σ H Q ev me q => ⟨_, pts_one E_pt, h σ H Q ev me q⟩
theorem wipe_get (σ : L2.St) : ∀ (vs : List Nat) (k : Nat), (wipe σ vs)[k]? = if k ∈ vs ∧ k < σ.length then some none else σ[k]?
  | [], k => by simp [wipe]
  | v :: vs, k => by
    unfold wipe
    by_cases e : k = v
    · subst e
      by_cases hk : k < σ.length
      · rw [List.getElem?_set_self (by rw [wipe_length]; exact hk), if_pos ⟨List.mem_cons_self, hk⟩]
      · rw [if_neg (fun z => hk z.2), List.getElem?_eq_none (by rw [List.length_set, wipe_length]; omega), List.getElem?_eq_none (by omega)]
    · rw [List.getElem?_set_ne (Ne.symm e), wipe_get σ vs k]
      have : (k ∈ v :: vs) ↔ k ∈ vs := by simp [e]
      simp only [this]
theorem wipe_agr {σ σ' : L2.St} {vs : List Nat} (a : Agr vs (wipe σ vs) σ') : wipe σ' vs = wipe σ vs := by
  refine List.ext_getElem? fun k => ?_
  rw [wipe_get, wipe_get]
  have hl : σ'.length = σ.length := by rw [a.1, wipe_length]
  by_cases hk : k ∈ vs
  · by_cases hlt : k < σ.length
    · rw [if_pos ⟨hk, by rw [hl]; exact hlt⟩, if_pos ⟨hk, hlt⟩]
    · rw [if_neg (fun z => hlt (by rw [← hl]; exact z.2)), if_neg (fun z => hlt z.2), List.getElem?_eq_none (by omega), List.getElem?_eq_none (by omega)]
  · rw [if_neg (fun z => hk z.1), if_neg (fun z => hk z.1)]
    have := a.2 k hk
    rw [wipe_get, if_neg (fun z => hk z.1)] at this
    exact this
def wipeR (ρ : List (Option Th)) (vs : List Nat) : List (Option Th) := vs.foldr (fun v r => r.set v none) ρ
theorem wipeR_len (ρ : List (Option Th)) : ∀ vs : List Nat, (wipeR ρ vs).length = ρ.length
  | [] => rfl
  | v :: vs => by
    show ((wipeR ρ vs).set v none).length = _
    rw [List.length_set, wipeR_len ρ vs]
theorem wipeR_get (ρ : List (Option Th)) : ∀ (vs : List Nat) (k : Nat) (th : Th), (wipeR ρ vs)[k]? = some (some th) → k ∉ vs ∧ ρ[k]? = some (some th)
  | [], k, th, h => ⟨by simp, h⟩
  | v :: vs, k, th, h => by
    have h' : ((wipeR ρ vs).set v none)[k]? = some (some th) := h
    by_cases e : k = v
    · subst e
      by_cases hk : k < (wipeR ρ vs).length
      · rw [List.getElem?_set_self hk] at h'
        cases h'
      · rw [List.getElem?_eq_none (by rw [List.length_set]; omega)] at h'
        cases h'
    · rw [List.getElem?_set_ne (Ne.symm e)] at h'
      obtain ⟨a, b⟩ := wipeR_get ρ vs k th h'
      exact ⟨by simp [e, a], b⟩
theorem EnvOk.wipe {σ : L2.St} {H : Hp} (e : EnvOk c σ H) (vs : List Nat) : EnvOk { c with ρ := wipeR c.ρ vs } (wipe σ vs) H := ⟨by rw [wipe_length, wipeR_len]; exact e.1, fun i th g => by
  obtain ⟨h1, h2⟩ := wipeR_get _ _ _ _ g
  obtain ⟨v, a, b⟩ := e.2 i th h2
  exact ⟨v, by rw [wipe_get, if_neg (fun z => h1 z.1)]; exact a, b⟩⟩
/-- the context within a comprehension whose list stands at D -/
def Cn.inC (c : Cn) (ρ : List (Option Th)) (Dd : Addr) : Cn := { c with ρ := ρ, ex := Dd :: c.ex }
theorem inC_xs {ρ : List (Option Th)} {Dd : Addr} : (c.inC ρ Dd).xs = c.ms ++ Dd :: c.ex := rfl
theorem inC_ms {ρ : List (Option Th)} {Dd : Addr} : (c.inC ρ Dd).ms = c.ms := rfl
theorem kp_inC {ρ : List (Option Th)} {Dd : Addr} {H H' : Hp} (k : Kp c.ms H c.ms H') (hD : H Dd = none) : Kp c.xs H (c.inC ρ Dd).xs H' := fun a o n h t => by
  unfold Cn.xs at n
  rw [List.mem_append, not_or] at n
  obtain ⟨m, g⟩ := k a o n.1 h t
  refine ⟨?_, g⟩
  rw [inC_xs, List.mem_append, List.mem_cons, not_or, not_or]
  exact ⟨m, fun z => (by rw [z, hD] at h; cases h), n.2⟩
theorem xs_inC {ρ : List (Option Th)} {Dd a : Addr} (h : a ∉ (c.inC ρ Dd).xs) : a ∉ c.xs := fun z => h (by
  rw [inC_xs]
  rcases List.mem_append.mp z with z | z
  · exact List.mem_append_left _ z
  · exact List.mem_append_right _ (List.mem_cons_of_mem _ z))
theorem kp_ofC {ρ : List (Option Th)} {Dd : Addr} {H : Hp} : Kp (c.inC ρ Dd).xs H c.xs H := fun a o n h t => ⟨xs_inC n, h⟩
theorem memC_of {ρ : List (Option Th)} {Dd : Addr} {H : Hp} (m : Mem (c.inC ρ Dd) H) : Mem c H where
  mu := fun p hp => by
    have := m.mu p hp
    obtain ⟨a, u⟩ := p
    cases u with
    | lst ws =>
      obtain ⟨xs, e, d⟩ := this
      exact ⟨xs, e, DA.to kp_ofC ws xs d⟩
    | ins C dx fs =>
      obtain ⟨xs, e, d⟩ := this
      exact ⟨xs, e, DF.to kp_ofC fs xs d⟩
  st := fun a e => (m.st a e).to (fun _ h _ => h) kp_ofC
  nd := by
    have := m.nd
    rw [inC_xs] at this
    have h := List.nodup_append.mp this
    exact List.nodup_append.mpr ⟨h.1, (List.nodup_cons.mp h.2.1).2, fun a ha b hb => h.2.2 a ha b (List.mem_cons_of_mem _ hb)⟩
  ex := fun a h => m.ex a (List.mem_cons_of_mem _ h)
  tb := m.tb
theorem memC {ρ : List (Option Th)} {Dd : Addr} {H : Hp} (m : Mem c H) {o : HO} (hD : H Dd = none) (hot : ∀ ps, o ≠ .tbl ps := by intro _ z; cases z) : Mem (c.inC ρ Dd) (upd H Dd o) where
  mu := fun p hp => by
    have k : Kp c.xs H (c.inC ρ Dd).xs (upd H Dd o) := kp_inC ((Gro.upd hD).kp _) hD
    have := m.mu p hp
    obtain ⟨a, u⟩ := p
    cases u with
    | lst ws =>
      obtain ⟨xs, e, d⟩ := this
      exact ⟨xs, Gro.upd hD _ _ e, DA.to k ws xs d⟩
    | ins C dx fs =>
      obtain ⟨xs, e, d⟩ := this
      exact ⟨xs, Gro.upd hD _ _ e, DF.to k fs xs d⟩
  st := fun a e => (m.st a e).to (fun _ h _ => Gro.upd hD _ _ h) (kp_inC ((Gro.upd hD).kp _) hD)
  nd := by
    have h := List.nodup_append.mp m.nd
    rw [inC_xs]
    have hf := m.fresh hD
    refine List.nodup_append.mpr ⟨h.1, List.nodup_cons.mpr ⟨fun z => hf (List.mem_append_right _ z), h.2.1⟩, fun a ha b hb => ?_⟩
    rcases List.mem_cons.mp hb with rfl | hb
    · exact fun z => hf (List.mem_append_left _ (z ▸ ha))
    · exact h.2.2 a ha b hb
  ex := fun a h => by
    rcases List.mem_cons.mp h with rfl | h
    · exact ⟨_, upd_same, hot⟩
    · obtain ⟨o, e, t⟩ := m.ex a h
      exact ⟨o, Gro.upd hD _ _ e, t⟩
  tb := tabs_gro (Gro.upd hD) m.tb
/-- what stands at an address of ex may change, if it is no table's nor a code's -/
theorem memC_set {ρ : List (Option Th)} {Dd : Addr} {H : Hp} (m : Mem (c.inC ρ Dd) H) {xs ys : List V} (hD : H Dd = some (.lst xs)) : Mem (c.inC ρ Dd) (upd H Dd (.lst ys)) ∧ Kp (c.inC ρ Dd).xs H (c.inC ρ Dd).xs (upd H Dd (.lst ys)) := by
  have hin : Dd ∈ (c.inC ρ Dd).xs := by rw [inC_xs]; exact List.mem_append_right _ List.mem_cons_self
  have k : Kp (c.inC ρ Dd).xs H (c.inC ρ Dd).xs (upd H Dd (.lst ys)) := fun a o n h t => ⟨n, by rw [upd_ne (fun z => n (by rw [z]; exact hin))]; exact h⟩
  have hms : ∀ a ∈ c.ms, a ≠ Dd := fun a ha z => by
    have := (List.nodup_append.mp (inC_xs (c := c) ▸ m.nd)).2.2 a ha Dd List.mem_cons_self
    exact this z
  refine ⟨⟨fun p hp => ?_, fun a e => ?_, m.nd, fun a h => ?_, fun q hq => ?_⟩, k⟩
  · have hne : p.1 ≠ Dd := hms _ (List.mem_append_left _ (List.mem_map.mpr ⟨p, hp, rfl⟩))
    have := m.mu p hp
    obtain ⟨a, u⟩ := p
    cases u with
    | lst ws =>
      obtain ⟨xs, e, d⟩ := this
      exact ⟨xs, by rw [upd_ne hne]; exact e, DA.to k ws xs d⟩
    | ins C dx fs =>
      obtain ⟨xs, e, d⟩ := this
      exact ⟨xs, by rw [upd_ne hne]; exact e, DF.to k fs xs d⟩
  · have hne : a.1 ≠ Dd := hms a.1 (List.mem_append_right _ (by unfold Cn.sl; rw [show c.st = some a from e]; simp))
    exact (m.st a e).to (fun _ h _ => by rw [upd_ne hne]; exact h) k
  · by_cases z : a = Dd
    · exact ⟨.lst ys, by rw [z]; exact upd_same, fun _ z => by cases z⟩
    · obtain ⟨o, e, t⟩ := m.ex a h
      exact ⟨o, by rw [upd_ne z]; exact e, t⟩
  · obtain ⟨ps, a1, a2, a3⟩ := m.tb q hq
    refine ⟨ps, by rw [upd_ne (fun z => by rw [z, hD] at a1; cases a1)]; exact a1, a2, fun pos cv e => ?_⟩
    obtain ⟨cc, b1, b2⟩ := a3 pos cv e
    exact ⟨cc, b1, by rw [upd_ne (fun z => by rw [z, hD] at b2; unfold LamX.CodeO at b2; cases b2)]; exact b2⟩
def fam (X : Cx) (scope : Scope) (f : Cx → Prop) : Prop := ∀ (s : Shared) (H : Hp) (C : Addr) (cl : List (Str × Addr)) (fp : List Addr), f (X.blk s H scope (compEnvC scope cl C X.env) fp)
/-- one turn of a comprehension over data, within the block -/
def Turn1 (X : Cx) (c : Cn) (scope : Scope) (tg elt : Expr) (ifs : List Expr) (vs : List Nat) (d : W) (no : Prop) (P : W → Prop) : Prop := ∀ Dd : Addr,
  fam X scope fun X1 => WG X1 (c.inC (wipeR c.ρ vs) Dd) tg d vs fun ρ => fam X scope fun X2 => WTs X2 (c.inC ρ Dd) ifs fun b => if b = true then fam X scope fun X3 => WE X3 (c.inC ρ Dd) elt P else no
theorem EnvOk.inC {σ : L2.St} {H H' : Hp} {ρ : List (Option Th)} {Dd : Addr} (e : EnvOk { c with ρ := ρ } σ H) (k : Kp c.xs H (c.inC ρ Dd).xs H') : EnvOk (c.inC ρ Dd) σ H' := ⟨e.1, fun i th g => by
  obtain ⟨v, a, b⟩ := e.2 i th g
  refine ⟨v, a, ?_⟩
  cases th with
  | dat w => exact D.to k w v b
  | adr a => exact b
  | prp p m => exact m _ _ _ _ _ k b⟩
def gFam (X : Cx) (scope : Scope) (tg : Expr) : TG := fun v σ H Q => fam X scope fun X' => EG X' tg v σ H Q
def tFam (X : Cx) (scope : Scope) (ifs : List Expr) : TT := fun σ H Q => fam X scope fun X' => ∃ t, PTs X' ifs t ∧ t σ H Q
def eFam (X : Cx) (scope : Scope) (e : Expr) : TE := fun σ H Q => fam X scope fun X' => E X' e σ H Q
def WLc (X : Cx) (c : Cn) (scope : Scope) (own : List (Str × Nat)) (tg it elt : Expr) (ifs : List Expr) (P : W → Prop) : Prop := WI X c tg it (fun ds => ds.length ≤ sizeLine ∧ ∃ I : Nat → List W → Prop, I 0 [] ∧ (∀ i acc d, ds[i]? = some d → acc.length ≤ i → I i acc → Turn1 X c scope tg elt ifs (own.map (·.2)) d (I (i + 1) acc) (fun y => I (i + 1) (acc ++ [y]))) ∧ (∀ acc, I ds.length acc → P (.lst acc)))
theorem lc_data {scope : Scope} {own : List (Str × Nat)} {elt : Expr} {ifs : List Expr} {it : Expr} {P : W → Prop} {σ : L2.St} {H : Hp} {Q : VK}
    (h : WLc X c scope own tg it elt ifs P)
    (ev : EnvOk c σ H) (me : Mem c H) (q : AfE c H P Q) :
    tLc (EI X tg it) (gFam X scope tg) (tFam X scope ifs) (eFam X scope elt) (own.map (·.2)) σ H Q := by
  refine h σ H _ ev me fun J ds H1 hJ hp k1 m1 => ?_
  obtain ⟨hl, I, i0, step, fin⟩ := hp
  intro Dd hD
  have ev1 := ev.kp k1
  refine ⟨fun i m H2 => m = ds.length - i ∧ i ≤ ds.length ∧ ∃ accW acc, I i accW ∧ accW.length ≤ i ∧ H2 Dd = some (.lst acc) ∧ DA H2 (c.inC c.ρ Dd).xs accW acc ∧ Mem (c.inC c.ρ Dd) H2 ∧ Kp c.ms H1 c.ms H2,
    ⟨ds.length, by omega, Nat.zero_le _, [], [], i0, Nat.le_refl _, upd_same, DA.nil, memC m1 hD, (Gro.upd hD).kp _⟩, ?_⟩
  rintro i m H2 ⟨rfl, hi, accW, acc, hI, hla, hH, da, mC, kC⟩
  have jx := hJ _ H2 (kp_inC (ρ := c.ρ) kC hD) (fun a ha => mC.some_of ha) i
  by_cases hlt : i < ds.length
  · right
    obtain ⟨d, hd⟩ : ∃ d, ds[i]? = some d := ⟨_, List.getElem?_eq_getElem hlt⟩
    obtain ⟨go, jy⟩ := jx.2 d hd
    refine ⟨go, fun H' => i + 1 ≤ ds.length ∧ ∃ accW acc, I (i + 1) accW ∧ accW.length ≤ i + 1 ∧ H' Dd = some (.lst acc) ∧ DA H' (c.inC c.ρ Dd).xs accW acc ∧ Mem (c.inC c.ρ Dd) H' ∧ Kp c.ms H1 c.ms H',
      fun H' ⟨z1, z2⟩ => ⟨ds.length - (i + 1), by omega, rfl, z1, z2⟩, fun x H' y => ?_⟩
    obtain ⟨dx, g⟩ := jy x H' y
    have kC' : Kp c.ms H1 c.ms H' := kC.trans (g.kp _)
    have mC' : Mem (c.inC c.ρ Dd) H' := mC.gro g
    have evC : EnvOk (c.inC (wipeR c.ρ (own.map (·.2))) Dd) (wipe σ (own.map (·.2))) H' := (ev1.wipe _).inC (kp_inC kC' hD)
    intro s0 h0 C0 cl0 fp0
    refine step i accW d hd hla hI Dd s0 h0 C0 cl0 fp0 (wipe σ (own.map (·.2))) H' x _ evC ⟨mC'.mu, mC'.st, mC'.nd, mC'.ex, mC'.tb⟩ dx fun ρ σ2 hN ev2 ag => ?_
    refine ⟨wipe_agr ag, ?_⟩
    intro s1 h1 C1 cl1 fp1
    refine hN s1 h1 C1 cl1 fp1 σ2 H' _ ev2 ⟨mC'.mu, mC'.st, mC'.nd, mC'.ex, mC'.tb⟩ fun b H3 hb k3 m3 => ?_
    have da3 : DA H3 (c.inC c.ρ Dd).xs accW acc := DA.to (((g.kp _).trans (k3.xs rfl : Kp (c.inC ρ Dd).xs H' (c.inC ρ Dd).xs H3))) _ _ da
    have hDms : Dd ∉ c.ms := fun z => (m1.fresh hD) (ms_xs z)
    have hH3 : H3 Dd = some (.lst acc) := (k3 Dd _ hDms (g _ _ hH) (fun _ z => by cases z)).2
    cases b with
    | false => exact ⟨hlt, accW, acc, hb, by omega, hH3, da3, ⟨m3.mu, m3.st, m3.nd, m3.ex, m3.tb⟩, kC'.trans k3⟩
    | true =>
      intro s2 h2 C2 cl2 fp2
      refine hb s2 h2 C2 cl2 fp2 σ2 H3 _ (ev2.kp k3) ⟨m3.mu, m3.st, m3.nd, m3.ex, m3.tb⟩ fun y w H4 dy py k4 m4 => ?_
      have hH4 : H4 Dd = some (.lst acc) := (k4 Dd _ hDms hH3 (fun _ z => by cases z)).2
      have da4 : DA H4 (c.inC c.ρ Dd).xs accW acc := DA.to (k4.xs rfl : Kp (c.inC ρ Dd).xs H3 (c.inC ρ Dd).xs H4) _ _ da3
      obtain ⟨m5, k5⟩ := memC_set (ρ := ρ) m4 (ys := acc ++ [y]) hH4
      refine ⟨acc, hH4, by have := da4.len; omega, hlt, accW ++ [w], acc ++ [y], py, by simp; omega, upd_same, DA.to k5 _ _ (da4.append (DA.cons dy DA.nil)), ⟨m5.mu, m5.st, m5.nd, m5.ex, m5.tb⟩, ?_⟩
      exact fun a o n h t => let ⟨z1, z2⟩ := (kC'.trans (k3.trans k4)) a o n h t; ⟨z1, by rw [upd_ne (fun z => by rw [z, hD] at h; cases h)]; exact z2⟩
  · left
    have e : i = ds.length := by omega
    subst e
    refine ⟨jx.1 (Nat.le_refl _), q _ _ H2 (D.lst_iff.mpr ⟨Dd, acc, rfl, m1.fresh hD, hH, DA.to kp_ofC _ _ da⟩) (fin accW hI) (k1.trans kC) (memC_of mC)⟩
theorem pg_fam {scope : Scope} {s : Shared} {H : Hp} {C : Addr} {cl : List (Str × Addr)} {fp : List Addr} : PG (X.blk s H scope (compEnvC scope cl C X.env) fp) tg (gFam X scope tg) := ⟨fun pins s σ H v u Q I r h => E_pg.run pins s σ H v u Q I r (h _ _ _ _ _)⟩
theorem pts_fam {ifs : List Expr} {scope : Scope} {s : Shared} {H : Hp} {C : Addr} {cl : List (Str × Addr)} {fp : List Addr} : PTs (X.blk s H scope (compEnvC scope cl C X.env) fp) ifs (tFam X scope ifs) := ⟨fun pins s σ H Q I h => let ⟨_, a, b⟩ := h _ _ _ _ _; a.run pins s σ H Q I b⟩
theorem pe_fam {elt : Expr} {scope : Scope} {s : Shared} {H : Hp} {C : Addr} {cl : List (Str × Addr)} {fp : List Addr} : PE (X.blk s H scope (compEnvC scope cl C X.env) fp) elt (eFam X scope elt) := ⟨fun pins s σ H Q I h => E_pe.run pins s σ H Q I (h _ _ _ _ _)⟩
/-- [elt for tg in it if ..] over data -/
theorem we_lc {scope : Scope} (own : List (Str × Nat)) {elt : Expr} {ifs : List Expr} {it : Expr} {P : W → Prop} (hc : X.calm = true) (hN : X.N.Nodup) (ok : BlkOk X.N X.env.scope scope own)
    (h : WLc X c scope own tg it elt ifs P)
    (hs : ∀ x, foldedSetIterable it X.env x = pure x := by intro _; rfl) : WE X c (.ListComp elt [⟨tg, it, ifs, 0⟩] scope pos) P := fun σ H Q ev me q =>
  ⟨_, pe_lc hc hN E_pi ok (fun _ _ _ _ _ => pg_fam) (fun _ _ _ _ _ => pts_fam) (fun _ _ _ _ _ => pe_fam) hs, lc_data h ev me q⟩
/-- every item by a function -/
theorem wlc_M {scope : Scope} {own : List (Str × Nat)} {elt : Expr} {it : Expr} {P : W → Prop}
    (h : WI X c tg it (fun ds => ds.length ≤ sizeLine ∧ ∃ f : Nat → W → W, (∀ i d, ds[i]? = some d → ∀ Dd, fam X scope fun X1 => WG X1 (c.inC (wipeR c.ρ (own.map (·.2))) Dd) tg d (own.map (·.2)) fun ρ => fam X scope fun X3 => WE X3 (c.inC ρ Dd) elt (fun y => y = f i d)) ∧ P (.lst (ds.mapIdx f)))) : WLc X c scope own tg it elt [] P :=
  (h.mono fun ds ⟨hl, f, h1, h2⟩ => ⟨hl, fun i acc => acc = (ds.mapIdx f).take i, by simp, fun i acc d hd _ hI Dd s H C cl fp => by
    refine fun σ H v Q ev me dd q => h1 i d hd Dd s _ C cl fp σ H v Q ev me dd fun ρ' σ' hN => q ρ' σ' ?_
    intro s H C cl fp
    refine wts_nil ?_
    rw [if_pos rfl]
    intro s H C cl fp
    refine (hN s H C cl fp).mono fun y e => ?_
    have hI : acc = (ds.mapIdx f).take i := hI
    show acc ++ [y] = (ds.mapIdx f).take (i + 1)
    rw [e, hI, List.take_add_one, List.getElem?_mapIdx, hd]
    rfl, fun acc hI => by
      have hI : acc = (ds.mapIdx f).take ds.length := hI
      rw [hI]
      have : (ds.mapIdx f).take ds.length = ds.mapIdx f := List.take_of_length_le (by simp)
      rw [this]
      exact h2⟩)
/-- those that a test keeps -/
theorem wlc_F {scope : Scope} {own : List (Str × Nat)} {elt t : Expr} {it : Expr} {P : W → Prop}
    (h : WI X c tg it (fun ds => ds.length ≤ sizeLine ∧ ∃ g : W → Option W, (∀ (i : Nat) d, ds[i]? = some d → ∀ Dd, fam X scope fun X1 => WG X1 (c.inC (wipeR c.ρ (own.map (·.2))) Dd) tg d (own.map (·.2)) fun ρ => fam X scope fun X2 => WT X2 (c.inC ρ Dd) t fun b => if b = true then fam X scope fun X3 => WE X3 (c.inC ρ Dd) elt (fun y => g d = some y) else g d = none) ∧ P (.lst (ds.filterMap g)))) : WLc X c scope own tg it elt [t] P :=
  (h.mono fun ds ⟨hl, g, h1, h2⟩ => ⟨hl, fun i acc => acc = (ds.take i).filterMap g, by simp, fun i acc d hd _ hI Dd s H C cl fp => by
    have hI : acc = (ds.take i).filterMap g := hI
    refine fun σ H v Q ev me dd q => h1 i d hd Dd s _ C cl fp σ H v Q ev me dd fun ρ' σ' hN => q ρ' σ' ?_
    intro s H C cl fp
    refine wts_one ?_
    have hN := hN s H C cl fp
    refine hN.mono fun b hb => ?_
    cases b with
    | true =>
      intro s H C cl fp
      refine (hb s H C cl fp).mono fun y e => ?_
      show acc ++ [y] = (ds.take (i + 1)).filterMap g
      rw [hI, List.take_add_one, hd, List.filterMap_append]
      simp [e]
    | false =>
      show acc = (ds.take (i + 1)).filterMap g
      have hb : g d = none := hb
      rw [hI, List.take_add_one, hd, List.filterMap_append]
      simp [hb], fun acc hI => by
      have hI : acc = (ds.take ds.length).filterMap g := hI
      rw [hI, List.take_length]
      exact h2⟩)
end
end K11
/-! KD6 -/
namespace K11
open PySem PySem.Spec PyProof.Rows L2
section
variable {X : Cx} {c c' c1 : Cn} {N : Cn → Prop} {R : W → Prop} {e a b tg : Expr} {es : List Expr} {st : Stmt} {ss rest body : List Stmt} {pos p : Pos} {σ : L2.St} {H H' H2 : Hp}
theorem sl_of (e : c'.st = c.st) : c'.sl = c.sl := by unfold Cn.sl; rw [e]
theorem RetOk.back {w : W} {v : V} (g : Grw c c' H H') (r : RetOk c' H' w v H2) : RetOk c H w v H2 where
  d := by have := r.d; rw [sl_of g.st, g.ex] at this; exact this
  kp := by have := r.kp; rw [sl_of g.st] at this; exact g.kp.trans this
  st := fun a h => by have := r.st a (g.st.trans h); rw [sl_of g.st, g.ex] at this; exact this
  ex := fun a h => r.ex a (by rw [g.ex]; exact h)
  tb := by have := r.tb; rw [g.T] at this; exact this
theorem AfS.mono {N' : Cn → Prop} {Dn : Ends} (q : AfS c σ H N R Dn) (k : ∀ c, N' c → N c) : AfS c σ H N' R Dn := ⟨fun c' σ' H' n => q.1 c' σ' H' (k c' n), q.2⟩
theorem AfS.after {Dn : Ends} {σ' : L2.St} (q : AfS c σ H N R Dn) (g : Grw c c' H H') : AfS c' σ' H' N R Dn := ⟨fun c2 σ2 H2 n e m g2 => q.1 c2 σ2 H2 n e m (g.trans g2), fun v w H2 r ok => q.2 v w H2 r (ok.back g)⟩
theorem WS.mono {N' : Cn → Prop} (h : WS X c st N' R) (k : ∀ c, N' c → N c) : WS X c st N R := fun σ H Dn ev me q => h σ H Dn ev me (q.mono k)
theorem WSs.mono {N' : Cn → Prop} (h : WSs X c ss N' R) (k : ∀ c, N' c → N c) : WSs X c ss N R := fun σ H Dn ev me q => h σ H Dn ev me (q.mono k)
theorem wss_nil (h : N c) : WSs X c [] N R := fun σ H Dn ev me q => ⟨_, pss_nil, q.1 c σ H h ev me Grw.refl⟩
theorem wss_cons (h : WS X c st (fun c1 => WSs X c1 rest N R) R) : WSs X c (st :: rest) N R := fun σ H Dn ev me q => by
  refine ⟨_, pss_cons E_ps E_pss, ?_⟩
  refine h σ H { Dn with nx := ESs X rest Dn } ev me ⟨fun c1 σ1 H1 n ev1 m1 g => ?_, q.2⟩
  exact n σ1 H1 Dn ev1 m1 (q.after g)
/-- at a return -/
theorem ret_ok (me' : Mem c H') {w : W} {v : V} (kp : Kp c.ms H c.ms H') (d : D H' c.xs w v) : RetOk c H w v H' := by
  have sub : ∀ {Z : Hp}, Kp c.xs Z (c.sl ++ c.ex) Z := fun {Z} a o n h t => ⟨fun z => n (by unfold Cn.xs Cn.ms; rw [List.append_assoc]; exact List.mem_append_right _ z), h⟩
  refine ⟨D.to sub w v d, fun a o n h t => ?_, fun a h => (me'.st a h).to (fun _ h _ => h) sub, me'.ex, me'.tb⟩
  obtain ⟨n2, g⟩ := kp a o n h t
  exact ⟨fun z => n2 (List.mem_append_right _ z), g⟩
theorem ws_ret (h : WE X c e R) : WS X c (.Return (some e) pos) N R := fun σ H Dn ev me q =>
  ⟨_, ps_ret E_pe, h σ H _ ev me fun v w H' d p k m => q.2 v w H' p (ret_ok m k d)⟩
theorem ws_retN (h : R .non) : WS X c (.Return none pos) N R := fun σ H Dn ev me q =>
  ⟨_, ps_retN, q.2 .non .non H h (ret_ok me Kp.refl D.non)⟩
theorem ws_expr (h : WE X c e (fun _ => N c)) (hs : swapsWith e none pos.line X.env = pure false := by rfl) : WS X c (.Expr e pos) N R := fun σ H Dn ev me q =>
  ⟨_, ps_expr E_pe hs, h σ H _ ev me fun v w H' d p k m => q.1 c σ H' p (ev.kp k) m (Grw.of k)⟩
theorem ws_never (h : False) : WS X c st N R := h.elim
theorem ws_if {t : Expr} (h : WT X c t (fun k => if k = true then WSs X c ss N R else WSs X c rest N R)) : WS X c (.If t ss rest pos) N R := fun σ H Dn ev me q => by
  refine ⟨_, ps_if E_pt E_pss E_pss, ?_⟩
  refine h σ H _ ev me fun k H1 p k1 m1 => ?_
  cases k with
  | true => exact p σ H1 Dn (ev.kp k1) m1 (q.after (Grw.of k1))
  | false => exact p σ H1 Dn (ev.kp k1) m1 (q.after (Grw.of k1))
theorem EnvOk.rho {ρ : List (Option Th)} (e : EnvOk { c with ρ := ρ } σ H) (k : Kp c.ms H c.ms H') : EnvOk { c with ρ := ρ } σ H' := EnvOk.kp (c := { c with ρ := ρ }) e k
theorem ws_asg (js : List Nat) (h : WE X c e (fun w => WG X c tg w js (fun ρ => N { c with ρ := ρ }))) (hs : swapsWithSole [tg] e pos.line X.env = pure false := by rfl) (hw : swappedStores [tg] e X.env = pure none := by rfl)
    (h1 : (assignEach [tg] X.env).map (·.2) = [assign tg X.env] := by rfl) : WS X c (.Assign [tg] e pos) N R := fun σ H Dn ev me q => by
  refine ⟨_, ps_asg E_pe E_pg hs hw h1, ?_⟩
  refine h σ H _ ev me fun v w H1 d p k1 m1 => ?_
  exact p σ H1 v _ (ev.kp k1) m1 d fun ρ σ' n ev' ag => q.1 _ σ' H1 n ev' (m1.rho ρ) ⟨rfl, rfl, rfl, k1⟩
theorem EnvOk.set {i : Nat} {th : Th} {v : V} (e : EnvOk c σ H) (t : Tk H c.xs th v) : EnvOk { c with ρ := c.ρ.set i (some th) } (σ.set i (some v)) H := ⟨by simp [e.1], fun k th' g => by
  have g : (c.ρ.set i (some th))[k]? = some (some th') := g
  by_cases z : k = i
  · subst z
    have hlt : k < c.ρ.length := by
      by_cases q : k < c.ρ.length
      · exact q
      · rw [List.getElem?_eq_none (by simp; omega)] at g; cases g
    rw [List.getElem?_set_self hlt] at g
    cases g
    exact ⟨v, by rw [List.getElem?_set_self (by rw [e.1]; exact hlt)], t⟩
  · rw [List.getElem?_set_ne (Ne.symm z)] at g
    obtain ⟨u, a, b⟩ := e.2 k th' g
    exact ⟨u, by rw [List.getElem?_set_ne (Ne.symm z)]; exact a, b⟩⟩
theorem ws_set (i : Nat) {x : Str} {pos' : Pos} (hN : X.N.Nodup) (hi : X.N[i]? = some x) (hx : Loc X.env.scope x) (hf : X.fn x = true ∨ X.env.scope.names.lookup x = some .local) (h : WE X c e (fun w => N { c with ρ := c.ρ.set i (some (.dat w)) })) (hs : swapsWith e (some (.Name x pos')) pos.line X.env = pure false := by rfl) : WS X c (.Assign [.Name x pos'] e pos) N R := fun σ H Dn ev me q => by
  refine ⟨_, L2.ps_set hN hi hx E_pe hs hf, ?_⟩
  refine h σ H _ ev me fun v w H1 d p k1 m1 => ?_
  exact q.1 _ _ H1 p ((ev.kp k1).set d) (m1.rho _) ⟨rfl, rfl, rfl, k1⟩
/-- name = [..] on one line -/
theorem ws_setLc (i : Nat) {x : Str} {py : Pos} {it : Expr} {elt : Expr} {ifs : List Expr} {scope : Scope} {pos2 : Pos} (own : List (Str × Nat)) (hc : X.calm = true) (hN : X.N.Nodup) (hi : X.N[i]? = some x) (hyl : X.env.scope.names.lookup x = some .local)
    (hsw : swapsWith (.ListComp elt [⟨tg, it, ifs, 0⟩] scope pos2) (some (.Name x py)) pos.line X.env = pure true) (ok : BlkOk X.N X.env.scope scope own)
    (h : WLc X c scope own tg it elt ifs (fun w => N { c with ρ := c.ρ.set i (some (.dat w)) }))
    (hs : ∀ x, foldedSetIterable it X.env x = pure x := by intro _; rfl) : WS X c (.Assign [.Name x py] (.ListComp elt [⟨tg, it, ifs, 0⟩] scope pos2) pos) N R := fun σ H Dn ev me q => by
  refine ⟨_, ps_setLc hc hN hi hyl hsw E_pi ok (fun _ _ _ _ _ => pg_fam) (fun _ _ _ _ _ => pts_fam) (fun _ _ _ _ _ => pe_fam) hs, ?_⟩
  refine lc_data h ev me fun v w H1 d p k1 m1 => ?_
  exact q.1 _ _ H1 p ((ev.kp k1).set d) (m1.rho _) ⟨rfl, rfl, rfl, k1⟩
/-! lists that change -/
theorem mem_upd {μ1 μ2 : List (Addr × Mu)} {l : Addr} {u u' : Mu} (hμ : c.μ = μ1 ++ (l, u) :: μ2) (me : Mem c H) {o : HO} (ho : ∃ o, H l = some o ∧ (∀ ps, o ≠ .tbl ps) ∧ (∀ φ, o ≠ .ext φ))
    (hu : ∀ H', Kp c.xs H c.xs H' → H' l = some o → MuOk H' c.xs l u') (hot : ∀ ps, o ≠ .tbl ps := by intro _ z; cases z) : Mem { c with μ := μ1 ++ (l, u') :: μ2 } (upd H l o) ∧ Kp c.ms H c.ms (upd H l o) := by
  have hl : l ∈ c.ms := by unfold Cn.ms; rw [hμ]; simp
  have k : ∀ ex, l ∈ ex → Kp ex H ex (upd H l o) := fun ex h a u n g t => ⟨n, by rw [upd_ne (fun z => n (by rw [z]; exact h))]; exact g⟩
  have exs : ({ c with μ := μ1 ++ (l, u') :: μ2 } : Cn).xs = c.xs := by unfold Cn.xs Cn.ms Cn.sl; rw [hμ]; simp
  have nd := me.nd
  have nd' : (μ1.map (·.1) ++ l :: μ2.map (·.1)).Nodup := by
    unfold Cn.xs Cn.ms at nd
    rw [hμ, List.append_assoc] at nd
    have := (List.nodup_append.mp nd).1
    simpa using this
  have hne : ∀ q ∈ μ1 ++ μ2, q.1 ≠ l := fun q hq z => by
    have h3 := List.nodup_append.mp nd'
    rcases List.mem_append.mp hq with hq | hq
    · exact h3.2.2 q.1 (List.mem_map.mpr ⟨q, hq, rfl⟩) l List.mem_cons_self z
    · exact (List.nodup_cons.mp h3.2.1).1 (List.mem_map.mpr ⟨q, hq, z⟩)
  have kx := k c.xs (ms_xs hl)
  have stl : ∀ a, c.st = some a → a.1 ≠ l := fun a e z => by
    unfold Cn.xs Cn.ms at nd
    have h1 := (List.nodup_append.mp nd).1
    have h2 := (List.nodup_append.mp h1).2.2 l (by rw [hμ]; simp) a.1 (by unfold Cn.sl; rw [e]; simp)
    exact h2 z.symm
  refine ⟨⟨fun q hq => ?_, fun a e => ?_, by rw [exs]; exact nd, fun a h => ?_, fun q hq => ?_⟩, k c.ms hl⟩
  · rw [exs]
    have hq : q ∈ μ1 ++ (l, u') :: μ2 := hq
    rcases List.mem_append.mp hq with h | h
    · have z := hne q (List.mem_append_left _ h)
      have hm := me.mu q (by rw [hμ]; exact List.mem_append_left _ h)
      obtain ⟨a, v⟩ := q
      cases v with
      | lst ws => obtain ⟨xs, e, d⟩ := hm; exact ⟨xs, by rw [upd_ne z]; exact e, DA.to kx ws xs d⟩
      | ins C dx fs => obtain ⟨xs, e, d⟩ := hm; exact ⟨xs, by rw [upd_ne z]; exact e, DF.to kx fs xs d⟩
    · rcases List.mem_cons.mp h with rfl | h
      · exact hu _ kx upd_same
      · have z := hne q (List.mem_append_right _ h)
        have hm := me.mu q (by rw [hμ]; exact List.mem_append_right _ (List.mem_cons_of_mem _ h))
        obtain ⟨a, v⟩ := q
        cases v with
        | lst ws => obtain ⟨xs, e, d⟩ := hm; exact ⟨xs, by rw [upd_ne z]; exact e, DA.to kx ws xs d⟩
        | ins C dx fs => obtain ⟨xs, e, d⟩ := hm; exact ⟨xs, by rw [upd_ne z]; exact e, DF.to kx fs xs d⟩
  · rw [exs]
    exact (me.st a e).to (fun _ h _ => by rw [upd_ne (stl a e)]; exact h) kx
  · by_cases z : a = l
    · exact ⟨o, by rw [z]; exact upd_same, hot⟩
    · obtain ⟨o', e, t⟩ := me.ex a h
      exact ⟨o', by rw [upd_ne z]; exact e, t⟩
  · obtain ⟨o', z1, z2, z3⟩ := ho
    obtain ⟨ps, a1, a2, a3⟩ := me.tb q hq
    refine ⟨ps, by rw [upd_ne (fun z => by rw [z, z1] at a1; cases a1; exact z2 _ rfl)]; exact a1, a2, fun pos cv e => ?_⟩
    obtain ⟨cc, b1, b2⟩ := a3 pos cv e
    exact ⟨cc, b1, by rw [upd_ne (fun z => by rw [z, z1] at b2; unfold LamX.CodeO at b2; cases b2; exact z3 _ rfl)]; exact b2⟩
theorem EnvOk.xs' {ρ : List (Option Th)} (e : EnvOk c σ H) (k : Kp c.xs H c'.xs H') (hr : c'.ρ = c.ρ) : EnvOk c' σ H' := ⟨by rw [hr]; exact e.1, fun i th g => by
  obtain ⟨v, a, b⟩ := e.2 i th (by rw [← hr]; exact g)
  refine ⟨v, a, ?_⟩
  cases th with
  | dat w => exact D.to k w v b
  | adr a => exact b
  | prp p m => exact m _ _ _ _ _ k b⟩
theorem ws_append (i : Nat) {x : Str} {px apos : Pos} (hN : X.N[i]? = some x) (hv : Vis X.env.scope x) {l : Addr} (g : c.ρ[i]? = some (some (.adr l))) {μ1 μ2 : List (Addr × Mu)} {ws : List W} (hμ : c.μ = μ1 ++ (l, .lst ws) :: μ2)
    (h : WE X c e (fun w => ws.length < sizeLine ∧ N { c with μ := μ1 ++ (l, .lst (ws ++ [w])) :: μ2 }))
    (hp : ∀ {to te}, PE X (.Name x px) to → PE X e te → PS X (.Expr (.Call (.Attribute (.Name x px) "append" apos) [e] [] p) pos) (tDrop (tBM X.K "list" rAppend to (tCons te tNil))))
    (hd : (x == ("__debug__" : Str)) = false := by decide) (hcd : (x == ("__classdict__" : Str)) = false := by decide) : WS X c (.Expr (.Call (.Attribute (.Name x px) "append" apos) [e] [] p) pos) N R := fun σ H Dn ev me q => by
  refine ⟨_, hp (pe_var hN hv hd hcd) E_pe, ?_⟩
  obtain ⟨v, s1, s2⟩ := ev.2 i _ g
  have s2 : v = .ref l := s2
  subst s2
  obtain ⟨xs, hl, dl⟩ := me.mu (l, .lst ws) (by rw [hμ]; simp)
  refine ⟨.ref l, s1, .inl ⟨rfl, xs, .inl (Rd.of hl)⟩, ?_⟩
  refine h σ H _ ev me fun v w H1 d p k1 m1 => ?_
  obtain ⟨ys, hl1, dl1⟩ := m1.mu (l, .lst ws) (by rw [hμ]; simp)
  obtain ⟨m2, k2⟩ := mem_upd (u' := .lst (ws ++ [w])) (o := .lst (ys ++ [v])) hμ m1 ⟨_, hl1, (by intro _ z; cases z), (by intro _ z; cases z)⟩ fun H' k e => ⟨ys ++ [v], e, (DA.to k _ _ dl1).append (DA.cons (D.to k _ _ d) DA.nil)⟩
  refine ⟨l, ys, v, rfl, rfl, hl1, by rw [dl1.len]; exact p.1, ?_⟩
  have ms : ({ c with μ := μ1 ++ (l, .lst (ws ++ [w])) :: μ2 } : Cn).ms = c.ms := by unfold Cn.ms Cn.sl; rw [hμ]; simp
  have xse : ({ c with μ := μ1 ++ (l, .lst (ws ++ [w])) :: μ2 } : Cn).xs = c.xs := by unfold Cn.xs; rw [ms]
  exact q.1 _ σ _ p.2 (EnvOk.xs' (ρ := c.ρ) ev (by rw [xse]; exact (k1.trans k2).xs rfl) rfl) m2 ⟨rfl, rfl, rfl, by rw [ms]; exact k1.trans k2⟩
end
end K11
/-! KD7 -/
namespace K11
open PySem PySem.Spec PyProof.Rows L2
section
variable {X : Cx} {c c' c1 : Cn} {N : Cn → Prop} {R : W → Prop} {e a b tg : Expr} {es : List Expr} {st : Stmt} {ss rest body : List Stmt} {pos p : Pos} {σ : L2.St} {H H' H2 : Hp}
theorem ms_swap {μ1 μ2 : List (Addr × Mu)} {l : Addr} {u u' : Mu} (hμ : c.μ = μ1 ++ (l, u) :: μ2) : ({ c with μ := μ1 ++ (l, u') :: μ2 } : Cn).ms = c.ms := by unfold Cn.ms Cn.sl; rw [hμ]; simp
theorem xs_swap {μ1 μ2 : List (Addr × Mu)} {l : Addr} {u u' : Mu} (hμ : c.μ = μ1 ++ (l, u) :: μ2) : ({ c with μ := μ1 ++ (l, u') :: μ2 } : Cn).xs = c.xs := by unfold Cn.xs; rw [ms_swap hμ]
/-- x.insert(k, e), k drawn -/
theorem ws_insert (i : Nat) {x : Str} {px apos : Pos} (hN : X.N[i]? = some x) (hv : Vis X.env.scope x) {l : Addr} (g : c.ρ[i]? = some (some (.adr l))) {μ1 μ2 : List (Addr × Mu)} {ws : List W} (hμ : c.μ = μ1 ++ (l, .lst ws) :: μ2)
    (h : WE X c a (fun y => WE X c e (fun w => ∃ k : Nat, y = .int (k : Int) ∧ k < 2 ^ 63 ∧ ws.length < sizeLine ∧ N { c with μ := μ1 ++ (l, .lst (ws.take k ++ [w] ++ ws.drop k)) :: μ2 })))
    (hp : ∀ {to ta te}, PE X (.Name x px) to → PE X a ta → PE X e te → PS X (.Expr (.Call (.Attribute (.Name x px) "insert" apos) [a, e] [] p) pos) (tDrop (tBM X.K "list" (fun x vs H Q => ∃ (l : Addr) (xs : List V) (i : Int) (y : V), x = .ref l ∧ vs = [.int i, y] ∧ H l = some (.lst xs) ∧ xs.length < sizeLine ∧ 0 ≤ i ∧ i < 2 ^ 63 ∧
    Q .non (upd H l (.lst (xs.take i.toNat ++ [y] ++ xs.drop i.toNat)))) to (tCons ta (tCons te tNil)))))
    (hd : (x == ("__debug__" : Str)) = false := by decide) (hcd : (x == ("__classdict__" : Str)) = false := by decide) : WS X c (.Expr (.Call (.Attribute (.Name x px) "insert" apos) [a, e] [] p) pos) N R := fun σ H Dn ev me q => by
  refine ⟨_, hp (pe_var hN hv hd hcd) E_pe E_pe, ?_⟩
  obtain ⟨v, s1, s2⟩ := ev.2 i _ g
  have s2 : v = .ref l := s2
  subst s2
  obtain ⟨xs, hl, dl⟩ := me.mu (l, .lst ws) (by rw [hμ]; simp)
  refine ⟨.ref l, s1, .inl ⟨rfl, xs, .inl (Rd.of hl)⟩, ?_⟩
  refine h σ H _ ev me fun v y H1 d p k1 m1 => ?_
  refine p σ H1 _ (ev.kp k1) m1 fun u w H2 d2 p2 k2 m2 => ?_
  obtain ⟨k, rfl, hk, hsz, hn⟩ := p2
  cases D.int_iff.mp d
  obtain ⟨ys, hl1, dl1⟩ := m2.mu (l, .lst ws) (by rw [hμ]; simp)
  obtain ⟨m3, k3⟩ := mem_upd (u' := .lst (ws.take k ++ [w] ++ ws.drop k)) (o := .lst (ys.take k ++ [u] ++ ys.drop k)) hμ m2 ⟨_, hl1, (by intro _ z; cases z), (by intro _ z; cases z)⟩ fun H' kk e => ⟨_, e, (((DA.to kk _ _ dl1).take k).append (DA.cons (D.to kk _ _ d2) DA.nil)).append ((DA.to kk _ _ dl1).drop k)⟩
  refine ⟨l, ys, (k : Int), u, rfl, rfl, hl1, by rw [dl1.len]; exact hsz, by omega, by omega, ?_⟩
  rw [Int.toNat_natCast]
  exact q.1 _ σ _ hn (EnvOk.xs' (ρ := c.ρ) ev (by rw [xs_swap hμ]; exact (k1.trans (k2.trans k3)).xs rfl) rfl) m3 ⟨rfl, rfl, rfl, by rw [ms_swap hμ]; exact k1.trans (k2.trans k3)⟩
/-- name = [], a list that will change -/
theorem ws_newlst (i : Nat) {x : Str} {pos' p1 : Pos} (hN : X.N.Nodup) (hi : X.N[i]? = some x) (hx : Loc X.env.scope x) (hf : X.fn x = true ∨ X.env.scope.names.lookup x = some .local) (h : ∀ l, N { c with ρ := c.ρ.set i (some (.adr l)), μ := (l, .lst []) :: c.μ })
    (hs : swapsWith (.List [] p1) (some (.Name x pos')) pos.line X.env = pure false := by rfl) : WS X c (.Assign [.Name x pos'] (.List [] p1) pos) N R := fun σ H Dn ev me q => by
  refine ⟨_, L2.ps_set hN hi hx (pe_lst pa_nil) hs hf, ?_⟩
  refine ⟨Nat.zero_le _, fun l hl => ?_⟩
  have gr := Gro.upd (o := .lst []) hl
  have hfr := me.fresh hl
  have kx : Kp c.xs H ({ c with ρ := c.ρ.set i (some (.adr l)), μ := (l, .lst []) :: c.μ } : Cn).xs (upd H l (.lst [])) := fun a o n h t => ⟨by
    show a ∉ l :: _
    rw [List.mem_cons, not_or]
    exact ⟨(fun z => by rw [z, hl] at h; cases h), n⟩, gr _ _ h⟩
  refine q.1 _ _ _ (h l) ?_ ?_ ⟨rfl, rfl, rfl, fun a o n h t => ⟨by
    show a ∉ l :: _
    rw [List.mem_cons, not_or]
    exact ⟨(fun z => by rw [z, hl] at h; cases h), n⟩, gr _ _ h⟩⟩
  · have e1 : EnvOk { c with μ := (l, .lst []) :: c.μ } σ (upd H l (.lst [])) := EnvOk.xs' (ρ := c.ρ) ev kx rfl
    exact EnvOk.set (v := .ref l) e1 rfl
  · refine ⟨fun q hq => ?_, fun a e => ?_, ?_, fun a h => ?_, tabs_gro gr me.tb⟩
    · rcases List.mem_cons.mp hq with rfl | hq
      · exact ⟨[], upd_same, DA.nil⟩
      · have hm := me.mu q hq
        obtain ⟨a, v⟩ := q
        cases v with
        | lst ws => obtain ⟨xs, e, d⟩ := hm; exact ⟨xs, gr _ _ e, DA.to kx ws xs d⟩
        | ins C dx fs => obtain ⟨xs, e, d⟩ := hm; exact ⟨xs, gr _ _ e, DF.to kx fs xs d⟩
    · exact (me.st a e).to (fun _ h _ => gr _ _ h) kx
    · exact List.nodup_cons.mpr ⟨hfr, me.nd⟩
    · obtain ⟨o, e, t⟩ := me.ex a h
      exact ⟨o, gr _ _ e, t⟩
/-- from now on nothing that changes is known to this block but the state: the lists are data -/
def Mu.w : Mu → W
  | .lst ws => .lst ws
  | .ins C _ fs => .ins C fs
def thF (μ : List (Addr × Mu)) : Option Th → Option Th
  | some (.adr a) => match μ.find? (fun p => p.1 == a) with
    | some p => some (.dat p.2.w)
    | none => some (.adr a)
  | x => x
def Cn.frz (c : Cn) : Cn := { c with ρ := c.ρ.map (thF c.μ), μ := [] }
theorem frz_ms {a : Addr} (h : a ∉ c.ms) : a ∉ c.frz.ms := fun z => h (by
  have z : a ∈ [] ++ c.sl := z
  exact List.mem_append_right _ (by simpa using z))
theorem frz_xs {a : Addr} (h : a ∉ c.xs) : a ∉ c.frz.xs := fun z => h (by
  unfold Cn.xs at z ⊢
  rcases List.mem_append.mp z with z | z
  · have z : a ∈ [] ++ c.sl := z
    exact List.mem_append_left _ (List.mem_append_right _ (by simpa using z))
  · exact List.mem_append_right _ z)
theorem frz_kp : Kp c.xs H c.frz.xs H := fun a o n h t => ⟨frz_xs n, h⟩
theorem frz_mem (me : Mem c H) : Mem c.frz H where
  mu := fun q hq => by cases hq
  st := fun a e => (me.st a e).to (fun _ h _ => h) frz_kp
  nd := by
    have h := me.nd
    unfold Cn.xs Cn.ms at h
    rw [List.append_assoc] at h
    have := (List.nodup_append.mp h).2.1
    show ([] ++ c.sl ++ c.ex).Nodup
    simpa using this
  ex := me.ex
  tb := me.tb
theorem frz_mu (me : Mem c H) {q : Addr × Mu} (hq : q ∈ c.μ) : q.1 ∉ c.frz.xs := fun z => by
  have h := me.nd
  unfold Cn.xs Cn.ms at h
  rw [List.append_assoc] at h
  have z : q.1 ∈ [] ++ c.sl ++ c.ex := z
  exact (List.nodup_append.mp h).2.2 q.1 (List.mem_map.mpr ⟨q, hq, rfl⟩) q.1 (by simpa using z) rfl
theorem frz_env (ev : EnvOk c σ H) (me : Mem c H) : EnvOk c.frz σ H := ⟨by rw [ev.1]; simp [Cn.frz], fun i th g => by
  have g : (c.ρ.map (thF c.μ))[i]? = some (some th) := g
  rw [List.getElem?_map] at g
  cases e : c.ρ[i]? with
  | none => rw [e] at g; cases g
  | some o =>
    rw [e] at g
    have g : thF c.μ o = some th := by simpa using g
    cases o with
    | none => cases g
    | some t =>
      obtain ⟨v, s1, s2⟩ := ev.2 i t e
      refine ⟨v, s1, ?_⟩
      cases t with
      | dat w =>
        cases g
        exact D.to frz_kp w v s2
      | prp p m =>
        cases g
        exact m _ _ _ _ _ frz_kp s2
      | adr a =>
        unfold thF at g
        dsimp only at g
        cases ef : c.μ.find? (fun p => p.1 == a) with
        | none =>
          rw [ef] at g
          cases g
          exact s2
        | some q =>
          rw [ef] at g
          cases g
          have hq := List.mem_of_find?_eq_some ef
          have ha : q.1 = a := by simpa using List.find?_some ef
          have s2 : v = .ref a := s2
          subst s2
          have hn := frz_mu me hq
          have hm := me.mu q hq
          obtain ⟨a', u⟩ := q
          cases ha
          cases u with
          | lst ws =>
            obtain ⟨xs, hx, d⟩ := hm
            exact D.lst_iff.mpr ⟨_, xs, rfl, hn, hx, DA.to frz_kp _ _ d⟩
          | ins C dx fs =>
            obtain ⟨xs, hx, d⟩ := hm
            exact D.ins_iff.mpr ⟨_, dx, xs, rfl, hn, hx, DF.to frz_kp _ _ d⟩⟩
theorem wss_freeze (h : WSs X c.frz ss N R) : WSs X c ss N R := fun σ H Dn ev me q => by
  refine h σ H Dn (frz_env ev me) (frz_mem me) ⟨fun c2 σ2 H2 n ev2 m2 g => q.1 c2 σ2 H2 n ev2 m2 ⟨g.st, g.ex, g.T, fun a o hn h t => g.kp a o (frz_ms hn) h t⟩, fun v w H2 r ok => q.2 v w H2 r ⟨ok.d, fun a o hn h t => ok.kp a o (frz_ms hn) h t, ok.st, ok.ex, ok.tb⟩⟩
/-- an expression whose answer is flat may see the lists that change -/
theorem kp_unfrz (k : Kp c.frz.ms H c.frz.ms H') (me : Mem c H) (m' : Mem c.frz H') : Kp c.ms H c.ms H' ∧ Mem c H' := by
  have kx : Kp c.xs H c.xs H' := fun a o n h t => ⟨n, (k a o (fun z => n (ms_xs (by
    have z : a ∈ [] ++ c.sl := z
    exact List.mem_append_right _ (by simpa using z)))) h t).2⟩
  refine ⟨fun a o n h t => ⟨n, (k a o (frz_ms n) h t).2⟩, ⟨fun q hq => ?_, fun a e => ?_, me.nd, fun a h => m'.ex a h, m'.tb⟩⟩
  · have hn := frz_mu me hq
    have hn' : q.1 ∉ c.frz.ms := fun z => hn (ms_xs z)
    have hm := me.mu q hq
    obtain ⟨a, u⟩ := q
    cases u with
    | lst ws =>
      obtain ⟨xs, e, d⟩ := hm
      exact ⟨xs, (k _ _ hn' e (fun _ z => by cases z)).2, DA.to kx _ _ d⟩
    | ins C dx fs =>
      obtain ⟨xs, e, d⟩ := hm
      exact ⟨xs, (k _ _ hn' e (fun _ z => by cases z)).2, DF.to kx _ _ d⟩
  · obtain ⟨_, _, _, _, _, _, x2, x3⟩ := me.st a e
    obtain ⟨ns, i, r, m, n, y1, y2, y3⟩ := m'.st a e
    exact ⟨ns, i, r, m, n, y1, x2, y3⟩
theorem we_borrow {P : W → Prop} (h : WE X c.frz e (fun w => (∃ v, w.v = some v) ∧ P w)) : WE X c e P := fun σ H Q ev me q => by
  refine h σ H _ (frz_env ev me) (frz_mem me) fun v w H' d p k m => ?_
  obtain ⟨k', m'⟩ := kp_unfrz k me m
  refine q v w H' ?_ p.2 k' m'
  obtain ⟨u, hu⟩ := p.1
  have e := D.of_v hu d
  subst e
  cases w with
  | non => cases hu; exact D.non
  | bl b => cases hu; exact D.bl b
  | int b => cases hu; exact D.int b
  | str b => cases hu; exact D.str b
  | _ => cases hu
theorem wt_borrow {P : Bool → Prop} (h : WT X c.frz e P) : WT X c e P := fun σ H Q ev me q => by
  refine h σ H _ (frz_env ev me) (frz_mem me) fun b H' p k m => ?_
  obtain ⟨k', m'⟩ := kp_unfrz k me m
  exact q b H' p k' m'
/-- self.f = e -/
theorem ws_self (i : Nat) {x f : Str} {px apos : Pos} (hN : X.N[i]? = some x) (hv : Vis X.env.scope x) {l C dx : Addr} (g : c.ρ[i]? = some (some (.adr l))) {μ1 μ2 : List (Addr × Mu)} {fs : List (Str × W)} (hμ : c.μ = μ1 ++ (l, .ins C dx fs) :: μ2)
    (cl : Cls X.K C) (na : NoAttr X.K C f) (hnew : fs.lookup f = none) (hlen : fs.length < 1000)
    (h : WE X c e (fun w => N { c with μ := μ1 ++ (l, .ins C dx (fs ++ [(f, w)])) :: μ2 })) (hs : swapsWith e (some (.Attribute (.Name x px) f apos)) pos.line X.env = pure false := by rfl)
    (hd : (x == ("__debug__" : Str)) = false := by decide) (hcd : (x == ("__classdict__" : Str)) = false := by decide) : WS X c (.Assign [.Attribute (.Name x px) f apos] e pos) N R := fun σ H Dn ev me q => by
  refine ⟨_, L2.ps_fld (pe_var hN hv hd hcd) E_pe hs, ?_⟩
  obtain ⟨v, s1, s2⟩ := ev.2 i _ g
  have s2 : v = .ref l := s2
  subst s2
  refine h σ H _ ev me fun v w H1 d p k1 m1 => ?_
  obtain ⟨ys, hl1, dl1⟩ := m1.mu (l, .ins C dx fs) (by rw [hμ]; simp)
  have put : ∀ (zs : List (Str × V)), zs.lookup f = none → putF f v zs = zs ++ [(f, v)] := fun zs => by
    induction zs with
    | nil => intro _; rfl
    | cons z zs ih =>
      intro hz
      obtain ⟨k, u⟩ := z
      rw [List.lookup_cons] at hz
      cases ek : (f == k) with
      | true => rw [ek] at hz; cases hz
      | false =>
        rw [ek] at hz
        have hne : ¬ (k == f) = true := by
          intro q
          rw [beq_iff_eq] at q
          rw [q] at ek
          simp at ek
        unfold putF
        first
          | rw [if_neg hne, ih hz]; rfl
          | (simp only [hne]; rw [ih hz]; rfl)
          | (split <;> simp_all)
  have dA : ∀ {fs : List (Str × W)} {ys : List (Str × V)} {Hq : Hp} {ex : List Addr}, DF Hq ex fs ys → D Hq ex w v → DF Hq ex (fs ++ [(f, w)]) (ys ++ [(f, v)]) := fun {fs} => by
    induction fs with
    | nil => intro ys Hq ex a b; rw [DF.nil_iff.mp a]; exact DF.cons b DF.nil
    | cons z zs ih =>
      intro ys Hq ex a b
      obtain ⟨k, u⟩ := z
      obtain ⟨v', r, rfl, d1, d2⟩ := DF.cons_iff.mp a
      exact DF.cons d1 (ih d2 b)
  have len : ∀ {fs : List (Str × W)} {ys : List (Str × V)}, DF H1 c.xs fs ys → ys.length = fs.length := fun {fs} => by
    induction fs with
    | nil => intro ys a; rw [DF.nil_iff.mp a]; rfl
    | cons z zs ih =>
      intro ys a
      obtain ⟨k, u⟩ := z
      obtain ⟨v', r, rfl, d1, d2⟩ := DF.cons_iff.mp a
      rw [List.length_cons, List.length_cons, ih d2]
  obtain ⟨m2, k2⟩ := mem_upd (u' := .ins C dx (fs ++ [(f, w)])) (o := .ins C dx (ys ++ [(f, v)])) hμ m1 ⟨_, hl1, (by intro _ z; cases z), (by intro _ z; cases z)⟩ fun H' k e => ⟨ys ++ [(f, v)], e, dA (DF.to k _ _ dl1) (D.to k _ _ d)⟩
  refine ⟨.ref l, s1, l, C, dx, ys, rfl, hl1, cl, na, by rw [len dl1]; exact hlen, ?_⟩
  rw [put ys (dl1.look0 hnew)]
  exact q.1 _ σ _ p (EnvOk.xs' (ρ := c.ρ) ev (by rw [xs_swap hμ]; exact (k1.trans k2).xs rfl) rfl) m2 ⟨rfl, rfl, rfl, by rw [ms_swap hμ]; exact k1.trans k2⟩
/-- for tg in it: body -/
theorem ws_for {it : Expr} (js : List Nat) (hp : PassesOwn (model X.prog X.w) X.A X.env X.xe) (hc : X.calm = true)
    (h : WI X c tg it (fun ds => ∃ I : Nat → Cn → Prop, I 0 c ∧ (∀ i c1 d, ds[i]? = some d → I i c1 → WG X c1 tg d js (fun ρ => WSs X { c1 with ρ := ρ } body (fun c2 => I (i + 1) c2) R)) ∧ (∀ c1, I ds.length c1 → N c1)))
    (hs : ∀ x, foldedSetIterable it X.env x = pure x := by intro _; rfl) : WS X c (.For tg it body [] pos) N R := fun σ H Dn ev me q => by
  refine ⟨_, L2.ps_for hp hc E_pi E_pg E_pss hs, ?_⟩
  refine h σ H _ ev me fun J ds H1 hJ hI k1 m1 => ?_
  obtain ⟨I, i0, step, fin⟩ := hI
  have q1 : AfS c σ H1 N R Dn := q.after (Grw.of k1)
  refine ⟨fun i m σ2 H2 => m = ds.length - i ∧ i ≤ ds.length ∧ ∃ c1, I i c1 ∧ EnvOk c1 σ2 H2 ∧ Mem c1 H2 ∧ Grw c c1 H1 H2, ⟨ds.length, by omega, Nat.zero_le _, c, i0, ev.kp k1, m1, Grw.refl⟩, ?_⟩
  rintro i m σ2 H2 ⟨rfl, hi, c1, hI, ev1, me1, g1⟩
  have jx := hJ _ H2 g1.xs (fun a ha => me1.some_of ha) i
  by_cases hlt : i < ds.length
  · right
    obtain ⟨d, hd⟩ : ∃ d, ds[i]? = some d := ⟨_, List.getElem?_eq_getElem hlt⟩
    obtain ⟨go, jy⟩ := jx.2 d hd
    refine ⟨go, fun σ' H' => i + 1 ≤ ds.length ∧ ∃ c1, I (i + 1) c1 ∧ EnvOk c1 σ' H' ∧ Mem c1 H' ∧ Grw c c1 H1 H', fun σ' H' ⟨z1, z2⟩ => ⟨ds.length - (i + 1), by omega, rfl, z1, z2⟩, fun x H' y => ?_⟩
    obtain ⟨dx, g⟩ := jy x H' y
    have g2 : Grw c1 c1 H2 H' := Grw.of (g.kp _)
    refine step i c1 d hd hI σ2 H' x _ (ev1.kp (g.kp _)) (me1.gro g) dx fun ρ σ3 n3 ev3 ag => ?_
    have g3 : Grw c { c1 with ρ := ρ } H1 H' := (g1.trans g2).trans ⟨rfl, rfl, rfl, Kp.refl⟩
    refine n3 σ3 H' _ ev3 ((me1.gro g).rho ρ) ⟨fun c2 σ4 H4 n4 ev4 m4 g4 => ⟨hlt, c2, n4, ev4, m4, g3.trans g4⟩, fun v w H4 r ok => q1.2 v w H4 r (ok.back g3)⟩
  · left
    have e : i = ds.length := by omega
    subst e
    exact ⟨jx.1 (Nat.le_refl _), q1.1 c1 σ2 H2 (fin c1 hI) ev1 me1 g1⟩
end
end K11
/-! KD8 -/
namespace K11
open PySem PySem.Spec PyProof.Rows L2
/-! ### promises over data -/
abbrev DSpec := List W → (W → Prop) → Prop
/-- a def that is given data and gives data -/
def spD (F : DSpec) : Sp := fun vs H Q _ => ∃ (ex : List Addr) (ws : List W) (T : List (Addr × Str)) (P : W → Prop), DA H ex ws vs ∧ ex.Nodup ∧ (∀ a ∈ ex, Al H a) ∧ LamX.Tabs T H ∧ F ws P ∧
  ∀ w v H', P w → D H' ex w v → Kp [] H [] H' → (∀ a ∈ ex, Al H' a) → LamX.Tabs T H' → Q v H'
/-- .. whose first argument is the law's state -/
def spS (F : DSpec) : Sp := fun vs H Q _ => ∃ (st : Addr × Addr) (us : List V) (ex : List Addr) (ws : List W) (T : List (Addr × Str)) (P : W → Prop), vs = .ref st.1 :: us ∧ StOk H (st.1 :: ex) st ∧ DA H (st.1 :: ex) ws us ∧ (st.1 :: ex).Nodup ∧ (∀ a ∈ ex, Al H a) ∧ LamX.Tabs T H ∧ F ws P ∧
  ∀ w v H', P w → D H' (st.1 :: ex) w v → Kp [st.1] H [st.1] H' → StOk H' (st.1 :: ex) st → (∀ a ∈ ex, Al H' a) → LamX.Tabs T H' → Q v H'
abbrev ISpec := List W → (List (Str × W) → Prop) → Prop
/-- an __init__: the new instance's fields -/
def spI (C : Addr) (F : ISpec) : Sp := fun vs H Q _ => ∃ (x dx : Addr) (us : List V) (ex : List Addr) (ws : List W) (T : List (Addr × Str)) (P : List (Str × W) → Prop), vs = .ref x :: us ∧ H x = some (.ins C dx []) ∧ DA H (x :: ex) ws us ∧ (x :: ex).Nodup ∧ (∀ a ∈ ex, Al H a) ∧ LamX.Tabs T H ∧ F ws P ∧
  ∀ fs gs H', P fs → H' x = some (.ins C dx gs) → DF H' (x :: ex) fs gs → Kp [x] H [x] H' → (∀ a ∈ ex, Al H' a) → LamX.Tabs T H' → Q .non H'
def rho0 (N : List Str) (ws : List W) : List (Option Th) := ws.map (fun w => some (Th.dat w)) ++ List.replicate (N.length - ws.length) none
/-- the context of a def's body -/
abbrev bx (P : Program) (w : World) (K : PySem.W.Frag) (mg : Str → Option Value) (base : Heap) (N : List Str) (qual : Str) (st : Stmt) (f : Addr) (cdv : Value) (A : Around) (outer : List Env) (s : Shared) (H : Hp) (E : XK) : Cx :=
  (cxOf C8.CX0 P w K mg base N qual (C8.fnScope st) f cdv A outer s H E).nox
theorem Kp.of0 {H H' : Hp} (k : Kp [] H [] H') (ex : List Addr) : Kp ex H ex H' := fun a o n h t => ⟨n, (k a o (by simp) h t).2⟩
theorem start_env {H : Hp} {N : List Str} {ex : List Addr} {T : List (Addr × Str)} {ws : List W} {vs : List V} (d : DA H ex ws vs) (c : Cn) (hr : c.ρ = rho0 N ws) (hx : ∀ w v, D H ex w v → D H c.xs w v) : EnvOk c (L2.start N vs) H := ⟨by
  rw [hr]; unfold L2.start rho0; simp [d.len], fun i th g => by
  rw [hr] at g
  unfold rho0 at g
  by_cases hi : i < ws.length
  · rw [List.getElem?_append_left (by simpa using hi), List.getElem?_map] at g
    rw [List.getElem?_eq_getElem hi] at g
    cases g
    obtain ⟨v, v1, v2⟩ := d.get (List.getElem?_eq_getElem hi)
    refine ⟨v, ?_, hx _ _ v2⟩
    unfold L2.start
    rw [List.getElem?_append_left (by rw [List.length_map, d.len]; exact hi), List.getElem?_map, v1]
    rfl
  · rw [List.getElem?_append_right (by simpa using hi), List.getElem?_replicate] at g
    split at g <;> cases g⟩
section
variable {P : Program} {w : World} {K : PySem.W.Frag} {mg : Str → Option Value} {base : Heap}
theorem cal_D {x : Str} {st : Stmt} {N ps : List Str} {k : Nat} {F : DSpec} (G : GDef K mg x st) (S : FnScope N ps (C8.fnScope st))
    (hb : ∀ (kV doc pm : Value) (an : Option Addr) (cdv ct : Value) (us : List Value), us.length = ps.length → bindArgs (PySem.W.fnOf x x (C8.fnArgs st) (C8.fnBody st) (C8.fnScope st) .none kV doc pm an cdv ct) ⟨us, []⟩ = pure (ps.zip us))
    (len : ∀ ws P, F ws P → ws.length = ps.length)
    (hbody : ∀ (f : Addr) (cdv : Value) (A : Around) (outer : List Env) (s : Shared) (H : Hp) (E : XK) (ex : List Addr) (T : List (Addr × Str)) (ws : List W) (P' : W → Prop), Room k (A.deeper (envOfC x (C8.fnScope st) s.heap.objs.size f cdv)) → F ws P' →
      WSs (bx P w K mg base N x st f cdv A outer s H E) { ρ := rho0 N ws, ex := ex, T := T } (C8.fnBody st) (fun _ => P' .non) P') : C8.Cal P w K mg base (k + 1) x (spD F) [] :=
  G.cal S hb (fun vs H Q E ⟨ex, ws, T, P', d, _, _, _, h, _⟩ => by rw [d.len]; exact len ws P' h) fun f cdv A outer s H vs Q E hr ⟨ex, ws, T, P', d, nd, he, ht, h, q⟩ => by
    have := hbody f cdv A outer s H E ex T ws P' hr h (L2.start N vs) H { nx := fun _ H' => Q .non H', rt := Q } (start_env (T := T) d _ rfl fun _ _ h => h) ⟨fun _ h => (nomatch h), fun _ h => (nomatch h), nd, he, ht⟩
      ⟨fun c' σ' H' n ev me g => q .non .non H' n D.non (fun a o n h t => ⟨n, (g.kp a o n h t).2⟩) (fun a h => me.ex a (by rw [g.ex]; exact h)) (by have := me.tb; rw [g.T] at this; exact this),
        fun v w H' r ok => q w v H' r ok.d ok.kp ok.ex ok.tb⟩
    exact this
theorem cal_S {x : Str} {st : Stmt} {N ps : List Str} {k : Nat} {F : DSpec} (G : GDef K mg x st) (S : FnScope N ps (C8.fnScope st))
    (hb : ∀ (kV doc pm : Value) (an : Option Addr) (cdv ct : Value) (us : List Value), us.length = ps.length → bindArgs (PySem.W.fnOf x x (C8.fnArgs st) (C8.fnBody st) (C8.fnScope st) .none kV doc pm an cdv ct) ⟨us, []⟩ = pure (ps.zip us))
    (len : ∀ ws P, F ws P → ws.length + 1 = ps.length) (hN : N ≠ [])
    (hbody : ∀ (f : Addr) (cdv : Value) (A : Around) (outer : List Env) (s : Shared) (H : Hp) (E : XK) (st' : Addr × Addr) (ex : List Addr) (T : List (Addr × Str)) (ws : List W) (P' : W → Prop), Room k (A.deeper (envOfC x (C8.fnScope st) s.heap.objs.size f cdv)) → F ws P' →
      WSs (bx P w K mg base N x st f cdv A outer s H E) { ρ := some (.adr st'.1) :: rho0 N.tail ws, st := some st', ex := ex, T := T } (C8.fnBody st) (fun _ => P' .non) P') : C8.Cal P w K mg base (k + 1) x (spS F) [] :=
  G.cal S hb (fun vs H Q E ⟨st', us, ex, ws, T, P', e, _, d, _, _, _, h, _⟩ => by rw [e, List.length_cons, d.len]; exact len ws P' h) fun f cdv A outer s H vs Q E hr ⟨st', us, ex, ws, T, P', e, sok, d, nd, he, ht, h, q⟩ => by
    subst e
    cases N with
    | nil => exact absurd rfl hN
    | cons n0 N =>
      have ev : EnvOk { ρ := some (.adr st'.1) :: rho0 N ws, st := some st', ex := ex, T := T } (L2.start (n0 :: N) (.ref st'.1 :: us)) H := by
        have e0 : L2.start (n0 :: N) (.ref st'.1 :: us) = some (.ref st'.1) :: L2.start N us := by
          unfold L2.start
          simp
        rw [e0]
        have e1 : EnvOk { ρ := rho0 N ws, st := some st', ex := ex, T := T } (L2.start N us) H := start_env (T := T) d _ rfl fun _ _ h => h
        refine ⟨by rw [List.length_cons, e1.1]; rfl, fun i th g => ?_⟩
        cases i with
        | zero => cases (show some (Th.adr st'.1) = some th by simpa using g); exact ⟨_, rfl, rfl⟩
        | succ i => exact e1.2 i th (by simpa using g)
      exact hbody f cdv A outer s H E st' ex T ws P' hr h _ H { nx := fun _ H' => Q .non H', rt := Q } ev ⟨fun _ h => (nomatch h), fun a h => by cases h; exact sok, nd, he, ht⟩
        ⟨fun c' σ' H' n ev me g => q .non .non H' n D.non (fun a o n h t => ⟨n, (g.kp a o n h t).2⟩) ((me.st st' (by rw [g.st])).to (fun _ h _ => h) (fun a o n h t => ⟨fun z => n (by
            unfold Cn.xs Cn.ms
            rw [List.append_assoc]
            refine List.mem_append_right _ ?_
            rw [sl_of g.st, g.ex]
            exact z), h⟩)) (fun a h => me.ex a (by rw [g.ex]; exact h)) (by have := me.tb; rw [g.T] at this; exact this),
          fun v w H' r ok => q w v H' r ok.d ok.kp (ok.st st' rfl) ok.ex ok.tb⟩
end
/-! ### calls -/
section
variable {X : Cx} {c : Cn} {P : W → Prop} {e a b : Expr} {es : List Expr} {pos p : Pos} {k j : Nat} {x m : Str}
/-- behind a call that is given data -/
theorem spD_use {F : DSpec} {ws : List W} {vs : List V} {H : Hp} {Q : VK} {E : XK} (me : Mem c H) (d : DA H c.xs ws vs) (h : F ws P) (q : AfE c H P Q) : spD F vs H Q E :=
  ⟨c.xs, ws, c.T, P, d, me.nd, fun a h => me.al_of h, me.tb, h, fun w v H' p d' k he ht => q v w H' d' p (k.of0 _) ⟨fun u hu => by
      have hm := me.mu u hu
      obtain ⟨a, u⟩ := u
      cases u with
      | lst ws => obtain ⟨xs, e, d⟩ := hm; exact ⟨xs, (k _ _ (by simp) e (fun _ z => by cases z)).2, DA.to (k.of0 _) _ _ d⟩
      | ins C dx fs => obtain ⟨xs, e, d⟩ := hm; exact ⟨xs, (k _ _ (by simp) e (fun _ z => by cases z)).2, DF.to (k.of0 _) _ _ d⟩,
    fun a h => (me.st a h).to (fun o h t => (k _ _ (by simp) h t).2) (k.of0 _), me.nd, fun a h => he a (List.mem_append_right _ h), ht⟩⟩
theorem we_c {F : DSpec} (cl : C8.Cal X.prog X.w X.K X.mg X.base k x (spD F) []) (hr : Room j X.A) (hk : k ≤ j) (hg : Gl X x) (h : WAs X c (e :: es) (fun ws => F ws P))
    (hdb : (x == ("__debug__" : Str)) = false := by decide) (he : starEach (e :: es) X.env = (false, eval e X.env) :: starEach es X.env := by rfl) (hpl : (backTo pos (starEach es X.env)).any (·.1) = false := by rfl) : WE X c (.Call (.Name x p) (e :: es) [] pos) P := fun σ H Q ev me q => by
  refine ⟨_, C8.pe_c cl hr hk hg E_pa hdb he hpl, ?_⟩
  refine h σ H _ ev me fun vs ws H1 d f k1 m1 => ?_
  rw [List.append_nil]
  exact spD_use m1 d f fun v w H' d' p k' m' => q v w H' d' p (k1.trans k') m'
theorem spS_use {st : Addr × Addr} {F : DSpec} {ws : List W} {us : List V} {H : Hp} {Q : VK} {E : XK} (hst : c.st = some st) (me : Mem c H) (d : DA H c.xs ws us) (h : F ws P) (q : AfE c H P Q) : spS F (.ref st.1 :: us) H Q E := by
  have hsl : c.sl = [st.1] := by unfold Cn.sl; rw [hst]; rfl
  have hmem : ∀ a, a ∈ c.xs ↔ a ∈ st.1 :: (c.μ.map (·.1) ++ c.ex) := fun a => by
    unfold Cn.xs Cn.ms
    rw [hsl]
    simp only [List.mem_append, List.mem_cons, List.mem_nil_iff, or_false, List.append_assoc]
    constructor
    · rintro (h | h | h)
      · exact .inr (.inl h)
      · exact .inl h
      · exact .inr (.inr h)
    · rintro (h | h | h)
      · exact .inr (.inl h)
      · exact .inl h
      · exact .inr (.inr h)
  have k1 : ∀ Z : Hp, Kp c.xs Z (st.1 :: (c.μ.map (·.1) ++ c.ex)) Z := fun Z a o n h t => ⟨fun z => n ((hmem a).mpr z), h⟩
  have k2 : ∀ Z : Hp, Kp (st.1 :: (c.μ.map (·.1) ++ c.ex)) Z c.xs Z := fun Z a o n h t => ⟨fun z => n ((hmem a).mp z), h⟩
  have nd : (st.1 :: (c.μ.map (·.1) ++ c.ex)).Nodup := by
    have h := me.nd
    unfold Cn.xs Cn.ms at h
    rw [hsl] at h
    have p : List.Perm (c.μ.map (·.1) ++ [st.1] ++ c.ex) (st.1 :: (c.μ.map (·.1) ++ c.ex)) := by
      rw [List.append_assoc]
      exact List.perm_middle
    exact p.nodup_iff.mp h
  have hms : ∀ u ∈ c.μ, u.1 ≠ st.1 := fun u hu z => (List.nodup_cons.mp nd).1 (List.mem_append_left _ (List.mem_map.mpr ⟨u, hu, z⟩))
  refine ⟨st, us, c.μ.map (·.1) ++ c.ex, ws, c.T, P, rfl, (me.st st hst).to (fun _ h _ => h) (k1 _), DA.to (k1 _) _ _ d, nd, fun a ha => me.al_of ((hmem a).mpr (List.mem_cons_of_mem _ ha)), me.tb, h, fun w v H' p d' k sok he ht => ?_⟩
  have kx : Kp c.xs H c.xs H' := fun a o n h t => ⟨n, (k a o (fun z => n ((hmem a).mpr (by rw [List.mem_singleton.mp z]; exact List.mem_cons_self))) h t).2⟩
  refine q v w H' (D.to (k2 _) _ _ d') p (fun a o n h t => ⟨n, (k a o (fun z => n (by rw [List.mem_singleton.mp z]; unfold Cn.ms; rw [hsl]; simp)) h t).2⟩) ⟨fun u hu => ?_, fun a h => ?_, me.nd, fun a h => he a (List.mem_append_right _ h), ht⟩
  · have hne := hms u hu
    have hm := me.mu u hu
    obtain ⟨a, u⟩ := u
    cases u with
    | lst ws => obtain ⟨xs, e, d⟩ := hm; exact ⟨xs, (k _ _ (by simpa using hne) e (fun _ z => by cases z)).2, DA.to kx _ _ d⟩
    | ins C dx fs => obtain ⟨xs, e, d⟩ := hm; exact ⟨xs, (k _ _ (by simpa using hne) e (fun _ z => by cases z)).2, DF.to kx _ _ d⟩
  · rw [hst] at h
    cases h
    exact sok.to (fun _ h _ => h) (k2 _)
/-- f(state, ..) -/
theorem we_cs {F : DSpec} (i : Nat) {y : Str} {py : Pos} {st : Addr × Addr} (cl : C8.Cal X.prog X.w X.K X.mg X.base k x (spS F) []) (hr : Room j X.A) (hk : k ≤ j) (hg : Gl X x) (hN : X.N[i]? = some y) (hv : Vis X.env.scope y) (g : c.ρ[i]? = some (some (.adr st.1))) (hst : c.st = some st)
    (h : WAs X c es (fun ws => F ws P)) (he : starEach (.Name y py :: es) X.env = (false, eval (.Name y py) X.env) :: starEach es X.env := by rfl) (hpl : (backTo pos (starEach es X.env)).any (·.1) = false := by rfl)
    (hdb : (x == ("__debug__" : Str)) = false := by decide) (hd : (y == ("__debug__" : Str)) = false := by decide) (hcd : (y == ("__classdict__" : Str)) = false := by decide) : WE X c (.Call (.Name x p) (.Name y py :: es) [] pos) P := fun σ H Q ev me q => by
  refine ⟨_, C8.pe_c cl hr hk hg (pa_cons (pe_var hN hv hd hcd) E_pa he) hdb he hpl, ?_⟩
  obtain ⟨v, s1, s2⟩ := ev.2 i _ g
  have s2 : v = .ref st.1 := s2
  subst s2
  refine ⟨.ref st.1, s1, ?_⟩
  refine h σ H _ ev me fun vs ws H1 d f k1 m1 => ?_
  show spS F (V.ref st.1 :: vs ++ []) H1 Q C8.E0
  rw [List.append_nil]
  exact spS_use hst m1 d f fun v w H' d' p k' m' => q v w H' d' p (k1.trans k') m'
/-- o.m(..) -/
theorem we_mt {pl : Sem Bool} {apos : Pos} {C : Addr} {F : DSpec} (cl : C8.Met X.prog X.w X.K X.mg X.base k C m (spD F) []) (hr : Room j X.A) (hk : k ≤ j)
    (h : WE X c a (fun w => ∃ fs, w = .ins C fs ∧ fs.lookup m = none ∧ WAs X c (e :: es) (fun ws => F (w :: ws) P)))
    (hst : starEach (e :: es) X.env = (false, eval e X.env) :: starEach es X.env := by rfl) (hpl : (backTo pos (starEach es X.env)).any (·.1) = false := by rfl)
    (ht : eval (.Call (.Attribute a m apos) (e :: es) [] pos) X.env = (do
      let ov ← eval a X.env
      standAt apos.atName
      let (f, first) ← holding [ov] (getMethod ov m pl)
      callWith pos f first (backTo pos (starEach (e :: es) X.env)) (backToKw pos (keywordEach [] X.env))) := by rfl) : WE X c (.Call (.Attribute a m apos) (e :: es) [] pos) P := fun σ H Q ev me q => by
  refine ⟨_, C8.pe_mt cl hr hk E_pe E_pa hst hpl ht, ?_⟩
  refine h σ H _ ev me fun v w H1 d hw k1 m1 => ?_
  obtain ⟨fs, e0, hm, hw⟩ := hw
  subst e0
  obtain ⟨l, dx, xs, e1, hn, hl, df⟩ := D.ins_iff.mp d
  subst e1
  refine ⟨l, dx, xs, rfl, hl, df.look0 hm, ?_⟩
  refine hw σ H1 _ (ev.kp k1) m1 fun vs ws H2 d2 f k2 m2 => ?_
  rw [List.append_nil]
  exact spD_use m2 (DA.cons (D.to (k2.xs rfl) _ _ d) d2) f fun v w H' d' p k' m' => q v w H' d' p (k1.trans (k2.trans k')) m'
theorem we_mt0 {pl : Sem Bool} {apos : Pos} {C : Addr} {F : DSpec} (cl : C8.Met X.prog X.w X.K X.mg X.base k C m (spD F) []) (hr : Room j X.A) (hk : k ≤ j)
    (h : WE X c a (fun w => ∃ fs, w = .ins C fs ∧ fs.lookup m = none ∧ F [w] P))
    (ht : eval (.Call (.Attribute a m apos) [] [] pos) X.env = (do
      let ov ← eval a X.env
      standAt apos.atName
      let (f, first) ← holding [ov] (getMethod ov m pl)
      callWith pos f first (backTo pos (starEach [] X.env)) (backToKw pos (keywordEach [] X.env))) := by rfl) : WE X c (.Call (.Attribute a m apos) [] [] pos) P := fun σ H Q ev me q => by
  refine ⟨_, C8.pe_mt0 cl hr hk E_pe ht, ?_⟩
  refine h σ H _ ev me fun v w H1 d hw k1 m1 => ?_
  obtain ⟨fs, e0, hm, hw⟩ := hw
  subst e0
  obtain ⟨l, dx, xs, e1, hn, hl, df⟩ := D.ins_iff.mp d
  subst e1
  refine ⟨l, dx, xs, rfl, hl, df.look0 hm, ?_⟩
  exact spD_use (E := C8.E0) m1 (DA.cons d DA.nil) hw fun v w H' d' p k' m' => q v w H' d' p (k1.trans k') m'
end
end K11
/-! KD9 -/
namespace K11
open PySem PySem.Spec PyProof.Rows L2
/-! ### data as the library's data -/
mutual
def W.py : W → PyData
  | .non => .none | .bl b => .bool b | .int i => .int i | .str z => .str z
  | .lst ws => .list (W.pys ws) | .tup ws => .tuple (W.pys ws) | .ins _ _ => .none | .dic _ => .none | .tpx ws => .tuple (W.pys ws)
def W.pys : List W → List PyData
  | [] => [] | w :: ws => w.py :: W.pys ws
end
mutual
def W.ok : W → Bool
  | .lst ws => W.oks ws | .tup ws => W.oks ws | .ins _ _ => false | .dic _ => false | .tpx ws => W.oks ws | _ => true
def W.oks : List W → Bool
  | [] => true | w :: ws => w.ok && W.oks ws
end
mutual
theorem D.dp {K : PySem.W.Frag} {H : Hp} {ex : List Addr} : ∀ (w : W) (v : V), w.ok = true → D H ex w v → Dp K H v w.py
  | .non, _, _, d => by rw [D.non_iff.mp d, W.py]; exact .non
  | .bl b, _, _, d => by rw [D.bl_iff.mp d, W.py]; exact .bl b
  | .int b, _, _, d => by rw [D.int_iff.mp d, W.py]; exact .int b
  | .str b, _, _, d => by rw [D.str_iff.mp d, W.py]; exact .str b
  | .lst ws, _, h, d => by
    obtain ⟨a, xs, rfl, _, ha, dd⟩ := D.lst_iff.mp d
    rw [W.py]
    exact .lst (.inl (Rd.of ha)) (DA.dp ws xs (by rw [W.ok] at h; exact h) dd)
  | .tup ws, _, h, d => by
    obtain ⟨a, xs, rfl, _, ha, dd⟩ := D.tup_iff.mp d
    rw [W.py]
    exact .tup (.inl (Rd.of ha)) (DA.dp ws xs (by rw [W.ok] at h; exact h) dd)
  | .tpx ws, _, h, d => by
    obtain ⟨a, xs, ob, rfl, _, ha, _, dd⟩ := D.tpx_iff.mp d
    rw [W.py]
    exact .tup (.inl (.inr ⟨ob, ha⟩)) (DA.dp ws xs (by rw [W.ok] at h; exact h) dd)
  | .ins _ _, _, h, _ => by rw [W.ok] at h; cases h
  | .dic _, _, h, _ => by rw [W.ok] at h; cases h
theorem DA.dp {K : PySem.W.Frag} {H : Hp} {ex : List Addr} : ∀ (ws : List W) (xs : List V), W.oks ws = true → DA H ex ws xs → DpAll K H xs (W.pys ws)
  | [], _, _, d => by rw [DA.nil_iff.mp d, W.pys]; exact .nil
  | w :: ws, _, h, d => by
    obtain ⟨v, r, rfl, d1, d2⟩ := DA.cons_iff.mp d
    rw [W.oks, Bool.and_eq_true] at h
    rw [W.pys]
    exact .cons (D.dp w v h.1 d1) (DA.dp ws r h.2 d2)
end
/-! ### what the operators do with data -/
abbrev AddW (x y : W) (P : W → Prop) : Prop := match x, y with
  | .int i, .int j => P (.int (i + j))
  | .str i, .str j => i.length + j.length ≤ sizeLine ∧ P (.str (i ++ j))
  | .lst i, .lst j => i.length + j.length ≤ sizeLine ∧ P (.lst (i ++ j))
  | _, _ => False
abbrev LenW (x : W) (P : W → Prop) : Prop := match x with
  | .lst ws => P (.int ws.length) | .tup ws => P (.int ws.length)
  | .str z => z.length ≤ sizeLine ∧ P (.int z.length)
  | _ => False
abbrev IxW (x y : W) (P : W → Prop) : Prop := match x, y with
  | .lst ws, .int i => ∃ w, atI ws i = some w ∧ P w
  | .tup ws, .int i => ∃ w, atI ws i = some w ∧ P w
  | .str z, .int i => z.length ≤ sizeLine ∧ ∃ k, atI z.cps.toList i = some k ∧ P (.str ⟨#[k]⟩)
  | _, _ => False
abbrev SlW (x : W) (l u : Option Int) (P : W → Prop) : Prop := match x with
  | .lst ws => P (.lst (cutL ws l u)) | .tup ws => P (.tup (cutL ws l u))
  | .str z => z.length ≤ sizeLine ∧ P (.str ⟨(cutL z.cps.toList l u).toArray⟩)
  | _ => False
abbrev IterW (x : W) (P : List W → Prop) : Prop := match x with
  | .lst ws => P ws | .tup ws => P ws | .str z => P (signs z) | _ => False
abbrev SeqW (x : W) (P : List W → Prop) : Prop := match x with
  | .lst ws => P ws | .tup ws => P ws | _ => False
abbrev OrdW (i : Int → Int → Bool) (s : List Nat → List Nat → Bool) (x y : W) (P : Bool → Prop) : Prop := match x, y with
  | .int a, .int b => P (i a b) | .str a, .str b => P (s a.cps.toList b.cps.toList) | _, _ => False
abbrev OrdI (i : Int → Int → Bool) (x y : W) (P : Bool → Prop) : Prop := match x, y with
  | .int a, .int b => P (i a b) | _, _ => False
abbrev EqW (x y : W) (P : Bool → Prop) : Prop := match x, y with
  | .int a, .int b => P (decide (a = b)) | .str a, .str b => P (decide (a = b)) | .bl a, .bl b => P (decide (a = b))
  | .lst a, .lst b => W.oks a = true ∧ W.oks b = true ∧ SeqAt.shaped (W.lst a).py = true ∧ SeqAt.shaped (W.lst b).py = true ∧ P (PyData.eqv (W.lst a).py (W.lst b).py)
  | .tpx a, .tpx b => W.oks a = true ∧ W.oks b = true ∧ SeqAt.shaped (W.tpx a).py = true ∧ SeqAt.shaped (W.tpx b).py = true ∧ P (PyData.eqv (W.tpx a).py (W.tpx b).py)
  | .tup a, .tup b => W.oks a = true ∧ W.oks b = true ∧ SeqAt.shaped (W.tup a).py = true ∧ SeqAt.shaped (W.tup b).py = true ∧ P (PyData.eqv (W.tup a).py (W.tup b).py)
  | _, _ => False
abbrev InW (x y : W) (P : Bool → Prop) : Prop := match x, y with
  | .str z, .lst ws => ∃ zs : List Str, ws = zs.map W.str ∧ P (decide (z ∈ zs))
  | .str z, .tup ws => ∃ zs : List Str, ws = zs.map W.str ∧ P (decide (z ∈ zs))
  | .str z, .str t => ∃ k, z = ⟨#[k]⟩ ∧ P (decide (k ∈ t.cps.toList))
  | .int z, .lst ws => ∃ zs : List Int, ws = zs.map W.int ∧ P (decide (z ∈ zs))
  | _, _ => False
abbrev BlW (x : W) (P : Bool → Prop) : Prop := match x with | .bl b => P b | _ => False
abbrev IntW (x : W) (P : Int → Prop) : Prop := match x with | .int b => P b | _ => False
abbrev StrW (x : W) (P : Str → Prop) : Prop := match x with | .str b => P b | _ => False
abbrev LstW (x : W) (P : List W → Prop) : Prop := match x with | .lst b => P b | _ => False
abbrev TupW (x : W) (P : List W → Prop) : Prop := match x with | .tup b => P b | _ => False
section
variable {X : Cx} {c : Cn} {P : W → Prop} {e a b : Expr} {es : List Expr} {pos p : Pos}
theorem IntW.ex {x : W} {P : Int → Prop} (h : IntW x P) : ∃ i, x = .int i ∧ P i := by cases x <;> first | exact ⟨_, rfl, h⟩ | exact False.elim h
theorem BlW.ex {x : W} {P : Bool → Prop} (h : BlW x P) : ∃ i, x = .bl i ∧ P i := by cases x <;> first | exact ⟨_, rfl, h⟩ | exact False.elim h
theorem StrW.ex {x : W} {P : Str → Prop} (h : StrW x P) : ∃ i, x = .str i ∧ P i := by cases x <;> first | exact ⟨_, rfl, h⟩ | exact False.elim h
theorem LstW.ex {x : W} {P : List W → Prop} (h : LstW x P) : ∃ i, x = .lst i ∧ P i := by cases x <;> first | exact ⟨_, rfl, h⟩ | exact False.elim h
theorem TupW.ex {x : W} {P : List W → Prop} (h : TupW x P) : ∃ i, x = .tup i ∧ P i := by cases x <;> first | exact ⟨_, rfl, h⟩ | exact False.elim h
theorem SeqW.ex {x : W} {P : List W → Prop} (h : SeqW x P) : ∃ i, (x = .lst i ∨ x = .tup i) ∧ P i := by cases x <;> first | exact ⟨_, .inl rfl, h⟩ | exact ⟨_, .inr rfl, h⟩ | exact False.elim h
theorem xe_add (h : WE X c a (fun x => WE X c b (fun y => AddW x y P))) : WE X c (.BinOp a .Add b pos) P :=
  we_bin (fun _ _ => pe_op (op_add.or (op_add_str.or op_cat))) (h.mono fun x h1 => h1.mono fun y h => fun H v u Q me dx dy q => by
    cases x <;> cases y <;> first
      | exact False.elim h
      | exact .inl (dr_i0 (g' := fun i j => .int (i + j)) (fun i j _ _ => D.int _) ⟨_, _, rfl, rfl, h⟩ H v u Q me dx dy q)
      | exact .inr (.inl ⟨_, _, D.str_iff.mp dx, D.str_iff.mp dy, h.1, dr_sc me q (D.str _) h.2⟩)
      | (obtain ⟨l, xs, rfl, _, h1, d1⟩ := D.lst_iff.mp dx
         obtain ⟨m, ys, rfl, _, h2, d2⟩ := D.lst_iff.mp dy
         exact .inr (.inr ⟨l, m, xs, ys, rfl, rfl, h1, h2, by rw [d1.len, d2.len]; exact h.1, fun p' hp => new_af me hp q (D.newL hp (me.fresh hp) (d1.append d2)) h.2⟩)))
theorem xe_sub (h : WE X c a (fun x => WE X c b (fun y => IntW x fun i => IntW y fun j => P (.int (i - j))))) : WE X c (.BinOp a .Sub b pos) P :=
  we_sub (h.mono fun x h1 => h1.mono fun y h => by obtain ⟨i, rfl, h2⟩ := h.ex; obtain ⟨j, rfl, h⟩ := h2.ex; exact ⟨i, j, rfl, rfl, h⟩)
theorem xe_mul (h : WE X c a (fun x => WE X c b (fun y => IntW x fun i => IntW y fun j => CMul i j ∧ P (.int (i * j))))) : WE X c (.BinOp a .Mult b pos) P :=
  we_mul (h.mono fun x h1 => h1.mono fun y h => by obtain ⟨i, rfl, h2⟩ := h.ex; obtain ⟨j, rfl, h⟩ := h2.ex; exact ⟨i, j, rfl, rfl, h⟩)
theorem xe_mod (h : WE X c a (fun x => WE X c b (fun y => IntW x fun i => IntW y fun j => 0 < j ∧ P (.int (i % j))))) : WE X c (.BinOp a .Mod b pos) P :=
  we_mod (h.mono fun x h1 => h1.mono fun y h => by obtain ⟨i, rfl, h2⟩ := h.ex; obtain ⟨j, rfl, h⟩ := h2.ex; exact ⟨i, j, rfl, rfl, h⟩)
theorem xe_fdiv (h : WE X c a (fun x => WE X c b (fun y => IntW x fun i => IntW y fun j => CDiv i j ∧ P (.int (i / j))))) : WE X c (.BinOp a .FloorDiv b pos) P :=
  we_fdiv (h.mono fun x h1 => h1.mono fun y h => by obtain ⟨i, rfl, h2⟩ := h.ex; obtain ⟨j, rfl, h⟩ := h2.ex; exact ⟨i, j, rfl, rfl, h⟩)
theorem xe_len (T : Txt X.K X.mg) (hg : Gl X "len") (he : starEach [a] X.env = (false, eval a X.env) :: starEach [] X.env) (h : WE X c a (fun x => LenW x P)) : WE X c (.Call (.Name "len" p) [a] [] pos) P :=
  we_blt (call_len_seq.or call_len_str) hg (T.fr "len") (by decide +kernel) (h.mono fun x h H vs Q me d q => by
    obtain ⟨v, rfl, dd⟩ := d.one
    cases x <;> first
      | exact False.elim h
      | (obtain ⟨a, xs, rfl, _, ha, de⟩ := D.lst_iff.mp dd
         exact .inl ⟨a, xs, rfl, .inl (.inl (Rd.of ha)), by rw [de.len]; exact dr_sc me q (D.int _) h⟩)
      | (obtain ⟨a, xs, rfl, _, ha, de⟩ := D.tup_iff.mp dd
         exact .inl ⟨a, xs, rfl, .inr (.inl (Rd.of ha)), by rw [de.len]; exact dr_sc me q (D.int _) h⟩)
      | exact .inr ⟨_, by rw [D.str_iff.mp dd], h.1, dr_sc me q (D.int _) h.2⟩) (he := he)
theorem xe_ix (hs : PlainIx b) (h : WE X c a (fun x => WE X c b (fun y => IxW x y P))) : WE X c (.Subscript a b pos) P :=
  we_bin (fun _ _ ha hb => pe_ix (ix_list.or (ix_tup.or ix_str)) ha hb hs) (h.mono fun x h1 => h1.mono fun y h => fun H v u Q me dx dy q => by
    cases x <;> cases y <;> first
      | exact False.elim h
      | (obtain ⟨w, h1, h2⟩ := h; exact .inl (dr_ixL ⟨_, _, w, rfl, rfl, h1, h2⟩ H v u Q me dx dy q))
      | (obtain ⟨w, h1, h2⟩ := h; exact .inr (.inl (dr_ixT ⟨_, _, w, rfl, rfl, h1, h2⟩ H v u Q me dx dy q)))
      | (obtain ⟨hz, k, hk, p⟩ := h; exact .inr (.inr ⟨_, _, k, D.str_iff.mp dx, D.int_iff.mp dy, hz, hk, dr_sc me q (D.str _) p⟩)))
theorem xe_sl {lo hi : Option Expr} {p2 : Pos} (h : WE X c a (fun x => WO X c lo (fun l => WO X c hi (fun u => SlW x l u P)))) : WE X c (.Subscript a (.Slice lo hi none p2) pos) P :=
  we_sl (sl_list.or (sl_tupA.or sl_str)) (h.mono fun x hx => hx.mono fun l hl => hl.mono fun u hu H v Q me d q => by
    cases x <;> first
      | exact False.elim hu
      | (obtain ⟨a, xs, rfl, _, ha, dd⟩ := D.lst_iff.mp d
         exact .inl ⟨a, xs, rfl, .inl (Rd.of ha), fun p' hp => new_af me hp q (D.newL hp (me.fresh hp) (dd.cut l u)) hu⟩)
      | (obtain ⟨a, xs, e, hn, ha, dd⟩ := D.tup_iff.mp d
         subst e
         refine .inr (.inl ⟨a, xs, rfl, .inl (Rd.of ha), fun hw => ?_, fun _ p' hp => new_af me hp q (D.newT hp (me.fresh hp) (dd.cut l u)) hu⟩)
         rename_i ws
         have e : cutL ws l u = ws := by
           unfold cutL
           rw [dd.len] at hw
           rw [hw.1, hw.2]
           simp
         have hu : P (.tup (cutL ws l u)) := hu
         rw [e] at hu
         exact dr_sc me q d hu)
      | (rename_i z
         have e : cutS z l u = ⟨(cutL z.cps.toList l u).toArray⟩ := by
           unfold cutS cutL
           rw [Array.length_toList]
           rfl
         refine .inr (.inr ⟨z, D.str_iff.mp d, hu.1, dr_sc me q (D.str _) ?_⟩)
         rw [e]
         exact hu.2))
theorem wo_int {P : Option Int → Prop} (h : WE X c e (fun w => IntW w fun i => P (some i))) : WO X c (some e) P := wo_some (h.mono fun x h => by obtain ⟨i, rfl, h⟩ := h.ex; exact ⟨i, rfl, h⟩)
theorem xe_lt {P : W → Prop} (h : WE X c a (fun x => WE X c b (fun y => OrdW (fun i j => decide (i < j)) (fun i j => decide (i < j)) x y (fun k => P (.bl (k)))))) : WE X c (.Compare a [.Lt] [b] pos) P :=
  we_bin (fun _ _ ha hb => pe_cmpR (op_lt.or op_lt_str) ha hb (nomark _)) (h.mono fun x h1 => h1.mono fun y h => fun H v u Q me dx dy q => by
    cases x <;> cases y <;> first
      | exact False.elim h
      | exact .inl ⟨_, _, D.int_iff.mp dx, D.int_iff.mp dy, dr_sc me q (D.bl _) (h)⟩
      | exact .inr ⟨_, _, D.str_iff.mp dx, D.str_iff.mp dy, dr_sc me q (D.bl _) (h)⟩)
theorem xt_lt {P : Bool → Prop} (h : WE X c a (fun x => WE X c b (fun y => OrdW (fun i j => decide (i < j)) (fun i j => decide (i < j)) x y (fun k => P (k))))) : WT X c (.Compare a [.Lt] [b] pos) P :=
  wt_bin (fun _ _ ha hb => pt_cmpR (op_lt.or op_lt_str) ha hb (nomark _)) (h.mono fun x h1 => h1.mono fun y h => fun H v u Q me dx dy q => by
    cases x <;> cases y <;> first
      | exact False.elim h
      | exact .inl ⟨_, _, D.int_iff.mp dx, D.int_iff.mp dy, dr_sc me q (D.bl _) (⟨_, rfl, h⟩)⟩
      | exact .inr ⟨_, _, D.str_iff.mp dx, D.str_iff.mp dy, dr_sc me q (D.bl _) (⟨_, rfl, h⟩)⟩)
theorem xe_le {P : W → Prop} (h : WE X c a (fun x => WE X c b (fun y => OrdW (fun i j => decide (i ≤ j)) (fun i j => !decide (j < i)) x y (fun k => P (.bl (k)))))) : WE X c (.Compare a [.LtE] [b] pos) P :=
  we_bin (fun _ _ ha hb => pe_cmpR (op_le.or op_le_str) ha hb (nomark _)) (h.mono fun x h1 => h1.mono fun y h => fun H v u Q me dx dy q => by
    cases x <;> cases y <;> first
      | exact False.elim h
      | exact .inl ⟨_, _, D.int_iff.mp dx, D.int_iff.mp dy, dr_sc me q (D.bl _) (h)⟩
      | exact .inr ⟨_, _, D.str_iff.mp dx, D.str_iff.mp dy, dr_sc me q (D.bl _) (h)⟩)
theorem xt_le {P : Bool → Prop} (h : WE X c a (fun x => WE X c b (fun y => OrdW (fun i j => decide (i ≤ j)) (fun i j => !decide (j < i)) x y (fun k => P (k))))) : WT X c (.Compare a [.LtE] [b] pos) P :=
  wt_bin (fun _ _ ha hb => pt_cmpR (op_le.or op_le_str) ha hb (nomark _)) (h.mono fun x h1 => h1.mono fun y h => fun H v u Q me dx dy q => by
    cases x <;> cases y <;> first
      | exact False.elim h
      | exact .inl ⟨_, _, D.int_iff.mp dx, D.int_iff.mp dy, dr_sc me q (D.bl _) (⟨_, rfl, h⟩)⟩
      | exact .inr ⟨_, _, D.str_iff.mp dx, D.str_iff.mp dy, dr_sc me q (D.bl _) (⟨_, rfl, h⟩)⟩)
theorem xe_gt {P : W → Prop} (h : WE X c a (fun x => WE X c b (fun y => OrdI (fun i j => decide (j < i)) x y (fun k => P (.bl (k)))))) : WE X c (.Compare a [.Gt] [b] pos) P :=
  we_bin (fun _ _ ha hb => pe_cmpR op_gt ha hb (nomark _)) (h.mono fun x h1 => h1.mono fun y h => fun H v u Q me dx dy q => by
    cases x <;> cases y <;> first
      | exact False.elim h
      | exact ⟨_, _, D.int_iff.mp dx, D.int_iff.mp dy, dr_sc me q (D.bl _) (h)⟩)
theorem xt_gt {P : Bool → Prop} (h : WE X c a (fun x => WE X c b (fun y => OrdI (fun i j => decide (j < i)) x y (fun k => P (k))))) : WT X c (.Compare a [.Gt] [b] pos) P :=
  wt_bin (fun _ _ ha hb => pt_cmpR op_gt ha hb (nomark _)) (h.mono fun x h1 => h1.mono fun y h => fun H v u Q me dx dy q => by
    cases x <;> cases y <;> first
      | exact False.elim h
      | exact ⟨_, _, D.int_iff.mp dx, D.int_iff.mp dy, dr_sc me q (D.bl _) (⟨_, rfl, h⟩)⟩)
theorem xe_ge {P : W → Prop} (h : WE X c a (fun x => WE X c b (fun y => OrdI (fun i j => decide (j ≤ i)) x y (fun k => P (.bl (k)))))) : WE X c (.Compare a [.GtE] [b] pos) P :=
  we_bin (fun _ _ ha hb => pe_cmpR op_ge ha hb (nomark _)) (h.mono fun x h1 => h1.mono fun y h => fun H v u Q me dx dy q => by
    cases x <;> cases y <;> first
      | exact False.elim h
      | exact ⟨_, _, D.int_iff.mp dx, D.int_iff.mp dy, dr_sc me q (D.bl _) (h)⟩)
theorem xt_ge {P : Bool → Prop} (h : WE X c a (fun x => WE X c b (fun y => OrdI (fun i j => decide (j ≤ i)) x y (fun k => P (k))))) : WT X c (.Compare a [.GtE] [b] pos) P :=
  wt_bin (fun _ _ ha hb => pt_cmpR op_ge ha hb (nomark _)) (h.mono fun x h1 => h1.mono fun y h => fun H v u Q me dx dy q => by
    cases x <;> cases y <;> first
      | exact False.elim h
      | exact ⟨_, _, D.int_iff.mp dx, D.int_iff.mp dy, dr_sc me q (D.bl _) (⟨_, rfl, h⟩)⟩)
theorem xe_eq {k : Nat} (hr : Room k X.A) {P : W → Prop} (h : WE X c a (fun x => WE X c b (fun y => EqW x y (fun k => P (.bl (k)))))) : WE X c (.Compare a [.Eq] [b] pos) P :=
  we_bin (fun _ _ ha hb => pe_cmpR (op_eq.or (op_eqD hr.units)) ha hb (nomark _)) (h.mono fun x h1 => h1.mono fun y h => fun H v u Q me dx dy q => by
    cases x <;> cases y <;> first
      | exact False.elim h
      | exact .inr ⟨_, _, D.dp _ _ (by rw [W.ok]; exact h.1) dx, D.dp _ _ (by rw [W.ok]; exact h.2.1) dy, h.2.2.1, h.2.2.2.1, dr_sc me q (D.bl _) (h.2.2.2.2)⟩
      | (rename_i i j
         cases D.str_iff.mp dx
         cases D.str_iff.mp dy
         have e : decide ((V.str i) = V.str j) = decide (i = j) := by rw [decide_eq_decide]; exact ⟨fun h => by injection h, fun h => by rw [h]⟩
         refine .inl ⟨rfl, ?_⟩
         rw [e]
         exact dr_sc me q (D.bl _) (h))
      | (rename_i i j
         cases D.int_iff.mp dx
         cases D.int_iff.mp dy
         have e : decide ((V.int i) = V.int j) = decide (i = j) := by rw [decide_eq_decide]; exact ⟨fun h => by injection h, fun h => by rw [h]⟩
         refine .inl ⟨rfl, ?_⟩
         rw [e]
         exact dr_sc me q (D.bl _) (h))
      | (rename_i i j
         cases D.bl_iff.mp dx
         cases D.bl_iff.mp dy
         have e : decide ((V.bl i) = V.bl j) = decide (i = j) := by rw [decide_eq_decide]; exact ⟨fun h => by injection h, fun h => by rw [h]⟩
         refine .inl ⟨rfl, ?_⟩
         rw [e]
         exact dr_sc me q (D.bl _) (h)))
theorem xt_eq {k : Nat} (hr : Room k X.A) {P : Bool → Prop} (h : WE X c a (fun x => WE X c b (fun y => EqW x y (fun k => P (k))))) : WT X c (.Compare a [.Eq] [b] pos) P :=
  wt_bin (fun _ _ ha hb => pt_cmpR (op_eq.or (op_eqD hr.units)) ha hb (nomark _)) (h.mono fun x h1 => h1.mono fun y h => fun H v u Q me dx dy q => by
    cases x <;> cases y <;> first
      | exact False.elim h
      | exact .inr ⟨_, _, D.dp _ _ (by rw [W.ok]; exact h.1) dx, D.dp _ _ (by rw [W.ok]; exact h.2.1) dy, h.2.2.1, h.2.2.2.1, dr_sc me q (D.bl _) (⟨_, rfl, h.2.2.2.2⟩)⟩
      | (rename_i i j
         cases D.str_iff.mp dx
         cases D.str_iff.mp dy
         have e : decide ((V.str i) = V.str j) = decide (i = j) := by rw [decide_eq_decide]; exact ⟨fun h => by injection h, fun h => by rw [h]⟩
         refine .inl ⟨rfl, ?_⟩
         rw [e]
         exact dr_sc me q (D.bl _) (⟨_, rfl, h⟩))
      | (rename_i i j
         cases D.int_iff.mp dx
         cases D.int_iff.mp dy
         have e : decide ((V.int i) = V.int j) = decide (i = j) := by rw [decide_eq_decide]; exact ⟨fun h => by injection h, fun h => by rw [h]⟩
         refine .inl ⟨rfl, ?_⟩
         rw [e]
         exact dr_sc me q (D.bl _) (⟨_, rfl, h⟩))
      | (rename_i i j
         cases D.bl_iff.mp dx
         cases D.bl_iff.mp dy
         have e : decide ((V.bl i) = V.bl j) = decide (i = j) := by rw [decide_eq_decide]; exact ⟨fun h => by injection h, fun h => by rw [h]⟩
         refine .inl ⟨rfl, ?_⟩
         rw [e]
         exact dr_sc me q (D.bl _) (⟨_, rfl, h⟩)))
theorem xe_ne {k : Nat} (hr : Room k X.A) {P : W → Prop} (h : WE X c a (fun x => WE X c b (fun y => EqW x y (fun k => P (.bl (!k)))))) : WE X c (.Compare a [.NotEq] [b] pos) P :=
  we_bin (fun _ _ ha hb => pe_cmpR (op_ne.or (op_neD hr.units)) ha hb (nomark _)) (h.mono fun x h1 => h1.mono fun y h => fun H v u Q me dx dy q => by
    cases x <;> cases y <;> first
      | exact False.elim h
      | exact .inr ⟨_, _, D.dp _ _ (by rw [W.ok]; exact h.1) dx, D.dp _ _ (by rw [W.ok]; exact h.2.1) dy, h.2.2.1, h.2.2.2.1, dr_sc me q (D.bl _) (h.2.2.2.2)⟩
      | (rename_i i j
         cases D.str_iff.mp dx
         cases D.str_iff.mp dy
         have e : decide ((V.str i) = V.str j) = decide (i = j) := by rw [decide_eq_decide]; exact ⟨fun h => by injection h, fun h => by rw [h]⟩
         refine .inl ⟨rfl, ?_⟩
         rw [e]
         exact dr_sc me q (D.bl _) (h))
      | (rename_i i j
         cases D.int_iff.mp dx
         cases D.int_iff.mp dy
         have e : decide ((V.int i) = V.int j) = decide (i = j) := by rw [decide_eq_decide]; exact ⟨fun h => by injection h, fun h => by rw [h]⟩
         refine .inl ⟨rfl, ?_⟩
         rw [e]
         exact dr_sc me q (D.bl _) (h))
      | (rename_i i j
         cases D.bl_iff.mp dx
         cases D.bl_iff.mp dy
         have e : decide ((V.bl i) = V.bl j) = decide (i = j) := by rw [decide_eq_decide]; exact ⟨fun h => by injection h, fun h => by rw [h]⟩
         refine .inl ⟨rfl, ?_⟩
         rw [e]
         exact dr_sc me q (D.bl _) (h)))
theorem xt_ne {k : Nat} (hr : Room k X.A) {P : Bool → Prop} (h : WE X c a (fun x => WE X c b (fun y => EqW x y (fun k => P (!k))))) : WT X c (.Compare a [.NotEq] [b] pos) P :=
  wt_bin (fun _ _ ha hb => pt_cmpR (op_ne.or (op_neD hr.units)) ha hb (nomark _)) (h.mono fun x h1 => h1.mono fun y h => fun H v u Q me dx dy q => by
    cases x <;> cases y <;> first
      | exact False.elim h
      | exact .inr ⟨_, _, D.dp _ _ (by rw [W.ok]; exact h.1) dx, D.dp _ _ (by rw [W.ok]; exact h.2.1) dy, h.2.2.1, h.2.2.2.1, dr_sc me q (D.bl _) (⟨_, rfl, h.2.2.2.2⟩)⟩
      | (rename_i i j
         cases D.str_iff.mp dx
         cases D.str_iff.mp dy
         have e : decide ((V.str i) = V.str j) = decide (i = j) := by rw [decide_eq_decide]; exact ⟨fun h => by injection h, fun h => by rw [h]⟩
         refine .inl ⟨rfl, ?_⟩
         rw [e]
         exact dr_sc me q (D.bl _) (⟨_, rfl, h⟩))
      | (rename_i i j
         cases D.int_iff.mp dx
         cases D.int_iff.mp dy
         have e : decide ((V.int i) = V.int j) = decide (i = j) := by rw [decide_eq_decide]; exact ⟨fun h => by injection h, fun h => by rw [h]⟩
         refine .inl ⟨rfl, ?_⟩
         rw [e]
         exact dr_sc me q (D.bl _) (⟨_, rfl, h⟩))
      | (rename_i i j
         cases D.bl_iff.mp dx
         cases D.bl_iff.mp dy
         have e : decide ((V.bl i) = V.bl j) = decide (i = j) := by rw [decide_eq_decide]; exact ⟨fun h => by injection h, fun h => by rw [h]⟩
         refine .inl ⟨rfl, ?_⟩
         rw [e]
         exact dr_sc me q (D.bl _) (⟨_, rfl, h⟩)))
theorem xe_in {P : W → Prop} (hm : behindInMarks .In b = false) (h : WE X c a (fun x => WE X c b (fun y => InW x y (fun k => P (.bl (k)))))) : WE X c (.Compare a [.In] [b] pos) P :=
  we_bin (fun _ _ ha hb => pe_cmpR (op_in_seq.or op_in_sign) ha hb hm) (h.mono fun x h1 => h1.mono fun y h => fun H v u Q me dx dy q => by
    cases x <;> cases y <;> first
      | exact False.elim h
      | (obtain ⟨zs, e, p⟩ := h; subst e; exact .inl (dr_inStrs (neg := false) ⟨_, zs, rfl, .inl rfl, p⟩ H v u Q me dx dy q))
      | (obtain ⟨zs, e, p⟩ := h; subst e; exact .inl (dr_inStrs (neg := false) ⟨_, zs, rfl, .inr rfl, p⟩ H v u Q me dx dy q))
      | (obtain ⟨k, e, p⟩ := h
         subst e
         exact .inr ⟨k, _, D.str_iff.mp dx, D.str_iff.mp dy, dr_sc me q (D.bl _) (p)⟩)
      | (obtain ⟨zs, e, p⟩ := h
         subst e
         cases D.int_iff.mp dx
         rw [← inV_ints] at p
         obtain ⟨a, xs, rfl, _, ha, d⟩ := D.lst_iff.mp dy
         cases DA.ints_iff d
         exact .inl ⟨a, _, rfl, .inl (.inl (Rd.of ha)), rfl, flat_ints zs, dr_sc me q (D.bl _) (p)⟩))
theorem xt_in {P : Bool → Prop} (hm : behindInMarks .In b = false) (h : WE X c a (fun x => WE X c b (fun y => InW x y (fun k => P (k))))) : WT X c (.Compare a [.In] [b] pos) P :=
  wt_bin (fun _ _ ha hb => pt_cmpR (op_in_seq.or op_in_sign) ha hb hm) (h.mono fun x h1 => h1.mono fun y h => fun H v u Q me dx dy q => by
    cases x <;> cases y <;> first
      | exact False.elim h
      | (obtain ⟨zs, e, p⟩ := h; subst e; exact .inl (dr_inStrs (neg := false) ⟨_, zs, rfl, .inl rfl, ⟨_, rfl, p⟩⟩ H v u Q me dx dy q))
      | (obtain ⟨zs, e, p⟩ := h; subst e; exact .inl (dr_inStrs (neg := false) ⟨_, zs, rfl, .inr rfl, ⟨_, rfl, p⟩⟩ H v u Q me dx dy q))
      | (obtain ⟨k, e, p⟩ := h
         subst e
         exact .inr ⟨k, _, D.str_iff.mp dx, D.str_iff.mp dy, dr_sc me q (D.bl _) (⟨_, rfl, p⟩)⟩)
      | (obtain ⟨zs, e, p⟩ := h
         subst e
         cases D.int_iff.mp dx
         rw [← inV_ints] at p
         obtain ⟨a, xs, rfl, _, ha, d⟩ := D.lst_iff.mp dy
         cases DA.ints_iff d
         exact .inl ⟨a, _, rfl, .inl (.inl (Rd.of ha)), rfl, flat_ints zs, dr_sc me q (D.bl _) (⟨_, rfl, p⟩)⟩))
theorem xe_nin {P : W → Prop} (hm : behindInMarks .NotIn b = false) (h : WE X c a (fun x => WE X c b (fun y => InW x y (fun k => P (.bl (!k)))))) : WE X c (.Compare a [.NotIn] [b] pos) P :=
  we_bin (fun _ _ ha hb => pe_cmpR (op_notIn_seq.or op_notIn_sign) ha hb hm) (h.mono fun x h1 => h1.mono fun y h => fun H v u Q me dx dy q => by
    cases x <;> cases y <;> first
      | exact False.elim h
      | (obtain ⟨zs, e, p⟩ := h; subst e; exact .inl (dr_inStrs (neg := true) ⟨_, zs, rfl, .inl rfl, p⟩ H v u Q me dx dy q))
      | (obtain ⟨zs, e, p⟩ := h; subst e; exact .inl (dr_inStrs (neg := true) ⟨_, zs, rfl, .inr rfl, p⟩ H v u Q me dx dy q))
      | (obtain ⟨k, e, p⟩ := h
         subst e
         exact .inr ⟨k, _, D.str_iff.mp dx, D.str_iff.mp dy, dr_sc me q (D.bl _) (p)⟩)
      | (obtain ⟨zs, e, p⟩ := h
         subst e
         cases D.int_iff.mp dx
         rw [← inV_ints] at p
         obtain ⟨a, xs, rfl, _, ha, d⟩ := D.lst_iff.mp dy
         cases DA.ints_iff d
         exact .inl ⟨a, _, rfl, .inl (.inl (Rd.of ha)), rfl, flat_ints zs, dr_sc me q (D.bl _) (p)⟩))
theorem xt_nin {P : Bool → Prop} (hm : behindInMarks .NotIn b = false) (h : WE X c a (fun x => WE X c b (fun y => InW x y (fun k => P (!k))))) : WT X c (.Compare a [.NotIn] [b] pos) P :=
  wt_bin (fun _ _ ha hb => pt_cmpR (op_notIn_seq.or op_notIn_sign) ha hb hm) (h.mono fun x h1 => h1.mono fun y h => fun H v u Q me dx dy q => by
    cases x <;> cases y <;> first
      | exact False.elim h
      | (obtain ⟨zs, e, p⟩ := h; subst e; exact .inl (dr_inStrs (neg := true) ⟨_, zs, rfl, .inl rfl, ⟨_, rfl, p⟩⟩ H v u Q me dx dy q))
      | (obtain ⟨zs, e, p⟩ := h; subst e; exact .inl (dr_inStrs (neg := true) ⟨_, zs, rfl, .inr rfl, ⟨_, rfl, p⟩⟩ H v u Q me dx dy q))
      | (obtain ⟨k, e, p⟩ := h
         subst e
         exact .inr ⟨k, _, D.str_iff.mp dx, D.str_iff.mp dy, dr_sc me q (D.bl _) (⟨_, rfl, p⟩)⟩)
      | (obtain ⟨zs, e, p⟩ := h
         subst e
         cases D.int_iff.mp dx
         rw [← inV_ints] at p
         obtain ⟨a, xs, rfl, _, ha, d⟩ := D.lst_iff.mp dy
         cases DA.ints_iff d
         exact .inl ⟨a, _, rfl, .inl (.inl (Rd.of ha)), rfl, flat_ints zs, dr_sc me q (D.bl _) (⟨_, rfl, p⟩)⟩))
end
end K11
/-! KD10 -/
namespace K11
open PySem PySem.Spec PyProof.Rows L2
section
variable {X : Cx} {c : Cn} {P : W → Prop} {e a b tg : Expr} {es : List Expr} {pos p p2 p3 p4 : Pos}
/-- how an argument list of one is written down -/
def One (X : Cx) (a : Expr) : Prop := starEach [a] X.env = (false, eval a X.env) :: starEach [] X.env
theorem x_isi_str (T : Txt X.K X.mg) (hg : Gl X "isinstance") (h2 : Gl X "str") (he : starEach [a, .Name "str" p2] X.env = (false, eval a X.env) :: starEach [.Name "str" p2] X.env) (hpl : (backTo pos (starEach [.Name "str" p2] X.env)).any (·.1) = false)
    (h : WE X c a (fun x => x.pl = true ∧ P (.bl (isiB x.ty "str")))) : WE X c (.Call (.Name "isinstance" p) [a, .Name "str" p2] [] pos) P := we_isi hg (T.fr "isinstance") h2 (T.fr "str") (T := "str") (by decide +kernel) (by decide) h (he := he) (hpl := hpl)
theorem x_isi_tup (T : Txt X.K X.mg) (hg : Gl X "isinstance") (h2 : Gl X "tuple") (he : starEach [a, .Name "tuple" p2] X.env = (false, eval a X.env) :: starEach [.Name "tuple" p2] X.env) (hpl : (backTo pos (starEach [.Name "tuple" p2] X.env)).any (·.1) = false)
    (h : WE X c a (fun x => x.pl = true ∧ P (.bl (isiB x.ty "tuple")))) : WE X c (.Call (.Name "isinstance" p) [a, .Name "tuple" p2] [] pos) P := we_isi hg (T.fr "isinstance") h2 (T.fr "tuple") (T := "tuple") (by decide +kernel) (by decide) h (he := he) (hpl := hpl)
theorem x_isi_lst (T : Txt X.K X.mg) (hg : Gl X "isinstance") (h2 : Gl X "list") (he : starEach [a, .Name "list" p2] X.env = (false, eval a X.env) :: starEach [.Name "list" p2] X.env) (hpl : (backTo pos (starEach [.Name "list" p2] X.env)).any (·.1) = false)
    (h : WE X c a (fun x => x.pl = true ∧ P (.bl (isiB x.ty "list")))) : WE X c (.Call (.Name "isinstance" p) [a, .Name "list" p2] [] pos) P := we_isi hg (T.fr "isinstance") h2 (T.fr "list") (T := "list") (by decide +kernel) (by decide) h (he := he) (hpl := hpl)
theorem x_isi_bool (T : Txt X.K X.mg) (hg : Gl X "isinstance") (h2 : Gl X "bool") (he : starEach [a, .Name "bool" p2] X.env = (false, eval a X.env) :: starEach [.Name "bool" p2] X.env) (hpl : (backTo pos (starEach [.Name "bool" p2] X.env)).any (·.1) = false)
    (h : WE X c a (fun x => x.pl = true ∧ P (.bl (isiB x.ty "bool")))) : WE X c (.Call (.Name "isinstance" p) [a, .Name "bool" p2] [] pos) P := we_isi hg (T.fr "isinstance") h2 (T.fr "bool") (T := "bool") (by decide +kernel) (by decide) h (he := he) (hpl := hpl)
theorem x_isi_int (T : Txt X.K X.mg) (hg : Gl X "isinstance") (h2 : Gl X "int") (he : starEach [a, .Name "int" p2] X.env = (false, eval a X.env) :: starEach [.Name "int" p2] X.env) (hpl : (backTo pos (starEach [.Name "int" p2] X.env)).any (·.1) = false)
    (h : WE X c a (fun x => x.pl = true ∧ P (.bl (isiB x.ty "int")))) : WE X c (.Call (.Name "isinstance" p) [a, .Name "int" p2] [] pos) P := we_isi hg (T.fr "isinstance") h2 (T.fr "int") (T := "int") (by decide +kernel) (by decide) h (he := he) (hpl := hpl)
theorem x_isi_lt {k : Nat} (T : Txt X.K X.mg) (hg : Gl X "isinstance") (h1 : Gl X "list") (h2 : Gl X "tuple")
    (he : starEach [a, .Tuple [.Name "list" p2, .Name "tuple" p3] k p4] X.env = (false, eval a X.env) :: starEach [.Tuple [.Name "list" p2, .Name "tuple" p3] k p4] X.env) (hpl : (backTo pos (starEach [.Tuple [.Name "list" p2, .Name "tuple" p3] k p4] X.env)).any (·.1) = false)
    (h : WE X c a (fun x => x.pl = true ∧ P (.bl (x.ty == "list" || x.ty == "tuple")))) : WE X c (.Call (.Name "isinstance" p) [a, .Tuple [.Name "list" p2, .Name "tuple" p3] k p4] [] pos) P :=
  we_isiLT hg (T.fr "isinstance") h1 (T.fr "list") h2 (T.fr "tuple") h he hpl
theorem x_all (T : Txt X.K X.mg) (hc : X.calm = true) (hg : Gl X "all") (he : starEach [a] X.env = (false, eval a X.env) :: starEach [] X.env) (h : WE X c a (fun x => LstW x fun ws => ∃ bs : List Bool, ws = bs.map W.bl ∧ P (.bl (bs.all id)))) : WE X c (.Call (.Name "all" p) [a] [] pos) P :=
  we_all hc hg (T.fr "all") (h.mono fun x h => by obtain ⟨ws, rfl, bs, rfl, h'⟩ := h.ex; exact ⟨bs, rfl, h'⟩) he
theorem x_tuple (T : Txt X.K X.mg) (hg : Gl X "tuple") (he : starEach [a] X.env = (false, eval a X.env) :: starEach [] X.env) (h : WE X c a (fun x => SeqW x fun ws => P (.tup ws))) : WE X c (.Call (.Name "tuple" p) [a] [] pos) P :=
  we_tupleOf hg (T.fr "tuple") (h.mono fun x h => h.ex) he
theorem x_list (T : Txt X.K X.mg) (hg : Gl X "list") (he : starEach [a] X.env = (false, eval a X.env) :: starEach [] X.env) (h : WE X c a (fun x => SeqW x fun ws => P (.lst ws))) : WE X c (.Call (.Name "list" p) [a] [] pos) P :=
  we_listOf hg (T.fr "list") (h.mono fun x h => h.ex) he
theorem x_sorted (T : Txt X.K X.mg) (hg : Gl X "sorted") (he : starEach [a] X.env = (false, eval a X.env) :: starEach [] X.env) (h : WE X c a (fun x => LstW x fun ws => ∃ zs : List Str, ws = zs.map W.str ∧ zs.length < 64 ∧ ∀ ys : List Str, ys.Perm zs → sortedS ys = true → P (.lst (ys.map W.str)))) : WE X c (.Call (.Name "sorted" p) [a] [] pos) P :=
  we_sortedS hg (T.fr "sorted") (h.mono fun x h => by obtain ⟨ws, rfl, zs, rfl, h'⟩ := h.ex; exact ⟨zs, rfl, h'⟩) he
theorem x_str (T : Txt X.K X.mg) (hg : Gl X "str") (he : starEach [a] X.env = (false, eval a X.env) :: starEach [] X.env) (h : WE X c a (fun x => StrW x fun z => P (.str z))) : WE X c (.Call (.Name "str" p) [a] [] pos) P :=
  we_strS hg (T.fr "str") (h.mono fun x h => h.ex) he
theorem x_int (T : Txt X.K X.mg) (hg : Gl X "int") (he : starEach [a] X.env = (false, eval a X.env) :: starEach [] X.env) (h : WE X c a (fun x => IntW x fun z => P (.int z))) : WE X c (.Call (.Name "int" p) [a] [] pos) P :=
  we_intI hg (T.fr "int") (h.mono fun x h => h.ex) he
theorem x_min (T : Txt X.K X.mg) (hc : X.calm = true) (hg : Gl X "min") (he : starEach [a, b] X.env = (false, eval a X.env) :: starEach [b] X.env) (he2 : starEach [b] X.env = (false, eval b X.env) :: starEach [] X.env) (hpl : (backTo pos (starEach [b] X.env)).any (·.1) = false)
    (h : WE X c a (fun x => WE X c b (fun y => IntW x fun i => IntW y fun j => P (.int (if j < i then j else i))))) : WE X c (.Call (.Name "min" p) [a, b] [] pos) P :=
  we_min2 hc hg (T.fr "min") (h.mono fun x h1 => h1.mono fun y h => by obtain ⟨i, rfl, h2⟩ := h.ex; obtain ⟨j, rfl, h⟩ := h2.ex; exact ⟨i, j, rfl, rfl, h⟩) he he2 hpl
theorem x_split {apos : Pos} (hs : starEach [b] X.env = [(false, eval b X.env)]) (hbase : attributeBase a "split" X.env (eval a X.env) = eval a X.env) (hline : (apos.endLine == pos.line) = true)
    (h : WE X c a (fun x => StrW x fun s => WE X c b (fun y => StrW y fun z => (z.length == 0) = false ∧ s.length + 2 ≤ sizeLine ∧ P (.lst ((Txt.split s z).map W.str))))) : WE X c (.Call (.Attribute a "split" apos) [b] [] pos) P :=
  we_split (h.mono fun x h => by obtain ⟨s, rfl, h⟩ := h.ex; exact ⟨s, rfl, h.mono fun y h => h.ex⟩) hs hbase hline
theorem x_join {apos : Pos} (hs : starEach [b] X.env = [(false, eval b X.env)]) (hbase : attributeBase a "join" X.env (eval a X.env) = eval a X.env) (hline : (apos.endLine == pos.line) = true)
    (h : WE X c a (fun x => StrW x fun s => WE X c b (fun y => LstW y fun ws => ∃ zs : List Str, ws = zs.map W.str ∧ (zs.map (·.length)).sum + zs.length * s.length ≤ 16777216 ∧ P (.str (Txt.join s zs))))) : WE X c (.Call (.Attribute a "join" apos) [b] [] pos) P :=
  we_join (h.mono fun x h => by obtain ⟨s, rfl, h⟩ := h.ex; exact ⟨s, rfl, h.mono fun y h => by obtain ⟨ws, rfl, zs, rfl, h'⟩ := h.ex; exact ⟨zs, rfl, h'⟩⟩) hs hbase hline
theorem x_and (h : WE X c a (fun w => BlW w fun k => if k = true then WE X c (.BoolOp .And (b :: es) pos) P else P (.bl false))) : WE X c (.BoolOp .And (a :: b :: es) pos) P := we_and (h.mono fun x h => h.ex)
theorem x_or (h : WE X c a (fun w => BlW w fun k => if k = true then P (.bl true) else WE X c (.BoolOp .Or (b :: es) pos) P)) : WE X c (.BoolOp .Or (a :: b :: es) pos) P := we_or (h.mono fun x h => h.ex)
theorem x_not (h : WE X c a (fun w => BlW w fun k => P (.bl (!k)))) : WE X c (.UnaryOp .Not a pos) P := we_not (h.mono fun x h => h.ex)
theorem x_val {P : Bool → Prop} (he : ∀ whole, isTrue e X.env whole = (do let v ← whole; standAt e.pos; holding [v] (truthy v))) (h : WE X c e (fun w => BlW w P)) : WT X c e P := wt_val (h.mono fun x h => h.ex) he
theorem x_chain {P : Bool → Prop} {c1 : Expr} (hm : lastMarks [CmpOp.LtE, .LtE] [b, c1] = false) (h : WE X c a (fun x => WE X c b (fun y => IntW x fun i => IntW y fun j => if i ≤ j then WE X c c1 (fun z => IntW z fun k => P (decide (j ≤ k))) else P false))) : WT X c (.Compare a [.LtE, .LtE] [b, c1] pos) P :=
  wt_chainLe (h.mono fun x h1 => h1.mono fun y h => by
    obtain ⟨i, rfl, h2⟩ := h.ex
    obtain ⟨j, rfl, h3⟩ := h2.ex
    refine ⟨i, j, rfl, rfl, ?_⟩
    by_cases q : i ≤ j
    · rw [if_pos q] at h3 ⊢
      exact h3.mono fun z h => h.ex
    · rw [if_neg q] at h3 ⊢
      exact h3) hm
theorem x_fstr2 {p1 p2 : Pos} {z : Str} {j} (h : WE X c a (fun x => StrW x fun s => s.length + z.length ≤ sizeLine ∧ P (.str (s ++ z)))) : WE X c (.JoinedStr [.FormattedValue a (-1) none p1, .Constant (.str z) j p2] pos) P := we_fstr2 (h.mono fun x h => h.ex)
theorem xg_tup {w : W} {js : List Nat} {N : List (Option Th) → Prop} {k n : Nat} (hc : X.calm = true) (hn : (assignEach es X.env).length = n) (hst : (assignEach es X.env).findIdx? (·.1) = none) (h : TupW w fun ws => ws.length = n ∧ WGs X c es ws js N) : WG X c (.Tuple es k pos) w js N :=
  wg_tup hc (by obtain ⟨ws, e, h⟩ := h.ex; exact ⟨ws, e, h⟩) hn hst
theorem x_iterL {P : List W → Prop} (h : WE X c a (fun x => LstW x P)) : WI X c tg a P := wi_list (h.mono fun x h => h.ex)
theorem x_iterT {P : List W → Prop} (h : WE X c a (fun x => TupW x P)) : WI X c tg a P := wi_tup (h.mono fun x h => h.ex)
theorem x_iterS {P : List W → Prop} (h : WE X c a (fun x => StrW x fun z => P (signs z))) : WI X c tg a P := wi_str (h.mono fun x h => h.ex)
theorem x_range {P : List W → Prop} (T : Txt X.K X.mg) (hg : Gl X "range") (hs : starEach [a] X.env = [(false, eval a X.env)]) (h : WE X c a (fun x => IntW x fun i => 0 ≤ i ∧ i < 2 ^ 62 ∧ P (rangeW i.toNat))) : WI X c tg (.Call (.Name "range" p) [a] [] pos) P :=
  wi_range hg (T.fr "range") (h.mono fun x h => by obtain ⟨i, rfl, h0, h1, h⟩ := h.ex; exact ⟨i.toNat, by rw [Int.toNat_of_nonneg h0], by omega, h⟩) hs hs
theorem x_enum {elts : List Expr} {kk : Nat} {tpos : Pos} {P : List W → Prop} (T : Txt X.K X.mg) (hg : Gl X "enumerate") (hs : starEach [a] X.env = [(false, eval a X.env)]) (h : WE X c a (fun x => LstW x fun ds => P (enumW ds))) : WI X c (.Tuple elts kk tpos) (.Call (.Name "enumerate" p) [a] [] pos) P :=
  wi_enum hg (T.fr "enumerate") (h.mono fun x h => h.ex) fun he => pi_enum hg (T.fr "enumerate") (pa_cons he pa_nil hs) hs
theorem fam_i {scope : Scope} {f : Cx → Prop} (h : ∀ (s : Shared) (H : Hp) (C : Addr) (cl : List (Str × Addr)) (fp : List Addr), f (X.blk s H scope (compEnvC scope cl C X.env) fp)) : fam X scope f := h
theorem ifp {c A B : Prop} [Decidable c] (h : c) (x : A) : if c then A else B := by rw [if_pos h]; exact x
theorem ifn {c A B : Prop} [Decidable c] (h : ¬ c) (x : B) : if c then A else B := by rw [if_neg h]; exact x
theorem ifD {c A B : Prop} [Decidable c] (h : c) (x : A) : if decide c = true then A else B := by rw [if_pos (decide_eq_true h)]; exact x
theorem ifDn {c A B : Prop} [Decidable c] (h : ¬ c) (x : B) : if decide c = true then A else B := by rw [if_neg (by simpa using h)]; exact x
theorem ifN {c A B : Prop} [Decidable c] (h : c) (x : B) : if (!decide c) = true then A else B := by rw [if_neg (by simpa using h)]; exact x
theorem ifNn {c A B : Prop} [Decidable c] (h : ¬ c) (x : A) : if (!decide c) = true then A else B := by rw [if_pos (by simpa using h)]; exact x
theorem ifB {k : Bool} {A B : Prop} (h : k = true) (x : A) : if k = true then A else B := by rw [if_pos h]; exact x
theorem ifBn {k : Bool} {A B : Prop} (h : k = false) (x : B) : if k = true then A else B := by rw [if_neg (by rw [h]; decide)]; exact x
theorem line6 {n : Nat} (h : n ≤ 1000000) : n ≤ sizeLine := Nat.le_trans h (by decide)
theorem IsNm.len {z : Str} (h : IsNm z) : z.length ≤ sizeLine := line6 (by have := h.2.1; omega)
theorem signs_len {z : Str} : (signs z).length = z.length := by simp [signs, Str.length]
theorem signs_get {z : Str} {i : Nat} {d : W} (h : (signs z)[i]? = some d) : ∃ k, k ∈ z.cps.toList ∧ d = .str ⟨#[k]⟩ := by
  unfold signs at h
  rw [List.getElem?_map] at h
  cases e : z.cps.toList[i]? with
  | none => rw [e] at h; cases h
  | some k =>
    rw [e] at h
    cases h
    exact ⟨k, List.mem_of_getElem? e, rfl⟩
theorem bls_const {ds : List W} {b : Bool} : ds.mapIdx (fun _ _ => W.bl b) = (List.replicate ds.length b).map W.bl := by
  rw [List.map_replicate]
  refine List.ext_getElem? fun i => ?_
  rw [List.getElem?_mapIdx, List.getElem?_replicate]
  by_cases h : i < ds.length
  · rw [List.getElem?_eq_getElem h, if_pos h]; rfl
  · rw [List.getElem?_eq_none (by omega), if_neg h]; rfl
theorem all_rep {n : Nat} : (List.replicate n true).all id = true := by simp
end
end K11
/-! KD11 -/
namespace K11
open PySem PySem.Spec PyProof.Rows L2
/-! ### *lines, tail = a list -/
section
variable {X : Cx}
theorem star_items {A : Around} {E : Value → Shared → Prop} {s : Shared} {l : Addr} {its : Array Value} {Q : List Value → Shared → Prop} (hh : A.handled = none) (hl : s.heap.IsList l its) (h1 : 1 ≤ its.size) (hz : its.size ≤ sizeLine)
    (h : ∀ (h₂ : Heap) (tk : Nat), (∀ b o, s.heap.get? b = some o → h₂.get? b = some o) → Q (.ref h₂.objs.size :: its.toList.drop (its.size - 1)) { s with heap := h₂.push { cls := .type "list", data := .seq (its.toList.take (its.size - 1)).toArray }, toks := tk }) :
    wpAny (model X.prog X.w) A (unpackItems (.ref l) 2 (some 0)) Q E s := by
  have hl0 := hl
  obtain ⟨ol, hol, _⟩ := hl0
  have hlt : l ≠ s.heap.objs.size := Nat.ne_of_lt (Heap.lt_size hol)
  unfold unpackItems
  refine wpAny_bind ?_
  unfold notIterableAtAll
  refine wpAny_bind (wpAny_specialOf hl.typeIs PySem.F.slot_list_iter.lookup ?_)
  refine wpAny_pure ?_
  simp only [Bool.false_eq_true, if_false]
  refine wpAny_bind (wpAny_holding (wpAny_pyIter_list hl ?_))
  refine wpAny_bind (wpAny_holding (wpAny_pure ?_))
  rw [if_neg (by simp)]
  refine wpAny_bind (wpAny_holding (PySem.W.kun_collect (I := s.heap.objs.size) (ax := l) (T := "list_iterator") (.inr (.inr (.inl rfl))) (Walks.list (A := A.in1) hh s.heap.objs.size l hlt its) (fun j u st => st.1.typeIs) (k := 0) (Nat.zero_le _)
    ⟨⟨_, Heap.get?_push_size _ rfl, rfl, rfl⟩, hl.push _⟩ (Heap.lt_size (Heap.get?_push_size _ rfl)) (Heap.lt_size (Heap.get?_push_of_some _ hol)) (fun h₂ tk hk => ?_) hz))
  rw [List.drop_zero]
  have hn : its.toList.length = its.size := Array.length_toList
  show wpAny _ _ (if its.toList.length < 1 then _ else _) _ _ _
  rw [if_neg (by omega)]
  have kp : ∀ b o, s.heap.get? b = some o → h₂.get? b = some o := fun b o e => hk b o (Nat.ne_of_lt (Heap.lt_size e)) (Heap.get?_push_of_some _ e)
  show wpAny _ _ (newList (its.toList.take (its.toList.length - 1)) >>= fun d => pure (([] : List Value) ++ [d] ++ its.toList.drop (its.toList.length - 1))) _ _ _
  rw [hn]
  refine wpAny_bind (wpAny_newList ?_ (by rw [List.length_take]; omega))
  exact wpAny_pure (h h₂ tk kp)
/-- the target *x, y -/
def gStar (K : PySem.W.Frag) (t : TGs) : TG := fun v σ H Q => ∃ a xs y, v = .ref a ∧ SqL K H a (xs ++ [y]) ∧ ∀ p, H p = none → t [.ref p, y] σ (upd H p (.lst xs)) Q
theorem pg_star {e1 e2 : Expr} {k : Nat} {t : TGs} {pos p1 : Pos} (hc : X.calm = true) (h : PGs X [.Starred e1 p1, e2] t)
    (hn : (assignEach [.Starred e1 p1, e2] X.env).length = 2 := by rfl) (hst : (assignEach [.Starred e1 p1, e2] X.env).findIdx? (·.1) = some 0 := by rfl) : PG X (.Tuple [.Starred e1 p1, e2] k pos) (gStar X.K t) := by
  refine ⟨fun pins s σ H v u Q I r hw => ?_⟩
  obtain ⟨a, xs, y, e1, hq, hw⟩ := hw
  subst e1
  cases r
  obtain ⟨its, rv, pl, hz⟩ := I.list hq
  have hlen := rv.length
  rw [List.length_append, List.length_singleton] at hlen
  rw [PyProof.Rows.assign_Tuple]
  refine wpAny_bind (wpAny_standAt ?_)
  unfold unpack
  rw [hn, hst]
  refine wpAny_bind (wpAny_holding (star_items (X := X) (I.ok.hd hc) pl.isList (by rw [List.size_toArray]; omega) (by rw [List.size_toArray]; rw [List.length_append, List.length_singleton] at hz; omega) fun h₂ tk kp => ?_))
  have I1 : Inv X pins σ H { s with heap := h₂, toks := tk } := I.kept (t' := tk) kp
  have hf : H h₂.objs.size = none := I1.hok.fresh (Nat.le_refl _)
  have e1 : its.toArray.toList.take (its.toArray.size - 1) = its.take xs.length := by
    rw [List.size_toArray, ← hlen]
    simp
  have e2 : its.toArray.toList.drop (its.toArray.size - 1) = its.drop xs.length := by
    rw [List.size_toArray, ← hlen]
    simp
  rw [e1, e2]
  have rt : Vals xs (its.take xs.length) := by
    have := rv.take xs.length
    rwa [List.take_left] at this
  have rd : Vals [y] (its.drop xs.length) := by
    have := rv.drop xs.length
    rwa [List.drop_left] at this
  have I2 : Inv X pins σ (upd H h₂.objs.size (.lst xs)) { s with heap := h₂.push { cls := .type "list", data := .seq (its.take xs.length).toArray }, toks := tk } :=
    I1.laid (t' := tk) (fun b o e => Heap.get?_push_of_some _ e) (Nat.le_refl _) ⟨by rw [List.length_append] at hz; omega, _, 0, rt, Heap.get?_push_size _ rfl⟩
  exact h.run pins _ σ _ [.ref h₂.objs.size, y] (.ref h₂.objs.size :: its.drop xs.length) Q I2 (.cons rfl rd) (hw _ hf)
theorem ws_star {c : Cn} {N : Cn → Prop} {R : W → Prop} {e : Expr} (i j : Nat) {x y : Str} {px py pp pt pos : Pos} {k : Nat} (hc : X.calm = true) (nd : X.N.Nodup) (hi : X.N[i]? = some x) (hj : X.N[j]? = some y) (hx : Loc X.env.scope x) (hy : Loc X.env.scope y) (fx : X.fn x = true ∨ X.env.scope.names.lookup x = some .local) (fy : X.fn y = true ∨ X.env.scope.names.lookup y = some .local)
    (h : WE X c e (fun w => LstW w fun ws => ∃ zs t, ws = zs ++ [t] ∧ N { c with ρ := (c.ρ.set i (some (.dat (.lst zs)))).set j (some (.dat t)) }))
    (hg : (assignEach [.Starred (.Name x px) pp, .Name y py] X.env).map (·.2) = assign (.Name x px) X.env :: (assignEach [.Name y py] X.env).map (·.2) := by rfl)
    (hg2 : (assignEach [.Name y py] X.env).map (·.2) = assign (.Name y py) X.env :: (assignEach [] X.env).map (·.2) := by rfl)
    (hn : (assignEach [.Starred (.Name x px) pp, .Name y py] X.env).length = 2 := by rfl) (hst : (assignEach [.Starred (.Name x px) pp, .Name y py] X.env).findIdx? (·.1) = some 0 := by rfl)
    (hs : swapsWithSole [.Tuple [.Starred (.Name x px) pp, .Name y py] k pt] e pos.line X.env = pure false := by rfl) (hw : swappedStores [.Tuple [.Starred (.Name x px) pp, .Name y py] k pt] e X.env = pure none := by rfl)
    (h1 : (assignEach [.Tuple [.Starred (.Name x px) pp, .Name y py] k pt] X.env).map (·.2) = [assign (.Tuple [.Starred (.Name x px) pp, .Name y py] k pt) X.env] := by rfl) :
    WS X c (.Assign [.Tuple [.Starred (.Name x px) pp, .Name y py] k pt] e pos) N R := fun σ H Dn ev me q => by
  have g2 : PGs X [.Starred (.Name x px) pp, .Name y py] (gCons (gName i) (gCons (gName j) gNil)) := by
    refine ⟨fun pins s σ H vs us Q I r hw => ?_⟩
    rw [hg]
    have := (pgs_cons (es := [.Name y py]) (pg_name (pos := px) nd hi hx fx) (pgs_cons (pg_name (pos := py) nd hj hy fy) pgs_nil hg2) (by
      show (assignEach (.Name x px :: [.Name y py]) X.env).map (·.2) = _
      rfl)).run pins s σ H vs us Q I r hw
    exact this
  refine ⟨_, L2.ps_asg E_pe (pg_star hc g2 hn hst) hs hw h1, ?_⟩
  refine h σ H _ ev me fun v w H1 d p k1 m1 => ?_
  obtain ⟨ws, rfl, zs, t, rfl, hn⟩ := p.ex
  obtain ⟨l, xs, rfl, _, hl, dl⟩ := D.lst_iff.mp d
  have hlen := dl.len
  have dz : DA H1 c.xs zs (xs.take zs.length) := by have := dl.take zs.length; rwa [List.take_left] at this
  have dt : DA H1 c.xs [t] (xs.drop zs.length) := by have := dl.drop zs.length; rwa [List.drop_left] at this
  obtain ⟨u, eu, du⟩ := DA.one dt
  have exs : xs = xs.take zs.length ++ [u] := by rw [← eu]; exact (List.take_append_drop _ _).symm
  refine ⟨l, xs.take zs.length, u, rfl, .inl (Rd.of (by rw [← exs]; exact hl)), fun p hp => ?_⟩
  have gr := Gro.upd (o := .lst (xs.take zs.length)) hp
  refine ⟨_, _, rfl, _, _, rfl, rfl, ?_⟩
  have e1 : EnvOk { c with ρ := c.ρ.set i (some (.dat (.lst zs))) } (σ.set i (some (.ref p))) (upd H1 p (.lst (xs.take zs.length))) := EnvOk.set (ev.kp (k1.trans (gr.kp _))) (D.newL hp (m1.fresh hp) dz)
  have e2 := EnvOk.set (i := j) (th := .dat t) (v := u) e1 (D.to (gr.kp _) _ _ du)
  exact q.1 _ _ _ hn e2 ((m1.gro gr).rho _) ⟨rfl, rfl, rfl, k1.trans (gr.kp _)⟩
/-! zip of two tuples -/
def zipW (xs ys : List W) : List W := List.zipWith (fun x y => W.tup [x, y]) xs ys
theorem wi_zipT {c : Cn} {P : List W → Prop} {a b : Expr} {elts : List Expr} {kk : Nat} {tpos p pos : Pos} (T : Txt X.K X.mg) (hg : Gl X "zip") (hs : starEach [a, b] X.env = (false, eval a X.env) :: starEach [b] X.env) (hs2 : starEach [b] X.env = (false, eval b X.env) :: starEach [] X.env) (hpl : (backTo pos (starEach [b] X.env)).any (·.1) = false)
    (h : WE X c a (fun x => WE X c b (fun y => TupW x fun xs => TupW y fun ys => P (zipW xs ys)))) : WI X c (.Tuple elts kk tpos) (.Call (.Name "zip" p) [a, b] [] pos) P := fun σ H R ev me q => by
  refine ⟨_, RZ.pi_zipA hg (T.fr "zip") (pa_cons E_pe (pa_cons E_pe pa_nil hs2) hs) hs hpl, ?_⟩
  refine h σ H _ ev me fun v x H1 dx hx k1 m1 => ?_
  refine hx σ H1 _ (ev.kp k1) m1 fun u y H2 dy hy k2 m2 => ?_
  obtain ⟨xs, rfl, hy2⟩ := hy.ex
  obtain ⟨ys, rfl, hp⟩ := hy2.ex
  obtain ⟨l, vs, rfl, n1, h1, d1⟩ := D.tup_iff.mp (D.to (k2.xs rfl) _ _ dx)
  obtain ⟨m, us, rfl, n2, h2, d2⟩ := D.tup_iff.mp dy
  refine ⟨l, m, vs, us, rfl, .inr ⟨.inl (Rd.of h1), .inl (Rd.of h2), q _ _ H2 (fun ex' H' kp ht i => ?_) hp (k1.trans k2) m2⟩⟩
  obtain ⟨n1', h1'⟩ := kp l _ n1 h1 (fun _ z => by cases z)
  obtain ⟨n2', h2'⟩ := kp m _ n2 h2 (fun _ z => by cases z)
  have d1' := DA.to kp xs vs d1
  have d2' := DA.to kp ys us d2
  have hlz : (zipW xs ys).length = min xs.length ys.length := by unfold zipW; rw [List.length_zipWith]
  refine ⟨fun hi => ⟨vs, us, .inl (Rd.of h1'), .inl (Rd.of h2'), by rw [hlz] at hi; rw [d1.len, d2.len]; omega⟩, fun d hd => ?_⟩
  unfold zipW at hd
  rw [List.getElem?_zipWith] at hd
  cases ex : xs[i]? with
  | none => rw [ex] at hd; simp at hd
  | some x =>
    cases ey : ys[i]? with
    | none => rw [ex, ey] at hd; simp at hd
    | some y =>
      rw [ex, ey] at hd
      have hd : W.tup [x, y] = d := by simpa using hd
      subst hd
      obtain ⟨v, v1, v2⟩ := d1'.get ex
      obtain ⟨u, u1, u2⟩ := d2'.get ey
      refine ⟨⟨vs, us, v, u, .inl (Rd.of h1'), .inl (Rd.of h2'), v1, u1⟩, fun z H3 yy => ?_⟩
      obtain ⟨T, p1, p2, rfl, hT, rfl, y1, y2⟩ := yy
      have a1 := y1 vs (.inl (Rd.of h1'))
      have a2 := y2 us (.inl (Rd.of h2'))
      rw [v1] at a1
      rw [u1] at a2
      cases a1
      cases a2
      exact ⟨pairD hT (nin_of ht hT) v2 u2, Gro.upd hT⟩
theorem lit_line {ws : List W} (h : Nat.ble ws.length 1000000 = true) : ws.length ≤ sizeLine := line6 (Nat.le_of_ble_eq_true h)
end
end K11
/-! KD12 -/
namespace K11
open PySem PySem.Spec PyProof.Rows L2
open AutoSeq1 (wpAny_loadPart')
/-! ### enumerate over a tuple -/
theorem meets_enumT (l : Addr) (items : Array Value) (n : Nat) (dct : Option Addr) (sl : Array (Option Value)) :
    Meets (Builtin.«enumerate.__new__» ⟨[.type "enumerate", .ref l], []⟩) (fun _ R s => s.heap.get? l = some { cls := .type "tuple", dict := dct, data := .seq items n, slots := sl } ∧
      R (.ok (.ret (.ref (s.heap.push { cls := .type "tuple_iterator", data := .fields #[.ref l, .int 0 0] }).objs.size)))
        { s with heap := (s.heap.push { cls := .type "tuple_iterator", data := .fields #[.ref l, .int 0 0] }).push { cls := .type "enumerate", data := .fields #[.none, .bool false, .ref s.heap.objs.size, rawInt 0, .none, .none] } }) :=
  .of_wp fun prog w A R s h => by
    obtain ⟨hp, g, d, tk, os⟩ := s; obtain ⟨hl, h⟩ := h
    have hsub := sub_enumerate
    have hL : Heap.IsTuple (Shared.heap ⟨hp, g, d, tk, os⟩) l items := ⟨_, hl, rfl, n, rfl⟩
    wp_walk using wpAny_loadPart' hl
    refine wpAny_stack_any fun st => wpAny_pure ?_
    split
    · rename_i c _ _ _ _ _
      cases (c == Value.type "enumerate")
      · wp_walk using wpAny_loadPart' hl, wpAny_pyIter_tuple hL
        exact ⟨_, rfl, h⟩
      · wp_walk using wpAny_loadPart' hl, wpAny_pyIter_tuple hL
        exact ⟨_, rfl, h⟩
    · wp_walk using wpAny_loadPart' hl, wpAny_pyIter_tuple hL
      exact ⟨_, rfl, h⟩
section
variable {prog : Program} {w : World} {A : Around} {E : Value → Shared → Prop} {s : Shared}
theorem call_enumT {l : Addr} {items : Array Value} {Q : Value → Shared → Prop} (hL : s.heap.IsTuple l items)
    (h : ∀ h', IsEnum h' (s.heap.objs.size + 1) s.heap.objs.size 0 .none → h'.IsTupleIter s.heap.objs.size l 0 → (∀ b o, s.heap.get? b = some o → h'.get? b = some o) → Q (.ref (s.heap.objs.size + 1)) { s with heap := h' }) :
    wpAny (model prog w) A (call (.type "enumerate") [.ref l]) Q E s := by
  obtain ⟨⟨c, dct, dt, sl⟩, hl, hc, n, hd⟩ := hL
  replace hc : c = .type "tuple" := hc
  replace hd : dt = .seq items n := hd
  subst hc hd
  refine callType_new F.called_enumerate (by decide) (F.typeCall_enumerate_1 _) (F.newCall_enumerate_1 _) (fun obj => F.args_object_init_2 obj _) F.entry_enumerate_new (meets_enumT l items n dct sl) ⟨hl, ?_⟩
  have hz : (s.heap.push { cls := .type "tuple_iterator", data := .fields #[.ref l, .int 0 0] }).objs.size = s.heap.objs.size + 1 := Heap.size_push ..
  show _ ∧ _
  rw [hz]
  have he : IsEnum ((s.heap.push { cls := .type "tuple_iterator", data := .fields #[.ref l, .int 0 0] }).push
      { cls := .type "enumerate", data := .fields #[.none, .bool false, .ref s.heap.objs.size, rawInt 0, .none, .none] }) (s.heap.objs.size + 1) s.heap.objs.size 0 .none := by
    have := Heap.get?_push_size (s.heap.push { cls := .type "tuple_iterator", data := .fields #[.ref l, .int 0 0] })
      (o := { cls := .type "enumerate", data := .fields #[.none, .bool false, .ref s.heap.objs.size, rawInt 0, .none, .none] }) rfl
    rw [hz] at this
    exact this
  exact ⟨⟨_, he, rfl⟩, h _ he ⟨_, Heap.get?_push_of_some _ (Heap.get?_push_size _ rfl), rfl, rfl⟩ fun b o x => Heap.get?_push_of_some _ (Heap.get?_push_of_some _ x)⟩
end
def IteT (K : PySem.W.Frag) (a : Addr) : It :=
  ⟨fun i H => ∃ (xs : List V) (x : V), SqT K H a xs ∧ xs[i]? = some x, fun i H v H' => ∃ T x, v = .ref T ∧ H T = none ∧ H' = upd H T (.tup [.int (i : Nat), x]) ∧ ∀ xs, SqT K H a xs → xs[i]? = some x, fun i H => ∃ xs : List V, SqT K H a xs ∧ xs.length ≤ i⟩
theorem turn_enumT {P : Program} {w : World} {K : PySem.W.Frag} {elts : List Expr} {kk : Nat} {tpos : Pos} (a e it : Addr) :
    Turn P w K (.Tuple elts kk tpos) (IteT K a) [e, it] e (fun i h => (∃ old, IsEnum h e it ((i : Nat) : Int) old) ∧ h.IsTupleIter it a i ∧ e ≠ it ∧ a ≠ it ∧ a ≠ e) where
  mem := by simp
  obj := fun i h st b hb => by
    obtain ⟨⟨old, he⟩, ⟨o, ho, hc, hd⟩, _⟩ := st
    have e' : b = e ∨ b = it := by simpa using hb
    rcases e' with z | z
    · rw [z]; exact ⟨_, he, fun v q => nomatch q⟩
    · rw [z]; exact ⟨o, ho, fun v q => by rw [hd] at q; cases q⟩
  keep := fun i h h' st k => let ⟨⟨old, he⟩, hi, hne⟩ := st; ⟨⟨old, k e (by simp) _ he⟩, hi.at fun o q => k it (by simp) o q, hne⟩
  item := by
    intro X hP hw hK hc i pins s σ H E I hf st hg
    subst hP hw hK
    obtain ⟨⟨old, he⟩, hit, hne, hai, hae⟩ := st
    obtain ⟨xs, x, hq, hx⟩ := hg
    obtain ⟨its, rv, p, hz⟩ := I.tuple hq
    obtain ⟨u, hu, ru⟩ := rv.get hx
    have hel : e < s.heap.objs.size := Heap.lt_size he
    have hil : it < s.heap.objs.size := by obtain ⟨_, q, _⟩ := hit; exact Heap.lt_size q
    have hlt : i < its.toArray.size := by
      rw [List.size_toArray]
      exact (List.getElem?_eq_some_iff.mp hu).1
    have D := Draws.tuple (prog := X.prog) (w := X.w) (A := X.A.in1) (show X.A.in1.handled = none from I.ok.hd hc) it a hai its.toArray
    refine wpAny_pyNext_enum_itemD D he ⟨hit, show s.heap.IsTuple a its.toArray from p⟩ hlt hne (by simp; exact ⟨hne, fun z => hae z.symm⟩) fun x' h' tk hP' ho hs' hT hsz hk => ?_
    have hxu : x' = u := by
      have hP' : its.toArray[i]? = some x' := hP'
      have : its[i]? = some x' := by simpa using hP'
      rw [hu] at this
      cases this
      rfl
    subst hxu
    refine ⟨_, rfl, wpAny_letOwnedTupleGo_enum (s := { s with heap := h', toks := tk + 1 }) ho fun h'' he' sb => ?_⟩
    have hT2 : h''.get? s.heap.objs.size = some { cls := .type "tuple", data := .seq #[.int i tk, x'] } := (sb.2 _ (Nat.ne_of_gt hel)).trans hT
    have new : ObjOk X.prog X.w (upd H s.heap.objs.size (.tup [.int (i : Nat), x])) h'' s.heap.objs.size (.tup [.int (i : Nat), x]) :=
      ⟨by show 2 ≤ sizeLine; decide, [.int i tk, x'], .cons ⟨_, rfl⟩ (.cons ru .nil), ⟨_, hT2, rfl, _, rfl⟩⟩
    have I1 : Inv X pins σ (upd H s.heap.objs.size (.tup [.int (i : Nat), x])) { s with heap := h'', toks := tk + 1 } :=
      I.turnedNew (ch := [e, it]) (fun b ob hb q => (sb.2 b (fun z => hb (by simp [z]))).trans (hk b ob (fun z => hb (by simp [z])) (fun z => hb (by simp [z])) q)) hf (Nat.le_refl _) new
    refine ⟨.ref s.heap.objs.size, _, I1, rfl, ⟨_, x, rfl, I.hok.fresh (Nat.le_refl _), rfl, fun ys hy => by rw [I.tuple_inj hy hq]; exact hx⟩, ⟨⟨x', ?_⟩, hs'.1.at fun o q => (sb.2 it (Ne.symm hne)).trans q, hne, hai, hae⟩, fun b hb => ?_⟩
    · have e1 : ((i + 1 : Nat) : Int) = (i : Int) + 1 := by omega
      rw [e1]; exact he'
    · have hb' : b < s.heap.objs.size := by
        have e' : b = e ∨ b = it := by simpa using hb
        rcases e' with z | z
        · rw [z]; exact hel
        · rw [z]; exact hil
      rw [upd_ne (Nat.ne_of_lt hb')]
      exact (hf b hb).1
  done := by
    intro X hP hw hK hc i pins s σ H E I hf st hg
    subst hP hw hK
    obtain ⟨⟨old, he⟩, hit, hne, hai, hae⟩ := st
    obtain ⟨xs, hq, hx⟩ := hg
    obtain ⟨its, rv, p, hz⟩ := I.tuple hq
    obtain ⟨f0, f1, f2, f3, f4, f5⟩ := hf it (by simp)
    have hl := rv.length
    have hT : s.TypeIs (.ref e) "enumerate" := ⟨_, he, rfl⟩
    have fin : ∀ h', Heap.ExtBut it s.heap h' → (none : Option Value) = none ∧ Inv X pins σ H { s with heap := h' } := fun h' eb => ⟨rfl, I.turned (t' := s.toks) (fun b o hb q => eb b o hb q) f0 f1 f3 f4 f5⟩
    unfold pyNext
    refine wpAny_bind (wpAny_attempt (wpAny_callSpecial?_slot (name := Str.ofString "__next__") hT F.slot_enumerate_next
      (wpAny_call_entry F.slot_enumerate_next hT F.entry_enumerate_next ?_ (F.args_enumerate_next_1 _))))
    show wpAny _ _ (field (.ref e) 2 >>= _) _ _ _
    refine wpAny_bind (wpAny_field he rfl (x := .ref it) rfl ?_)
    refine wpAny_bind (PySem.wpAny_nextOf_tuple_end (show X.A.in1.handled = none from I.ok.hd hc) hit (show s.heap.IsTuple a its.toArray from p) (by simp; omega) fun h' x he' hx' => ?_)
    obtain ⟨o, ho, hc⟩ := hx'
    refine wpAny_bind (wpAny_isInstance (T := "StopIteration") (b := true) ⟨o, ho, hc⟩ isSubtype_stop ?_)
    exact wpAny_pure (fin _ he')
  self := fun A i s Q E st h => let ⟨⟨_, he⟩, _⟩ := st; wpAny_pyIter_enum he h
def iEnumT (K : PySem.W.Frag) (ta : TA) : TI := fun σ H R => ta σ H fun vs H1 => ∃ a xs, vs = [.ref a] ∧ SqT K H1 a xs ∧ R (IteT K a) H1
theorem pi_enumT {X : Cx} {e : Expr} {ta : TA} {p pos tpos : Pos} {elts : List Expr} {kk : Nat} (hg : Gl X "enumerate") (hm : X.mg "enumerate" = none) (ha : PA X [e] ta) (hs : starEach [e] X.env = [(false, eval e X.env)] := by rfl) :
    PI X (.Tuple elts kk tpos) (.Call (.Name "enumerate" p) [e] [] pos) (iEnumT X.K ta) := by
  refine ⟨fun pins s σ H R I h => ?_⟩
  refine Call_ (ld_blt I hg hm boot_enumerate (PyProof.Rows.callWith_type1 (thn (ha.run pos pins s σ H _ I h) fun us s1 ⟨vs, H1, I1, r1, q1⟩ => ?_) hs rfl))
  obtain ⟨a, xs, ex, hq, q⟩ := q1
  subst ex
  cases r1 with
  | cons r rr =>
    cases rr
    cases r
    obtain ⟨its, rv, p', hz⟩ := I1.tuple hq
    have hal : a < s1.heap.objs.size := p'.lt
    refine call_enumT (show s1.heap.IsTuple a its.toArray from p') fun h' he hit hk => wpAny_pyIter_enum he ?_
    have I2 : Inv X pins σ H1 { s1 with heap := h' } := I1.kept (t' := s1.toks) hk
    refine ⟨s1.heap.objs.size + 1, [s1.heap.objs.size + 1, s1.heap.objs.size], _, _, H1, rfl, I2, turn_enumT a (s1.heap.objs.size + 1) s1.heap.objs.size, ⟨⟨.none, he⟩, hit, Nat.succ_ne_self _, Nat.ne_of_lt hal, Nat.ne_of_lt (Nat.lt_succ_of_lt hal)⟩, fun b hb => ?_, q⟩
    have e' : b = s1.heap.objs.size + 1 ∨ b = s1.heap.objs.size := by simpa using hb
    have hle : s1.heap.objs.size ≤ b := by
      rcases e' with z | z
      · rw [z]; exact Nat.le_add_right _ _
      · rw [z]; exact Nat.le_refl _
    exact I1.fpOk hle (I1.hok.fresh hle)
theorem x_enumT {X : Cx} {c : Cn} {a : Expr} {p pos : Pos} {elts : List Expr} {kk : Nat} {tpos : Pos} {P : List W → Prop} (T : Txt X.K X.mg) (hg : Gl X "enumerate") (hs : starEach [a] X.env = [(false, eval a X.env)]) (h : WE X c a (fun x => TupW x fun ds => P (enumW ds))) : WI X c (.Tuple elts kk tpos) (.Call (.Name "enumerate" p) [a] [] pos) P := fun σ H R ev me q => by
  refine ⟨_, pi_enumT hg (T.fr "enumerate") (pa_cons E_pe pa_nil hs) hs, ?_⟩
  refine h σ H _ ev me fun v x H1 dx hx k1 m1 => ?_
  obtain ⟨ds, rfl, hp⟩ := hx.ex
  obtain ⟨l, xs, rfl, hn, hl, dd⟩ := D.tup_iff.mp dx
  refine ⟨l, xs, rfl, .inl (Rd.of hl), q _ _ H1 (fun ex' H' kp ht i => ?_) hp k1 m1⟩
  obtain ⟨hn', hl'⟩ := kp l _ hn hl (fun _ z => by cases z)
  have dd' := DA.to kp ds xs dd
  refine ⟨fun hi => ⟨xs, .inl (Rd.of hl'), by rw [enumW_len] at hi; rw [dd.len]; exact hi⟩, fun d hd => ?_⟩
  obtain ⟨w, hw, rfl⟩ := enumW_get hd
  obtain ⟨v, v1, v2⟩ := dd'.get hw
  refine ⟨⟨xs, v, .inl (Rd.of hl'), v1⟩, fun x H3 y => ?_⟩
  obtain ⟨T, u, rfl, hT, rfl, y⟩ := y
  have := y xs (.inl (Rd.of hl'))
  rw [v1] at this
  cases this
  exact ⟨pairD hT (nin_of ht hT) (D.int _) v2, Gro.upd hT⟩
/-! the rules with the context laid open -/
section
variable {X : Cx} {ρ : List (Option Th)} {μ : List (Addr × Mu)} {st : Option (Addr × Addr)} {ex : List Addr} {T : List (Addr × Str)} {N : Cn → Prop} {R : W → Prop} {e a b tg : Expr} {es : List Expr} {pos p : Pos}
theorem vs_set (i : Nat) {x : Str} {pos' : Pos} (hN : X.N.Nodup) (hi : X.N[i]? = some x) (hx : Loc X.env.scope x) (hf : X.fn x = true ∨ X.env.scope.names.lookup x = some .local) (hs : swapsWith e (some (.Name x pos')) pos.line X.env = pure false) (h : WE X ⟨ρ, μ, st, ex, T⟩ e (fun w => N ⟨ρ.set i (some (.dat w)), μ, st, ex, T⟩)) : WS X ⟨ρ, μ, st, ex, T⟩ (.Assign [.Name x pos'] e pos) N R := ws_set i hN hi hx hf h hs
theorem vg_name (i : Nat) {x : Str} {w : W} {js : List Nat} {N : List (Option Th) → Prop} (hN : X.N.Nodup) (hi : X.N[i]? = some x) (hx : Loc X.env.scope x) (hf : X.fn x = true ∨ X.env.scope.names.lookup x = some .local) (hj : i ∈ js) (h : N (ρ.set i (some (.dat w)))) : WG X ⟨ρ, μ, st, ex, T⟩ (.Name x pos) w js N := wg_name i hN hi hx hf hj h
theorem vgs_cons {w : W} {ws : List W} {js : List Nat} {N : List (Option Th) → Prop} (he : (assignEach (a :: es) X.env).map (·.2) = assign a X.env :: (assignEach es X.env).map (·.2)) (h : WG X ⟨ρ, μ, st, ex, T⟩ a w js (fun ρ' => WGs X ⟨ρ', μ, st, ex, T⟩ es ws js N)) : WGs X ⟨ρ, μ, st, ex, T⟩ (a :: es) (w :: ws) js N := wgs_cons h he
theorem vgs_nil {js : List Nat} {N : List (Option Th) → Prop} (h : N ρ) : WGs X ⟨ρ, μ, st, ex, T⟩ [] [] js N := wgs_nil h
theorem vs_asg (js : List Nat) (hs : swapsWithSole [tg] e pos.line X.env = pure false) (hw : swappedStores [tg] e X.env = pure none) (h1 : (assignEach [tg] X.env).map (·.2) = [assign tg X.env]) (h : WE X ⟨ρ, μ, st, ex, T⟩ e (fun w => WG X ⟨ρ, μ, st, ex, T⟩ tg w js (fun ρ' => N ⟨ρ', μ, st, ex, T⟩))) : WS X ⟨ρ, μ, st, ex, T⟩ (.Assign [tg] e pos) N R := ws_asg js h hs hw h1
theorem vs_newlst (i : Nat) {x : Str} {pos' p1 : Pos} (hN : X.N.Nodup) (hi : X.N[i]? = some x) (hx : Loc X.env.scope x) (hf : X.fn x = true ∨ X.env.scope.names.lookup x = some .local) (h : ∀ l, N ⟨ρ.set i (some (.adr l)), (l, .lst []) :: μ, st, ex, T⟩)
    (hs : swapsWith (.List [] p1) (some (.Name x pos')) pos.line X.env = pure false := by rfl) : WS X ⟨ρ, μ, st, ex, T⟩ (.Assign [.Name x pos'] (.List [] p1) pos) N R := ws_newlst i hN hi hx hf h hs
theorem vs_star (i j : Nat) {x y : Str} {px py pp pt pos : Pos} {k : Nat} (hc : X.calm = true) (nd : X.N.Nodup) (hi : X.N[i]? = some x) (hj : X.N[j]? = some y) (hx : Loc X.env.scope x) (hy : Loc X.env.scope y) (fx : X.fn x = true ∨ X.env.scope.names.lookup x = some .local) (fy : X.fn y = true ∨ X.env.scope.names.lookup y = some .local)
    (h : WE X ⟨ρ, μ, st, ex, T⟩ e (fun w => LstW w fun ws => ∃ zs t, ws = zs ++ [t] ∧ N ⟨(ρ.set i (some (.dat (.lst zs)))).set j (some (.dat t)), μ, st, ex, T⟩))
    (hg : (assignEach [.Starred (.Name x px) pp, .Name y py] X.env).map (·.2) = assign (.Name x px) X.env :: (assignEach [.Name y py] X.env).map (·.2) := by rfl)
    (hg2 : (assignEach [.Name y py] X.env).map (·.2) = assign (.Name y py) X.env :: (assignEach [] X.env).map (·.2) := by rfl)
    (hn : (assignEach [.Starred (.Name x px) pp, .Name y py] X.env).length = 2 := by rfl) (hst : (assignEach [.Starred (.Name x px) pp, .Name y py] X.env).findIdx? (·.1) = some 0 := by rfl)
    (hs : swapsWithSole [.Tuple [.Starred (.Name x px) pp, .Name y py] k pt] e pos.line X.env = pure false := by rfl) (hw : swappedStores [.Tuple [.Starred (.Name x px) pp, .Name y py] k pt] e X.env = pure none := by rfl)
    (h1 : (assignEach [.Tuple [.Starred (.Name x px) pp, .Name y py] k pt] X.env).map (·.2) = [assign (.Tuple [.Starred (.Name x px) pp, .Name y py] k pt) X.env] := by rfl) :
    WS X ⟨ρ, μ, st, ex, T⟩ (.Assign [.Tuple [.Starred (.Name x px) pp, .Name y py] k pt] e pos) N R := ws_star i j hc nd hi hj hx hy fx fy h hg hg2 hn hst hs hw h1
/-- x.append(e), the list first among those that change -/
theorem vs_append (i : Nat) {x : Str} {px apos : Pos} (hN : X.N[i]? = some x) (hv : Vis X.env.scope x) {l : Addr} {ws : List W} (g : ρ[i]? = some (some (.adr l)))
    (h : WE X ⟨ρ, (l, .lst ws) :: μ, st, ex, T⟩ e (fun w => ws.length < sizeLine ∧ N ⟨ρ, (l, .lst (ws ++ [w])) :: μ, st, ex, T⟩))
    (hp : ∀ {to te}, PE X (.Name x px) to → PE X e te → PS X (.Expr (.Call (.Attribute (.Name x px) "append" apos) [e] [] p) pos) (tDrop (tBM X.K "list" rAppend to (tCons te tNil))))
    (hd : (x == ("__debug__" : Str)) = false := by decide) (hcd : (x == ("__classdict__" : Str)) = false := by decide) : WS X ⟨ρ, (l, .lst ws) :: μ, st, ex, T⟩ (.Expr (.Call (.Attribute (.Name x px) "append" apos) [e] [] p) pos) N R :=
  ws_append (c := ⟨ρ, (l, .lst ws) :: μ, st, ex, T⟩) i hN hv g (μ1 := []) (μ2 := μ) rfl h hp hd hcd
theorem int_i {i : Int} {P : Int → Prop} (h : P i) : IntW (.int i) P := h
theorem str_i {i : Str} {P : Str → Prop} (h : P i) : StrW (.str i) P := h
theorem bl_i {i : Bool} {P : Bool → Prop} (h : P i) : BlW (.bl i) P := h
theorem lst_i {i : List W} {P : List W → Prop} (h : P i) : LstW (.lst i) P := h
theorem tup_i {i : List W} {P : List W → Prop} (h : P i) : TupW (.tup i) P := h
theorem seqL_i {i : List W} {P : List W → Prop} (h : P i) : SeqW (.lst i) P := h
theorem seqT_i {i : List W} {P : List W → Prop} (h : P i) : SeqW (.tup i) P := h
theorem lenL_i {i : List W} {P : W → Prop} (h : P (.int i.length)) : LenW (.lst i) P := h
theorem lenT_i {i : List W} {P : W → Prop} (h : P (.int i.length)) : LenW (.tup i) P := h
theorem vs_setLc (i : Nat) {x : Str} {py : Pos} {it : Expr} {elt : Expr} {ifs : List Expr} {scope : Scope} {pos2 : Pos} (own : List (Str × Nat)) (hc : X.calm = true) (hN : X.N.Nodup) (hi : X.N[i]? = some x) (hyl : X.env.scope.names.lookup x = some .local)
    (hsw : swapsWith (.ListComp elt [⟨tg, it, ifs, 0⟩] scope pos2) (some (.Name x py)) pos.line X.env = pure true) (ok : BlkOk X.N X.env.scope scope own)
    (h : WLc X ⟨ρ, μ, st, ex, T⟩ scope own tg it elt ifs (fun w => N ⟨ρ.set i (some (.dat w)), μ, st, ex, T⟩))
    (hs : ∀ x, foldedSetIterable it X.env x = pure x := by intro _; rfl) : WS X ⟨ρ, μ, st, ex, T⟩ (.Assign [.Name x py] (.ListComp elt [⟨tg, it, ifs, 0⟩] scope pos2) pos) N R := ws_setLc i own hc hN hi hyl hsw ok h hs
theorem ixL_i {i : Int} {ws : List W} {w : W} {P : W → Prop} (j : Nat) (e : i = (j : Int)) (h : ws[j]? = some w) (p : P w) : IxW (.lst ws) (.int i) P := ⟨w, by rw [e]; exact atI_nat h, p⟩
theorem ixT_i {i : Int} {ws : List W} {w : W} {P : W → Prop} (j : Nat) (e : i = (j : Int)) (h : ws[j]? = some w) (p : P w) : IxW (.tup ws) (.int i) P := ⟨w, by rw [e]; exact atI_nat h, p⟩
theorem ixS_i {i : Int} {z : Str} {k : Nat} {P : W → Prop} (j : Nat) (e : i = (j : Int)) (hz : z.length ≤ sizeLine) (h : z.cps.toList[j]? = some k) (p : P (.str ⟨#[k]⟩)) : IxW (.str z) (.int i) P := ⟨hz, k, by rw [e]; exact atI_nat h, p⟩
/-- a, b = [], []: the second will change -/
theorem vs_par0 (i j : Nat) {x y : Str} {px py pt p1 p2 pt2 : Pos} {kt k2 : Nat} (hc : X.calm = true) (nd : X.N.Nodup) (hi : X.N[i]? = some x) (hj : X.N[j]? = some y) (hij : i ≠ j) (hx : X.env.scope.names.lookup x = some .local) (hy : X.env.scope.names.lookup y = some .local)
    (hw : swappedStores [.Tuple [.Name x px, .Name y py] kt pt] (.Tuple [.List [] p1, .List [] p2] k2 pt2) X.env = pure (some [x, y]))
    (h : ∀ l, N ⟨(ρ.set i (some (.dat (.lst [])))).set j (some (.adr l)), (l, .lst []) :: μ, st, ex, T⟩)
    (he : starEach [.List [] p1, .List [] p2] X.env = (false, eval (.List [] p1) X.env) :: starEach [.List [] p2] X.env := by rfl) (he2 : starEach [.List [] p2] X.env = (false, eval (.List [] p2) X.env) :: starEach [] X.env := by rfl)
    (hs : swapsWithSole [.Tuple [.Name x px, .Name y py] kt pt] (.Tuple [.List [] p1, .List [] p2] k2 pt2) pos.line X.env = pure false := by rfl) :
    WS X ⟨ρ, μ, st, ex, T⟩ (.Assign [.Tuple [.Name x px, .Name y py] kt pt] (.Tuple [.List [] p1, .List [] p2] k2 pt2) pos) N R := fun σ H Dn ev me q => by
  refine ⟨_, ps_par hc nd hi hj hij hx hy (pa_cons (pe_lst pa_nil) (pa_cons (pe_lst pa_nil) pa_nil he2) he) hw hs, ?_⟩
  refine ⟨Nat.zero_le _, fun d hd => ⟨Nat.zero_le _, fun l hl => ⟨_, _, rfl, ?_⟩⟩⟩
  have g1 := Gro.upd (o := .lst []) hd
  have g2 := Gro.upd (o := .lst []) hl
  have m1 := me.gro g1
  have hne : d ≠ l := fun z => by rw [← z, upd_same] at hl; cases hl
  have hfr := m1.fresh hl
  have hHl : H l = none := by
    cases q : H l with
    | none => rfl
    | some o => have := g1 _ _ q; rw [hl] at this; cases this
  have dd : D (upd (upd H d (.lst [])) l (.lst [])) (l :: (⟨ρ, μ, st, ex, T⟩ : Cn).xs) (.lst []) (.ref d) := D.lst_iff.mpr ⟨d, [], rfl, by
    rw [List.mem_cons, not_or]
    exact ⟨hne, me.fresh hd⟩, by rw [upd_ne hne]; exact upd_same, DA.nil⟩
  have kx : Kp (⟨ρ, μ, st, ex, T⟩ : Cn).xs H (l :: (⟨ρ, μ, st, ex, T⟩ : Cn).xs) (upd (upd H d (.lst [])) l (.lst [])) := fun a o n h t => ⟨by
    rw [List.mem_cons, not_or]
    exact ⟨(fun z => by rw [z, hHl] at h; cases h), n⟩, g2 _ _ (g1 _ _ h)⟩
  have e1 : EnvOk ⟨ρ, (l, .lst []) :: μ, st, ex, T⟩ σ (upd (upd H d (.lst [])) l (.lst [])) := EnvOk.xs' (ρ := ρ) ev kx rfl
  have e2 := EnvOk.set (i := i) (th := .dat (.lst [])) (v := .ref d) e1 dd
  have e3 := EnvOk.set (i := j) (th := .adr l) (v := .ref l) e2 rfl
  refine q.1 _ _ _ (h l) e3 ?_ ⟨rfl, rfl, rfl, fun a o n h t => ⟨by
    show a ∉ l :: _
    rw [List.mem_cons, not_or]
    exact ⟨(fun z => by rw [z, hHl] at h; cases h), n⟩, g2 _ _ (g1 _ _ h)⟩⟩
  refine ⟨fun q hq => ?_, fun a e => ?_, List.nodup_cons.mpr ⟨hfr, me.nd⟩, fun a h => ?_, tabs_gro (g1.trans g2) me.tb⟩
  · rcases List.mem_cons.mp hq with rfl | hq
    · exact ⟨[], upd_same, DA.nil⟩
    · have hm := me.mu q hq
      obtain ⟨a, v⟩ := q
      cases v with
      | lst ws => obtain ⟨xs, e, d⟩ := hm; exact ⟨xs, g2 _ _ (g1 _ _ e), DA.to kx ws xs d⟩
      | ins C dx fs => obtain ⟨xs, e, d⟩ := hm; exact ⟨xs, g2 _ _ (g1 _ _ e), DF.to kx fs xs d⟩
  · exact (me.st a e).to (fun _ h _ => g2 _ _ (g1 _ _ h)) kx
  · obtain ⟨o, e, t⟩ := me.ex a h
    exact ⟨o, g2 _ _ (g1 _ _ e), t⟩
end
theorem slL_from {ws : List W} {i : Int} {P : W → Prop} (k : Nat) (e : i = (k : Int)) (h : P (.lst (ws.drop k))) : SlW (.lst ws) (some i) none P := by subst e; show P (.lst _); rw [cutL_from]; exact h
theorem slT_from {ws : List W} {i : Int} {P : W → Prop} (k : Nat) (e : i = (k : Int)) (h : P (.tup (ws.drop k))) : SlW (.tup ws) (some i) none P := by subst e; show P (.tup _); rw [cutL_from]; exact h
theorem slL_to {ws : List W} {i : Int} {P : W → Prop} (k : Nat) (e : i = (k : Int)) (h : P (.lst (ws.take k))) : SlW (.lst ws) none (some i) P := by subst e; show P (.lst _); rw [cutL_to]; exact h
theorem slT_to {ws : List W} {i : Int} {P : W → Prop} (k : Nat) (e : i = (k : Int)) (h : P (.tup (ws.take k))) : SlW (.tup ws) none (some i) P := by subst e; show P (.tup _); rw [cutL_to]; exact h
/-! ### the module's numbers -/
structure Tx2 (K : PySem.W.Frag) (mg : Str → Option Value) : Prop where
  mFB : ∃ u, mg "MOST_FINDS_books" = some u ∧ RelV (.int 12) u
  mW : ∃ u, mg "MOST_WORDS" = some u ∧ RelV (.int 40) u
  mF : ∃ u, mg "MOST_FACTS" = some u ∧ RelV (.int 30) u
  mFT : ∃ u, mg "MOST_FINDS_tables" = some u ∧ RelV (.int 12) u
  mK : ∃ u, mg "MOST_KINDS" = some u ∧ RelV (.int 10) u
section
variable {X : Cx} {ρ : List (Option Th)} {st : Option (Addr × Addr)} {ex : List Addr} {T : List (Addr × Str)} {N : Cn → Prop} {R : W → Prop} {P : W → Prop} {e : Expr} {ss : List Stmt} {l : Addr} {ws : List W} {σ : L2.St} {H : Hp}
theorem env1 (j : Nat) (g : ρ[j]? = some (some (.adr l))) (ev : EnvOk ⟨ρ, [(l, .lst ws)], st, ex, T⟩ σ H) (me : Mem ⟨ρ, [(l, .lst ws)], st, ex, T⟩ H) : EnvOk ⟨ρ.set j (some (.dat (.lst ws))), [], st, ex, T⟩ σ H := ⟨by rw [ev.1]; simp, fun i th h => by
  have h : (ρ.set j (some (.dat (.lst ws))))[i]? = some (some th) := h
  by_cases z : i = j
  · subst z
    have hlt : i < ρ.length := (List.getElem?_eq_some_iff.mp g).1
    rw [List.getElem?_set_self hlt] at h
    cases h
    obtain ⟨v, s1, s2⟩ := ev.2 i _ g
    have s2 : v = .ref l := s2
    subst s2
    refine ⟨_, s1, ?_⟩
    obtain ⟨xs, hx, d⟩ := me.mu (l, .lst ws) (by simp)
    have hn := frz_mu me (q := (l, .lst ws)) (by simp)
    exact D.lst_iff.mpr ⟨l, xs, rfl, hn, hx, DA.to frz_kp _ _ d⟩
  · rw [List.getElem?_set_ne (Ne.symm z)] at h
    obtain ⟨v, s1, s2⟩ := ev.2 i th h
    refine ⟨v, s1, ?_⟩
    cases th with
    | dat w => exact D.to frz_kp w v s2
    | adr a => exact s2
    | prp p m => exact m _ _ _ _ _ frz_kp s2⟩
theorem mem1 {ρ' : List (Option Th)} (me : Mem ⟨ρ, [(l, .lst ws)], st, ex, T⟩ H) : Mem ⟨ρ', [], st, ex, T⟩ H := (frz_mem me).rho ρ'
theorem v_borrow (j : Nat) (g : ρ[j]? = some (some (.adr l))) (h : WE X ⟨ρ.set j (some (.dat (.lst ws))), [], st, ex, T⟩ e (fun w => (∃ v, w.v = some v) ∧ P w)) : WE X ⟨ρ, [(l, .lst ws)], st, ex, T⟩ e P := fun σ H Q ev me q => by
  refine h σ H _ (env1 j g ev me) (mem1 me) fun v w H' d p k m => ?_
  obtain ⟨k', m'⟩ := kp_unfrz (c := ⟨ρ, [(l, .lst ws)], st, ex, T⟩) k me ⟨m.mu, m.st, m.nd, m.ex, m.tb⟩
  refine q v w H' ?_ p.2 k' m'
  obtain ⟨u, hu⟩ := p.1
  have e := D.of_v hu d
  subst e
  cases w with
  | non => cases hu; exact D.non
  | bl b => cases hu; exact D.bl b
  | int b => cases hu; exact D.int b
  | str b => cases hu; exact D.str b
  | _ => cases hu
theorem vt_borrow {P : Bool → Prop} (j : Nat) (g : ρ[j]? = some (some (.adr l))) (h : WT X ⟨ρ.set j (some (.dat (.lst ws))), [], st, ex, T⟩ e P) : WT X ⟨ρ, [(l, .lst ws)], st, ex, T⟩ e P := fun σ H Q ev me q => by
  refine h σ H _ (env1 j g ev me) (mem1 me) fun b H' p k m => ?_
  obtain ⟨k', m'⟩ := kp_unfrz (c := ⟨ρ, [(l, .lst ws)], st, ex, T⟩) k me ⟨m.mu, m.st, m.nd, m.ex, m.tb⟩
  exact q b H' p k' m'
theorem v_freeze (j : Nat) (g : ρ[j]? = some (some (.adr l))) (h : WSs X ⟨ρ.set j (some (.dat (.lst ws))), [], st, ex, T⟩ ss N R) : WSs X ⟨ρ, [(l, .lst ws)], st, ex, T⟩ ss N R := fun σ H Dn ev me q => by
  refine h σ H Dn (env1 j g ev me) (mem1 me) ⟨fun c2 σ2 H2 n ev2 m2 g => q.1 c2 σ2 H2 n ev2 m2 ⟨g.st, g.ex, g.T, fun a o hn h t => g.kp a o (frz_ms (c := ⟨ρ, [(l, .lst ws)], st, ex, T⟩) hn) h t⟩, fun v w H2 r ok => q.2 v w H2 r ⟨ok.d, fun a o hn h t => ok.kp a o (frz_ms (c := ⟨ρ, [(l, .lst ws)], st, ex, T⟩) hn) h t, ok.st, ok.ex, ok.tb⟩⟩
end
end K11
/-! KD13 -/
namespace K11
open PySem PySem.Spec PyProof.Rows L2
/-- a method of the class at C -/
structure MDef (K : PySem.W.Frag) (C : Addr) (m qual : Str) (st : Stmt) : Prop where
  ex : ∃ f fd, FunD K m qual (C8.fnArgs st) (C8.fnBody st) (C8.fnScope st) [] [] f fd ∧ Cls K C ∧ Meth K C m f ∧ PySem.W.isFn K (.ref f) = true
section
variable {P : Program} {w : World} {K : PySem.W.Frag} {mg : Str → Option Value} {base : Heap}
theorem FunD.toFun {x qual : Str} {st : Stmt} {dvs : List V} {kws : List (Str × V)} {f : Addr} {fd : FuncData} (F : FunD K x qual (C8.fnArgs st) (C8.fnBody st) (C8.fnScope st) dvs kws f fd) : C8.Fun K x qual st f fd := by
  obtain ⟨oc, od, dV, kV, doc, pm, an, cdv, ct, osl, e, lk, hcd, _, _⟩ := F.ex
  exact ⟨oc, od, dV, kV, doc, pm, an, cdv, ct, osl, e, lk, hcd⟩
/-- a body over data, as a promise (whatever the def's way of being found) -/
theorem bodyD {qual : Str} {st : Stmt} {N : List Str} {k : Nat} {F : DSpec} {f : Addr}
    (hbody : ∀ (f : Addr) (cdv : Value) (A : Around) (outer : List Env) (s : Shared) (H : Hp) (E : XK) (ex : List Addr) (T : List (Addr × Str)) (ws : List W) (P' : W → Prop), Room k (A.deeper (envOfC qual (C8.fnScope st) s.heap.objs.size f cdv)) → F ws P' →
      WSs (bx P w K mg base N qual st f cdv A outer s H E) { ρ := rho0 N ws, ex := ex, T := T } (C8.fnBody st) (fun _ => P' .non) P') :
    ∀ (cdv : Value) (A : Around) (outer : List Env) (s : Shared) (H : Hp) (vs : List V) (Q : VK) (E : XK), Room k (A.deeper (envOfC qual (C8.fnScope st) s.heap.objs.size f cdv)) → spD F vs H Q E →
      ∃ t, PSs (cxOf C8.CX0 P w K mg base N qual (C8.fnScope st) f cdv A outer s H E).nox (C8.fnBody st) t ∧ t { nx := fun _ H' => Q .non H', rt := Q } (L2.start N vs) H := fun cdv A outer s H vs Q E hr ⟨ex, ws, T, P', d, nd, he, ht, h, q⟩ =>
  hbody f cdv A outer s H E ex T ws P' hr h (L2.start N vs) H { nx := fun _ H' => Q .non H', rt := Q } (start_env (T := T) d _ rfl fun _ _ h => h) ⟨fun _ h => (nomatch h), fun _ h => (nomatch h), nd, he, ht⟩
    ⟨fun c' σ' H' n ev me g => q .non .non H' n D.non (fun a o n h t => ⟨n, (g.kp a o n h t).2⟩) (fun a h => me.ex a (by rw [g.ex]; exact h)) (by have := me.tb; rw [g.T] at this; exact this),
      fun v w H' r ok => q w v H' r ok.d ok.kp ok.ex ok.tb⟩
theorem met_D {m qual : Str} {C : Addr} {st : Stmt} {N ps : List Str} {k : Nat} {F : DSpec} (G : MDef K C m qual st) (S : FnScope N ps (C8.fnScope st))
    (hb : ∀ (kV doc pm : Value) (an : Option Addr) (cdv ct : Value) (us : List Value), us.length = ps.length → bindArgs (PySem.W.fnOf m qual (C8.fnArgs st) (C8.fnBody st) (C8.fnScope st) .none kV doc pm an cdv ct) ⟨us, []⟩ = pure (ps.zip us))
    (len : ∀ ws P, F ws P → ws.length = ps.length)
    (hbody : ∀ (f : Addr) (cdv : Value) (A : Around) (outer : List Env) (s : Shared) (H : Hp) (E : XK) (ex : List Addr) (T : List (Addr × Str)) (ws : List W) (P' : W → Prop), Room k (A.deeper (envOfC qual (C8.fnScope st) s.heap.objs.size f cdv)) → F ws P' →
      WSs (bx P w K mg base N qual st f cdv A outer s H E) { ρ := rho0 N ws, ex := ex, T := T } (C8.fnBody st) (fun _ => P' .non) P') : C8.Met P w K mg base (k + 1) C m (spD F) [] := by
  obtain ⟨f, fd, FD, c, me, _⟩ := G.ex
  exact C8.met0 c me (FunD.toFun FD) (FD.bindsN hb) S (fun vs H Q E ⟨ex, ws, T, P', d, _, _, _, h, _⟩ => by rw [d.len]; exact len ws P' h) (bodyD hbody)
/-- .. with its address -/
theorem met_F {m qual : Str} {C : Addr} {st : Stmt} {N ps : List Str} {k : Nat} {F : DSpec} (G : MDef K C m qual st) (S : FnScope N ps (C8.fnScope st))
    (hb : ∀ (kV doc pm : Value) (an : Option Addr) (cdv ct : Value) (us : List Value), us.length = ps.length → bindArgs (PySem.W.fnOf m qual (C8.fnArgs st) (C8.fnBody st) (C8.fnScope st) .none kV doc pm an cdv ct) ⟨us, []⟩ = pure (ps.zip us))
    (len : ∀ ws P, F ws P → ws.length = ps.length)
    (hbody : ∀ (f : Addr) (cdv : Value) (A : Around) (outer : List Env) (s : Shared) (H : Hp) (E : XK) (ex : List Addr) (T : List (Addr × Str)) (ws : List W) (P' : W → Prop), Room k (A.deeper (envOfC qual (C8.fnScope st) s.heap.objs.size f cdv)) → F ws P' →
      WSs (bx P w K mg base N qual st f cdv A outer s H E) { ρ := rho0 N ws, ex := ex, T := T } (C8.fnBody st) (fun _ => P' .non) P') :
    ∃ f fd, Cls K C ∧ Meth K C m f ∧ PySem.W.isFn K (.ref f) = true ∧ FnOk P w K mg base C8.CX0 (k + 1) f fd ps (spD F) ∧ Binds K fd ps [] := by
  obtain ⟨f, fd, FD, c, me, hf⟩ := G.ex
  exact ⟨f, fd, c, me, hf, C8.fn0 (FunD.toFun FD) S (fun vs H Q E ⟨ex, ws, T, P', d, _, _, _, h, _⟩ => by rw [d.len]; exact len ws P' h) (bodyD hbody), FD.bindsN hb⟩
/-- a class with its __init__ -/
structure IDef (K : PySem.W.Frag) (mg : Str → Option Value) (x : Str) (C : Addr) (qual : Str) (st : Stmt) (ps : List Str) : Prop where
  ex : ∃ f fd, C8.Fun K "__init__" qual st f fd ∧ Mk K C f ∧ mg x = some (.ref C) ∧ Binds K fd ps []
theorem mak_D {x qual : Str} {C : Addr} {st : Stmt} {N ps : List Str} {k : Nat} {F : ISpec} (G : IDef K mg x C qual st ps) (S : FnScope N ps (C8.fnScope st))
    (len : ∀ ws P, F ws P → ws.length + 1 = ps.length) (hN : N ≠ [])
    (hbody : ∀ (f : Addr) (cdv : Value) (A : Around) (outer : List Env) (s : Shared) (H : Hp) (E : XK) (l dx : Addr) (ex : List Addr) (T : List (Addr × Str)) (ws : List W) (P' : List (Str × W) → Prop), Room k (A.deeper (envOfC qual (C8.fnScope st) s.heap.objs.size f cdv)) → F ws P' →
      WSs (bx P w K mg base N qual st f cdv A outer s H E) ⟨some (.adr l) :: rho0 N.tail ws, [(l, .ins C dx [])], none, ex, T⟩ (C8.fnBody st) (fun c' => ∃ fs, c'.μ = [(l, .ins C dx fs)] ∧ P' fs) (fun _ => False)) : C8.Mak P w K mg base (k + 1) x C (spI C F) [] := by
  obtain ⟨f, fd, FD, M, hm, hb⟩ := G.ex
  refine C8.mak0 M hm FD hb .nil S (fun vs H Q E ⟨l, dx, us, ex, ws, T, P', e, _, d, _, _, _, h, _⟩ => by rw [e, List.length_cons, d.len]; exact len ws P' h) fun cdv A outer s H vs Q E hr ⟨l, dx, us, ex, ws, T, P', e, hl, d, nd, he, ht, h, q⟩ => ?_
  subst e
  cases N with
  | nil => exact absurd rfl hN
  | cons n0 N =>
    have ev : EnvOk ⟨some (.adr l) :: rho0 N ws, [(l, .ins C dx [])], none, ex, T⟩ (L2.start (n0 :: N) (.ref l :: us)) H := by
      have e0 : L2.start (n0 :: N) (.ref l :: us) = some (.ref l) :: L2.start N us := by
        unfold L2.start
        simp
      rw [e0]
      have e1 : EnvOk ⟨rho0 N ws, [(l, .ins C dx [])], none, ex, T⟩ (L2.start N us) H := start_env (T := T) d _ rfl fun _ _ h => h
      refine ⟨by rw [List.length_cons, e1.1]; rfl, fun i th g => ?_⟩
      cases i with
      | zero => cases (show some (Th.adr l) = some th by simpa using g); exact ⟨_, rfl, rfl⟩
      | succ i => exact e1.2 i th (by simpa using g)
    exact hbody f cdv A outer s H E l dx ex T ws P' hr h _ H { nx := fun _ H' => Q .non H', rt := Q } ev ⟨fun u hu => by cases List.mem_singleton.mp hu; exact ⟨[], hl, DF.nil⟩, fun _ h => (nomatch h), nd, he, ht⟩
      ⟨fun c' σ' H' ⟨fs, e, p⟩ ev me g => by
        have hsl : c'.sl = [] := sl_of (c := ⟨some (.adr l) :: rho0 N ws, [(l, .ins C dx [])], none, ex, T⟩) g.st
        have hxs : c'.xs = l :: ex := by unfold Cn.xs Cn.ms; rw [hsl, e, g.ex]; rfl
        obtain ⟨gs, h1, h2⟩ := me.mu (l, .ins C dx fs) (by rw [e]; simp)
        rw [hxs] at h2
        exact q fs gs H' p h1 h2 (fun a o n h t => ⟨n, (g.kp a o n h t).2⟩) (fun a h => me.ex a (by rw [g.ex]; exact h)) (by have := me.tb; rw [g.T] at this; exact this), fun v w H' r _ => r.elim⟩
end
section
variable {X : Cx} {c : Cn} {P : W → Prop} {e a b : Expr} {es : List Expr} {pos p : Pos} {k j : Nat} {x m : Str} {C : Addr}
/-- C(..) -/
theorem we_mk {F : ISpec} (cl : C8.Mak X.prog X.w X.K X.mg X.base k x C (spI C F) []) (hr : Room j X.A) (hk : k + 1 ≤ j) (hg : Gl X x) (h : WAs X c (e :: es) (fun ws => ∃ PF, F ws PF ∧ ∀ fs, PF fs → P (.ins C fs)))
    (hdb : (x == ("__debug__" : Str)) = false := by decide) (he : starEach (e :: es) X.env = (false, eval e X.env) :: starEach es X.env := by rfl) (hpl : (backTo pos (starEach es X.env)).any (·.1) = false := by rfl) : WE X c (.Call (.Name x p) (e :: es) [] pos) P := fun σ H Q ev me q => by
  refine ⟨_, C8.pe_mk cl hr hk hg E_pa hdb he hpl, ?_⟩
  refine h σ H _ ev me fun vs ws H1 d f k1 m1 => ?_
  obtain ⟨PF, hF, hP⟩ := f
  intro l dx hl hdx hne
  rw [List.append_nil]
  have g1 := Gro.upd (o := .own l) hdx
  have hl2 : (upd H1 dx (.own l)) l = none := by rw [upd_ne (Ne.symm hne)]; exact hl
  have g2 := Gro.upd (o := .ins C dx []) hl2
  have g := g1.trans g2
  have hnl : l ∉ c.xs := m1.fresh hl
  have kx : Kp c.xs H1 (l :: c.xs) (upd (upd H1 dx (.own l)) l (.ins C dx [])) := fun a o n h t => ⟨by
    rw [List.mem_cons, not_or]
    exact ⟨(fun z => by rw [z, hl] at h; cases h), n⟩, g _ _ h⟩
  refine ⟨l, dx, vs, c.xs, ws, c.T, PF, rfl, upd_same, DA.to kx _ _ d, List.nodup_cons.mpr ⟨hnl, m1.nd⟩, fun a h => (let ⟨o, e, t⟩ := m1.al_of h; ⟨o, g _ _ e, t⟩), tabs_gro g m1.tb, hF, fun fs gs H' pf hi df kp he ht => ⟨rfl, ?_⟩⟩
  have k2 : ∀ ex : List Addr, Kp ex H1 ex H' := fun ex a o n h t => ⟨n, (kp a o (fun z => by rw [List.mem_singleton.mp z, hl] at h; cases h) (g _ _ h) t).2⟩
  have k3 : Kp (l :: c.xs) H' c.xs H' := fun a o n h t => ⟨fun z => n (List.mem_cons_of_mem _ z), h⟩
  refine q _ (.ins C fs) H' (D.ins_iff.mpr ⟨l, dx, gs, rfl, hnl, hi, DF.to k3 _ _ df⟩) (hP fs pf) (k1.trans (k2 _)) ⟨fun u hu => ?_, fun a h => (m1.st a h).to (fun o h t => (k2 [] _ _ (by simp) h t).2) (k2 _), m1.nd, fun a h => he a (List.mem_append_right _ h), ht⟩
  have hm := m1.mu u hu
  obtain ⟨a, u⟩ := u
  cases u with
  | lst ws => obtain ⟨xs, e, d⟩ := hm; exact ⟨xs, (k2 [] _ _ (by simp) e (fun _ z => by cases z)).2, DA.to (k2 _) _ _ d⟩
  | ins C dx fs => obtain ⟨xs, e, d⟩ := hm; exact ⟨xs, (k2 [] _ _ (by simp) e (fun _ z => by cases z)).2, DF.to (k2 _) _ _ d⟩
/-! what a class's own methods do for the operators -/
section
variable {pins : List (Addr × Obj)} {σ : L2.St} {H : Hp} {s : Shared}
theorem vals1r {a : Addr} {us : List Value} (r : Vals [V.ref a] us) : us = [.ref a] := by
  cases r with
  | cons r1 r2 => cases r2; cases r1; rfl
/-- what a promise over data leaves: all that stood stands -/
theorem spD_kp {F : DSpec} {vs : List V} {H : Hp} {Q : VK} {E : XK} (h : spD F vs H Q E) : spD F vs H Q C8.E0 := h
end
theorem op_inOwn {F : DSpec} (cl : C8.Met X.prog X.w X.K X.mg X.base k C "__contains__" (spD F) []) (hr : Room j X.A) (hk : k ≤ j) :
    OpR X (compareOp .In) (fun x y H Q => ∃ a dx fs, y = .ref a ∧ H a = some (.ins C dx fs) ∧ spD F [.ref a, x] H (fun v H' => ∃ b, v = .bl b ∧ Q (.bl b) H') C8.E0) := by
  intro pins s σ H x y v u Q I rx ry h
  obtain ⟨a, dx, fs, rfl, ha, h⟩ := h
  cases ry
  obtain ⟨f, fd, ps, ds, hc, hm, F', b, d⟩ := cl.ex
  obtain ⟨mA, J, _⟩ := ins_get I.hok ha
  obtain ⟨od, J, _⟩ := J.look
  obtain ⟨m, hF⟩ := I.fr
  refine PySem.W.in_K hF I.ok.mod.kin J hm.at_ hm.fn ?_
  refine thn (run_fn (vs := [.ref a, x]) F' (hr.mono hk) b d C8.pass0 I (.cons rfl (.cons rx .nil)) (by rw [List.append_nil]; exact h)) fun r s' hq => ?_
  obtain ⟨z, H', I', rz, b, ez, q⟩ := hq
  subst ez
  cases rz
  exact wpAny_truthy_bool ⟨.bl b, H', I', rfl, q⟩
theorem op_ninOwn {F : DSpec} (cl : C8.Met X.prog X.w X.K X.mg X.base k C "__contains__" (spD F) []) (hr : Room j X.A) (hk : k ≤ j) :
    OpR X (compareOp .NotIn) (fun x y H Q => ∃ a dx fs, y = .ref a ∧ H a = some (.ins C dx fs) ∧ spD F [.ref a, x] H (fun v H' => ∃ b, v = .bl b ∧ Q (.bl (!b)) H') C8.E0) := by
  intro pins s σ H x y v u Q I rx ry h
  obtain ⟨a, dx, fs, rfl, ha, h⟩ := h
  cases ry
  obtain ⟨f, fd, ps, ds, hc, hm, F', b, d⟩ := cl.ex
  obtain ⟨mA, J, _⟩ := ins_get I.hok ha
  obtain ⟨od, J, _⟩ := J.look
  obtain ⟨m, hF⟩ := I.fr
  refine PySem.W.notIn_K hF I.ok.mod.kin J hm.at_ hm.fn ?_
  refine thn (run_fn (vs := [.ref a, x]) F' (hr.mono hk) b d C8.pass0 I (.cons rfl (.cons rx .nil)) (by rw [List.append_nil]; exact h)) fun r s' hq => ?_
  obtain ⟨z, H', I', rz, b, ez, q⟩ := hq
  subst ez
  cases rz
  exact wpAny_truthy_bool ⟨.bl (!b), H', I', rfl, q⟩
theorem op_eqOwn {F : DSpec} (cl : C8.Met X.prog X.w X.K X.mg X.base k C "__eq__" (spD F) []) (hr : Room j X.A) (hk : k ≤ j) :
    OpR X (compareOp .Eq) (fun x y H Q => ∃ a dx fs b dy gs, x = .ref a ∧ H a = some (.ins C dx fs) ∧ y = .ref b ∧ H b = some (.ins C dy gs) ∧ spD F [.ref a, .ref b] H (fun v H' => ∃ b, v = .bl b ∧ Q (.bl b) H') C8.E0) := by
  intro pins s σ H x y v u Q I rx ry h
  obtain ⟨a, dx, fs, c', dy, gs, rfl, ha, rfl, hb, h⟩ := h
  cases rx
  cases ry
  obtain ⟨f, fd, ps, ds, hc, hm, F', b, d⟩ := cl.ex
  obtain ⟨mA, J, _⟩ := ins_get I.hok ha
  obtain ⟨mB, J', _⟩ := ins_get I.hok hb
  obtain ⟨od, J, _⟩ := J.look
  obtain ⟨od', J', _⟩ := J'.look
  obtain ⟨m, hF⟩ := I.fr
  show wpAny (model X.prog X.w) X.A (richCompare .Eq (.ref a) (.ref c')) (EP X pins σ Q) X.xe s
  refine PySem.W.cmp_K (op := .Eq) (tb := .ref C) hr.units0 hF I.ok.mod.kin J J'.type (by simp [PySem.W.notFirst]) hm.at_ hm.fn ?_
  refine thn (run_fn (vs := [.ref a, .ref c']) F' (hr.mono hk) b d C8.pass0 I (.cons rfl (.cons rfl .nil)) (by rw [List.append_nil]; exact h)) fun r s' hq => ?_
  obtain ⟨z, H', I', rz, b, ez, q⟩ := hq
  subst ez
  cases rz
  exact ⟨.bl b, H', I', rfl, q⟩
theorem cr_strOwn {F : DSpec} (cl : C8.Met X.prog X.w X.K X.mg X.base k C "__str__" (spD F) []) (hr : Room j X.A) (hk : k + 2 ≤ j) :
    CallR X (.type "str") (fun xs H Q => ∃ a dx fs, xs = [.ref a] ∧ H a = some (.ins C dx fs) ∧ spD F [.ref a] H (fun v H' => ∃ z, v = .str z ∧ Q (.str z) H') C8.E0) := by
  intro pins s σ H xs us Q I r h
  obtain ⟨a, dx, fs, rfl, ha, h⟩ := h
  rw [vals1r r]
  obtain ⟨f, fd, ps, ds, hc, hm, F', b, d⟩ := cl.ex
  obtain ⟨mA, J, _⟩ := ins_get I.hok ha
  obtain ⟨od, J, _⟩ := J.look
  have hr2 : Room k X.A.in1.in1 := (hr.mono hk).in1.in1
  refine PySem.W.kso_call hr2.units0 I.kIn J hm.at_ hm.fn ?_
  cases d
  have hl := F'.len _ _ _ _ h
  refine wpAny_call (codeAny_mono (F'.run X.A.in1.in1 X.stack s H ⟨[.ref a], []⟩ [.ref a] [.ref a] _ C8.E0 hr2 I.env0.in1.in1 (by
    have := b s [.ref a] I.kIn (by simpa using hl)
    simpa using this) (.cons rfl .nil) h) fun r s' hq => ?_)
  cases r with
  | error e => exact False.elim hq
  | ok fl =>
    cases fl with
    | ret w =>
      obtain ⟨z, H', I', rz, y, ez, q⟩ := I.after hq
      subst ez
      obtain ⟨t, rfl⟩ := rz
      exact ⟨.str y, H', I', ⟨t, rfl⟩, q⟩
    | next => exact False.elim hq
    | brk => exact False.elim hq
    | cont => exact False.elim hq
/-! .. over data -/
theorem xt_ninOwn {F : DSpec} {P : Bool → Prop} (cl : C8.Met X.prog X.w X.K X.mg X.base k C "__contains__" (spD F) []) (hr : Room j X.A) (hk : k ≤ j) (hm : behindInMarks .NotIn b = false)
    (h : WE X c a (fun x => WE X c b (fun y => ∃ fs, y = .ins C fs ∧ F [y, x] (fun w => ∃ k, w = .bl k ∧ P (!k))))) : WT X c (.Compare a [.NotIn] [b] pos) P :=
  wt_bin (fun _ _ ha hb => pt_cmpR (op_ninOwn cl hr hk) ha hb hm) (h.mono fun x h1 => h1.mono fun y ⟨fs, e, h⟩ H v u Q me dx dy q => by
    subst e
    obtain ⟨l, dx', xs, rfl, _, hl, _⟩ := D.ins_iff.mp dy
    exact ⟨l, dx', xs, rfl, hl, spD_use me (DA.cons dy (DA.cons dx DA.nil)) h fun v w H' d ⟨k, e, p⟩ kp m => by
      subst e
      exact ⟨k, D.bl_iff.mp d, q _ (.bl (!k)) H' (D.bl _) ⟨_, rfl, p⟩ kp m⟩⟩)
theorem xe_eqOwn {F : DSpec} (cl : C8.Met X.prog X.w X.K X.mg X.base k C "__eq__" (spD F) []) (hr : Room j X.A) (hk : k ≤ j)
    (h : WE X c a (fun x => WE X c b (fun y => ∃ fs gs, x = .ins C fs ∧ y = .ins C gs ∧ F [x, y] (fun w => ∃ k, w = .bl k ∧ P (.bl k))))) : WE X c (.Compare a [.Eq] [b] pos) P :=
  we_bin (fun _ _ ha hb => pe_cmpR (op_eqOwn cl hr hk) ha hb (nomark _)) (h.mono fun x h1 => h1.mono fun y ⟨fs, gs, e1, e2, h⟩ H v u Q me dx dy q => by
    subst e1 e2
    obtain ⟨l, dx', xs, rfl, _, hl, _⟩ := D.ins_iff.mp dx
    obtain ⟨l2, dy', ys, rfl, _, hl2, _⟩ := D.ins_iff.mp dy
    exact ⟨l, dx', xs, l2, dy', ys, rfl, hl, rfl, hl2, spD_use me (DA.cons dx (DA.cons dy DA.nil)) h fun v w H' d ⟨k, e, p⟩ kp m => by
      subst e
      exact ⟨k, D.bl_iff.mp d, q _ (.bl k) H' (D.bl _) p kp m⟩⟩)
theorem x_strOwn {F : DSpec} (T : Txt X.K X.mg) (cl : C8.Met X.prog X.w X.K X.mg X.base k C "__str__" (spD F) []) (hr : Room j X.A) (hk : k + 2 ≤ j) (hg : Gl X "str") (he : starEach [a] X.env = (false, eval a X.env) :: starEach [] X.env)
    (h : WE X c a (fun x => ∃ fs, x = .ins C fs ∧ F [x] (fun w => ∃ z, w = .str z ∧ P (.str z)))) : WE X c (.Call (.Name "str" p) [a] [] pos) P :=
  we_bty (cr_strOwn cl hr hk) hg (T.fr "str") (by decide +kernel) (h.mono fun x ⟨fs, e, h⟩ H vs Q me d q => by
    subst e
    obtain ⟨v, rfl, dd⟩ := d.one
    obtain ⟨l, dx', xs, rfl, _, hl, _⟩ := D.ins_iff.mp dd
    exact ⟨l, dx', xs, rfl, hl, spD_use me d h fun v w H' d ⟨z, e, p⟩ kp m => by
      subst e
      exact ⟨z, D.str_iff.mp d, q _ (.str z) H' (D.str _) p kp m⟩⟩) (he := he)
theorem we_isiOwn (hg : Gl X "isinstance") (T : Txt X.K X.mg) (ic : C8.InsC X.K C) {y : Str} {p2 : Pos} (hgy : Gl X y) (hmy : X.mg y = some (.ref C))
    (h : WE X c a (fun x => ∃ fs, x = .ins C fs ∧ P (.bl true))) (hd : (y == ("__debug__" : Str)) = false := by decide) (he : starEach [a, .Name y p2] X.env = (false, eval a X.env) :: starEach [.Name y p2] X.env := by rfl) (hpl : (backTo pos (starEach [.Name y p2] X.env)).any (·.1) = false := by rfl) : WE X c (.Call (.Name "isinstance" p) [a, .Name y p2] [] pos) P := fun σ H Q ev me q => by
  refine ⟨_, pe_callB (C8.call_isC ic) hg (T.fr "isinstance") (by decide +kernel) (pa_cons E_pe (pa_cons (pe_glob (v := .ref C) hgy hmy rfl hd) pa_nil) he) (by decide) (by decide) he hpl, ?_⟩
  refine h σ H _ ev me fun v w H1 d ⟨fs, e, p⟩ k1 m1 => ?_
  subst e
  obtain ⟨l, dx', xs, rfl, _, hl, _⟩ := D.ins_iff.mp d
  exact ⟨l, dx', xs, rfl, hl, q _ (.bl true) H1 (D.bl _) p k1 m1⟩
/-! static methods, off the class -/
structure SMet (P : Program) (w : World) (K : PySem.W.Frag) (mg : Str → Option Value) (base : Heap) (k : Nat) (C : Addr) (m : Str) (ps : List Str) (sp : Sp) : Prop where
  ex : ∃ (mc : Value) (p g : Addr) (fd : FuncData), ClX.CRead K C mc ∧ PySem.W.findCls K (.ref C) mc m = some (.get (.builtin "staticmethod.__get__") (.ref p) .none (.ref C)) ∧ (∃ rest, PySem.W.recIn K p "staticmethod" = some (.ref g :: rest)) ∧ PySem.W.keepIn K (.ref g) = true ∧
    FnOk P w K mg base C8.CX0 k g fd ps sp ∧ Binds K fd ps [] ∧ (∀ (s : Shared) (us : List Value), K.In s.heap → us.length = ps.length → BindsTo s fd ⟨[], ps.zip us⟩ (ps.zip us))
variable {o : Expr} {apos : Pos} {pl : Sem Bool} {ps : List Str} {sp : Sp} {ta : TE} {t : TA}
theorem getsm {mc : Value} {p g : Addr} {pins : List (Addr × Obj)} {σ : L2.St} {H : Hp} {s : Shared} {A : Around} {E : Value → Shared → Prop} {Q : Value × List Value → Shared → Prop} (I : Inv X pins σ H s) (r : ClX.CRead X.K C mc) (at_ : PySem.W.findCls X.K (.ref C) mc m = some (.get (.builtin "staticmethod.__get__") (.ref p) .none (.ref C))) (hp : ∃ rest, PySem.W.recIn X.K p "staticmethod" = some (.ref g :: rest))
    (h : ∀ s', Inv X pins σ H s' → Q (.ref g, []) s') : wpAny (model X.prog X.w) A (getMethod (.ref C) m pl) Q E s := by
  obtain ⟨rest, hp⟩ := hp
  refine PySem.W.method_cls I.kIn r.ga (PySem.W.cls_bind I.kIn r.rd at_ ?_)
  exact wpAny_call (PySem.W.sm_get (s := { s with toks := s.toks + 1 }) I.kIn hp (PySem.W.handed_on rfl (h _ (I.tok _))))
theorem pe_sm (cl : SMet X.prog X.w X.K X.mg X.base k C m ps sp) (hr : Room j X.A) (hk : k ≤ j) (hg : Gl X x) (hm : X.mg x = some (.ref C)) (ha : PA X (e :: es) t)
    (hd : (x == ("__debug__" : Str)) = false := by decide) (hst : starEach (e :: es) X.env = (false, eval e X.env) :: starEach es X.env := by rfl) (hpl : (backTo pos (starEach es X.env)).any (·.1) = false := by rfl)
    (ht : eval (.Call (.Attribute (.Name x p) m apos) (e :: es) [] pos) X.env = (do
      let ov ← eval (.Name x p) X.env
      standAt apos.atName
      let (f, first) ← holding [ov] (getMethod ov m pl)
      callWith pos f first (backTo pos (starEach (e :: es) X.env)) (backToKw pos (keywordEach [] X.env))) := by rfl) :
    PE X (.Call (.Attribute (.Name x p) m apos) (e :: es) [] pos) (fun σ H Q => t σ H fun vs H1 => sp vs H1 Q C8.E0) := by
  obtain ⟨mc, pp, g, fd, r, at_, hp, kp, F, b, _⟩ := cl.ex
  refine ⟨fun pins s σ H Q I h => ?_⟩
  refine PySem.W.methodCall_KW (pl := pl) (thn ((pe_glob (v := .ref C) hg hm rfl hd).run pins s σ H (fun v H' => v = .ref C ∧ H' = H) I ⟨rfl, rfl⟩) fun u s1 ⟨y, H1, I1, rx, ey, eh⟩ => ?_) ht
  subst ey eh
  cases rx
  refine getsm I1 r at_ hp fun s2 I2 => ?_
  refine PySem.W.callWith_K (h₀ := X.base) (first := []) I.ok.mod.kin kp (thn (ha.run pos pins s2 σ _ _ I2 h) fun us s3 ⟨vs, H2, I3, rv, q⟩ => ⟨I3.kIn, ?_⟩) hst hpl
  exact run_fn F (hr.mono hk) b .nil C8.pass0 I3 rv (by rw [List.append_nil]; exact q)
theorem pe_smK {kws : List Keyword} (cl : SMet X.prog X.w X.K X.mg X.base k C m ps sp) (hr : Room j X.A) (hk : k ≤ j) (hg : Gl X x) (hm : X.mg x = some (.ref C)) (ha : PK X kws t)
    (hall : (backToKw pos (keywordEach kws X.env)).all (·.1.isSome) = true) (hks : (backToKw pos (keywordEach kws X.env)).filterMap (·.1) = ps)
    (hd : (x == ("__debug__" : Str)) = false := by decide) (hpl : ((backTo pos (starEach [] X.env)).any (·.1) || (backToKw pos (keywordEach kws X.env)).any (·.1.isNone)) = false := by rfl)
    (ht : eval (.Call (.Attribute (.Name x p) m apos) [] kws pos) X.env = (do
      let ov ← eval (.Name x p) X.env
      standAt apos.atName
      let (f, first) ← holding [ov] (getMethod ov m pl)
      callWith pos f first (backTo pos (starEach [] X.env)) (backToKw pos (keywordEach kws X.env))) := by rfl) :
    PE X (.Call (.Attribute (.Name x p) m apos) [] kws pos) (fun σ H Q => t σ H fun vs H1 => sp vs H1 Q C8.E0) := by
  obtain ⟨mc, pp, g, fd, r, at_, hp, kp, F, _, b⟩ := cl.ex
  refine ⟨fun pins s σ H Q I h => ?_⟩
  refine PySem.W.methodCall_KW (pl := pl) (thn ((pe_glob (v := .ref C) hg hm rfl hd).run pins s σ H (fun v H' => v = .ref C ∧ H' = H) I ⟨rfl, rfl⟩) fun u s1 ⟨y, H1, I1, rx, ey, eh⟩ => ?_) ht
  subst ey eh
  cases rx
  refine getsm I1 r at_ hp fun s2 I2 => ?_
  refine PySem.W.callWith_KW0 (h₀ := X.base) (first := []) I.ok.mod.kin kp hall (thn (ha.run pos pins s2 σ _ _ I2 h) fun us s3 ⟨vs, H2, I3, rv, q⟩ => ⟨I3.kIn, ?_⟩) hpl
  rw [hks]
  have hl : us.length = ps.length := by rw [← rv.length]; exact F.len _ _ _ _ q
  refine wpAny_call (codeAny_mono (F.run X.A X.stack s3 H2 ⟨[], ps.zip us⟩ us vs Q C8.E0 (hr.mono hk) I3.env0 (b s3 us I3.kIn hl) rv q) fun r s' hq => ?_)
  cases r with
  | error e => exact False.elim hq
  | ok fl =>
    cases fl with
    | ret u => exact I3.after hq
    | next => exact False.elim hq
    | brk => exact False.elim hq
    | cont => exact False.elim hq
theorem we_sm {F : DSpec} (cl : SMet X.prog X.w X.K X.mg X.base k C m ps (spD F)) (hr : Room j X.A) (hk : k ≤ j) (hg : Gl X x) (hm : X.mg x = some (.ref C)) (h : WAs X c (e :: es) (fun ws => F ws P))
    (hd : (x == ("__debug__" : Str)) = false := by decide) (hst : starEach (e :: es) X.env = (false, eval e X.env) :: starEach es X.env := by rfl) (hpl : (backTo pos (starEach es X.env)).any (·.1) = false := by rfl)
    (ht : eval (.Call (.Attribute (.Name x p) m apos) (e :: es) [] pos) X.env = (do
      let ov ← eval (.Name x p) X.env
      standAt apos.atName
      let (f, first) ← holding [ov] (getMethod ov m pl)
      callWith pos f first (backTo pos (starEach (e :: es) X.env)) (backToKw pos (keywordEach [] X.env))) := by rfl) : WE X c (.Call (.Attribute (.Name x p) m apos) (e :: es) [] pos) P := fun σ H Q ev me q =>
  ⟨_, pe_sm (pl := pl) cl hr hk hg hm E_pa hd hst hpl ht, h σ H _ ev me fun vs ws H1 d f k1 m1 => spD_use m1 d f fun v w H' d' p k' m' => q v w H' d' p (k1.trans k') m'⟩
theorem we_smK {F : DSpec} {nm : Str} {kp : Pos} (cl : SMet X.prog X.w X.K X.mg X.base k C m [nm] (spD F)) (hr : Room j X.A) (hk : k ≤ j) (hg : Gl X x) (hm : X.mg x = some (.ref C)) (h : WE X c e (fun w => F [w] P))
    (hd : (x == ("__debug__" : Str)) = false := by decide) (hall : (backToKw pos (keywordEach [⟨some nm, e, kp⟩] X.env)).all (·.1.isSome) = true := by rfl) (hks : (backToKw pos (keywordEach [⟨some nm, e, kp⟩] X.env)).filterMap (·.1) = [nm] := by rfl)
    (hpl : ((backTo pos (starEach [] X.env)).any (·.1) || (backToKw pos (keywordEach [⟨some nm, e, kp⟩] X.env)).any (·.1.isNone)) = false := by rfl)
    (ht : eval (.Call (.Attribute (.Name x p) m apos) [] [⟨some nm, e, kp⟩] pos) X.env = (do
      let ov ← eval (.Name x p) X.env
      standAt apos.atName
      let (f, first) ← holding [ov] (getMethod ov m pl)
      callWith pos f first (backTo pos (starEach [] X.env)) (backToKw pos (keywordEach [⟨some nm, e, kp⟩] X.env))) := by rfl) : WE X c (.Call (.Attribute (.Name x p) m apos) [] [⟨some nm, e, kp⟩] pos) P := fun σ H Q ev me q =>
  ⟨_, pe_smK (pl := pl) cl hr hk hg hm (pk_cons E_pe pk_nil) hall hks hd hpl ht, h σ H _ ev me fun v w H1 d f k1 m1 => spD_use (E := C8.E0) m1 (DA.cons d DA.nil) f fun v w H' d' p k' m' => q v w H' d' p (k1.trans k') m'⟩
/-- a def that may be called by keyword -/
structure CalK (P : Program) (w : World) (K : PySem.W.Frag) (mg : Str → Option Value) (base : Heap) (k : Nat) (x : Str) (ps : List Str) (sp : Sp) : Prop where
  ex : ∃ (f : Addr) (fd : FuncData), FnOk P w K mg base C8.CX0 k f fd ps sp ∧ mg x = some (.ref f) ∧ PySem.W.keepIn K (.ref f) = true ∧ (∀ (s : Shared) (us : List Value), us.length = ps.length → BindsTo s fd ⟨[], ps.zip us⟩ (ps.zip us))
theorem we_cK {F : DSpec} {nm : Str} {kp : Pos} (cl : CalK X.prog X.w X.K X.mg X.base k x [nm] (spD F)) (hr : Room j X.A) (hk : k ≤ j) (hg : Gl X x) (h : WE X c e (fun w => F [w] P))
    (hd : (x == ("__debug__" : Str)) = false := by decide) (hall : (backToKw pos (keywordEach [⟨some nm, e, kp⟩] X.env)).all (·.1.isSome) = true := by rfl) (hks : (backToKw pos (keywordEach [⟨some nm, e, kp⟩] X.env)).filterMap (·.1) = [nm] := by rfl)
    (hpl : ((backTo pos (starEach [] X.env)).any (·.1) || (backToKw pos (keywordEach [⟨some nm, e, kp⟩] X.env)).any (·.1.isNone)) = false := by rfl) : WE X c (.Call (.Name x p) [] [⟨some nm, e, kp⟩] pos) P := fun σ H Q ev me q => by
  obtain ⟨f, fd, F', hm, kpf, b⟩ := cl.ex
  have pe : PE X (.Call (.Name x p) [] [⟨some nm, e, kp⟩] pos) (fun σ H Q => tCons (E X e) tNil σ H fun vs H1 => spD F vs H1 Q C8.E0) := by
    refine ⟨fun pins s σ H Q I h => ?_⟩
    refine wpAny_Call_Name_kw (ld_glob I hg hm ?_ hd)
    refine PySem.W.callWith_KW0 (h₀ := X.base) (first := []) I.ok.mod.kin kpf hall (thn ((pk_cons E_pe pk_nil).run pos pins s σ H _ I h) fun us s3 ⟨vs, H2, I3, rv, q⟩ => ⟨I3.kIn, ?_⟩) hpl
    rw [hks]
    have hl : us.length = [nm].length := by rw [← rv.length]; exact F'.len _ _ _ _ q
    refine wpAny_call (codeAny_mono (F'.run X.A X.stack s3 H2 ⟨[], [nm].zip us⟩ us vs Q C8.E0 (hr.mono hk) I3.env0 (b s3 us hl) rv q) fun r s' hq => ?_)
    cases r with
    | error e => exact False.elim hq
    | ok fl =>
      cases fl with
      | ret u => exact I3.after hq
      | next => exact False.elim hq
      | brk => exact False.elim hq
      | cont => exact False.elim hq
  exact ⟨_, pe, h σ H _ ev me fun v w H1 d f k1 m1 => spD_use (E := C8.E0) m1 (DA.cons d DA.nil) f fun v w H' d' p k' m' => q v w H' d' p (k1.trans k') m'⟩
/-! sorted(set(e)), len(set(e)): the set itself is nobody's datum -/
theorem D.strQ {H : Hp} {ex : List Addr} {K : PySem.W.Frag} {w : W} {zs : List Str} {v : V} (h : w = .lst (zs.map W.str) ∨ w = .tup (zs.map W.str)) (d : D H ex w v) : ∃ l, v = .ref l ∧ (SqL K H l (zs.map V.str) ∨ SqT K H l (zs.map V.str)) := by
  rcases h with rfl | rfl
  · obtain ⟨l, xs, rfl, _, hl, dd⟩ := D.lst_iff.mp d
    cases DA.strs_iff dd
    exact ⟨l, rfl, .inl (.inl (Rd.of hl))⟩
  · obtain ⟨l, xs, rfl, _, hl, dd⟩ := D.tup_iff.mp d
    cases DA.strs_iff dd
    exact ⟨l, rfl, .inr (.inl (Rd.of hl))⟩
theorem x_sortSet {p2 pos2 : Pos} (T : Txt X.K X.mg) (hc : X.calm = true) (hg1 : Gl X "sorted") (hg2 : Gl X "set") (he : starEach [.Call (.Name "set" p2) [a] [] pos2] X.env = (false, eval (.Call (.Name "set" p2) [a] [] pos2) X.env) :: starEach [] X.env) (he2 : starEach [a] X.env = (false, eval a X.env) :: starEach [] X.env)
    (h : WE X c a (fun x => ∃ zs : List Str, (x = .lst (zs.map W.str) ∨ x = .tup (zs.map W.str)) ∧ zs.length < 64 ∧ ∀ ys : List Str, Asc ys → (∀ z, z ∈ ys ↔ z ∈ zs) → P (.lst (ys.map W.str)))) : WE X c (.Call (.Name "sorted" p) [.Call (.Name "set" p2) [a] [] pos2] [] pos) P := fun σ H Q ev me q => by
  refine ⟨_, pe_callB (cr_sortSet hc) hg1 (T.fr "sorted") (by decide +kernel) (pa_cons (pe_callTy (cr_setT hc) hg2 (T.fr "set") (by decide +kernel) (pa_cons E_pe pa_nil he2) (he := he2)) pa_nil he) (he := he), ?_⟩
  refine h σ H _ ev me fun v w H1 d ⟨zs, hz, hl, hp⟩ k1 m1 => ?_
  obtain ⟨l, rfl, hq⟩ := D.strQ (K := X.K) hz d
  refine ⟨l, zs, rfl, hq, by omega, fun s n hs _ hn => ?_⟩
  have g := Gro.upd (o := SetSO X.w s (fun j => decide (j ∈ zs)) n) hs
  refine ⟨s, _, n, rfl, upd_same, by omega, fun ys t hasc hm hlen ht => ?_⟩
  have g2 := Gro.upd (o := .lst (ys.map V.str)) ht
  have m2 := m1.gro g
  exact q _ _ _ (D.newL ht (m2.fresh ht) (DA.strs ys)) (hp ys hasc fun z => by rw [hm z]; simp) (k1.trans ((g.kp _).trans (g2.kp _))) (m2.gro g2)
theorem xt_lenSetEq {P : Bool → Prop} {p2 pos2 : Pos} {b : Expr} : True := trivial
theorem x_lenSet {p2 pos2 : Pos} (T : Txt X.K X.mg) (hc : X.calm = true) (hg1 : Gl X "len") (hg2 : Gl X "set") (he : starEach [.Call (.Name "set" p2) [a] [] pos2] X.env = (false, eval (.Call (.Name "set" p2) [a] [] pos2) X.env) :: starEach [] X.env) (he2 : starEach [a] X.env = (false, eval a X.env) :: starEach [] X.env)
    (h : WE X c a (fun x => ∃ zs : List Str, (x = .lst (zs.map W.str) ∨ x = .tup (zs.map W.str)) ∧ zs.length ≤ 1000 ∧ zs.Nodup ∧ P (.int zs.length))) : WE X c (.Call (.Name "len" p) [.Call (.Name "set" p2) [a] [] pos2] [] pos) P := fun σ H Q ev me q => by
  refine ⟨_, pe_callB cr_lenSet hg1 (T.fr "len") (by decide +kernel) (pa_cons (pe_callTy (cr_setT hc) hg2 (T.fr "set") (by decide +kernel) (pa_cons E_pe pa_nil he2) (he := he2)) pa_nil he) (he := he), ?_⟩
  refine h σ H _ ev me fun v w H1 d ⟨zs, hz, hl, hnd, hp⟩ k1 m1 => ?_
  obtain ⟨l, rfl, hq⟩ := D.strQ (K := X.K) hz d
  refine ⟨l, zs, rfl, hq, hl, fun s n hs hn _ => ?_⟩
  have g := Gro.upd (o := SetSO X.w s (fun j => decide (j ∈ zs)) n) hs
  exact ⟨s, _, n, rfl, upd_same, q _ _ _ (D.int _) (by rw [hn hnd]; exact hp) (k1.trans (g.kp _)) (m1.gro g)⟩
/-- sorted(set(d)), d a dict whose keys are texts -/
theorem x_sortSetD {p2 pos2 : Pos} (T : Txt X.K X.mg) (hc : X.calm = true) (hg1 : Gl X "sorted") (hg2 : Gl X "set") (he : starEach [.Call (.Name "set" p2) [a] [] pos2] X.env = (false, eval (.Call (.Name "set" p2) [a] [] pos2) X.env) :: starEach [] X.env) (he2 : starEach [a] X.env = (false, eval a X.env) :: starEach [] X.env)
    (h : WE X c a (fun x => ∃ fs, x = .dic fs ∧ fs.length < 13 ∧ ∀ ys : List Str, Asc ys → (∀ z, z ∈ ys ↔ z ∈ fs.map (·.1)) → P (.lst (ys.map W.str)))) : WE X c (.Call (.Name "sorted" p) [.Call (.Name "set" p2) [a] [] pos2] [] pos) P := fun σ H Q ev me q => by
  refine ⟨_, pe_callB (cr_sortSet hc) hg1 (T.fr "sorted") (by decide +kernel) (pa_cons (pe_callTy cr_setD hg2 (T.fr "set") (by decide +kernel) (pa_cons E_pe pa_nil he2) (he := he2)) pa_nil he) (he := he), ?_⟩
  refine h σ H _ ev me fun v w H1 d ⟨fs, e, hl, hp⟩ k1 m1 => ?_
  subst e
  obtain ⟨l, xs, rfl, _, hx, df⟩ := D.dic_iff.mp d
  have keys : ∀ {fs : List (Str × W)} {xs : List (Str × V)}, DF H1 c.xs fs xs → xs.map (·.1) = fs.map (·.1) := fun {fs} => by
    induction fs with
    | nil => intro xs a; rw [DF.nil_iff.mp a]; rfl
    | cons z zs ih =>
      intro xs a
      obtain ⟨k, u⟩ := z
      obtain ⟨v', r, rfl, d1, d2⟩ := DF.cons_iff.mp a
      rw [List.map_cons, List.map_cons, ih d2]
  refine ⟨l, _, fs.map (·.1), rfl, hx, by rw [← keys df, List.map_map, List.map_map]; rfl, by rw [List.length_map]; exact hl, fun s n hs _ hn => ?_⟩
  rw [List.length_map] at hn
  have g := Gro.upd (o := SetSO X.w s (fun j => decide (j ∈ fs.map (·.1))) n) hs
  refine ⟨s, _, n, rfl, upd_same, by omega, fun ys t hasc hm hlen ht => ?_⟩
  have g2 := Gro.upd (o := .lst (ys.map V.str)) ht
  have m2 := m1.gro g
  exact q _ _ _ (D.newL ht (m2.fresh ht) (DA.strs ys)) (hp ys hasc fun z => by rw [hm z]; simp) (k1.trans ((g.kp _).trans (g2.kp _))) (m2.gro g2)
end
end K11
/-! KD14 -/
namespace K11
open PySem PySem.Spec PyProof.Rows L2
theorem nodup_le : ∀ {L U : List Str}, L.Nodup → (∀ z ∈ L, z ∈ U) → L.length ≤ U.length
  | [], U, _, _ => Nat.zero_le _
  | x :: L, U, nd, h => by
    obtain ⟨nx, nd⟩ := List.nodup_cons.mp nd
    have hx := h x List.mem_cons_self
    have := nodup_le (U := U.erase x) nd fun z hz => (List.mem_erase_of_ne (fun e : z = x => nx (by rw [← e]; exact hz))).mpr (h z (List.mem_cons_of_mem _ hz))
    rw [List.length_erase_of_mem hx] at this
    have : 0 < U.length := List.length_pos_of_mem hx
    show L.length + 1 ≤ _
    omega
theorem setSO_ne {w : World} {Dd : Addr} {S : Str → Bool} {n : Nat} {q : Str} : SetSO w Dd S n ≠ LamX.CodeO Dd q := fun e => by
  unfold SetSO LamX.CodeO at e
  have e := HO.ext.inj e
  have hsz : ({ objs := Array.replicate Dd default } : Heap).objs.size = Dd := by simp
  have hg : (({ objs := Array.replicate Dd default } : Heap).push { cls := .type "code", dict := none, data := .fields #[.none, .str q default] }).get? Dd = some { cls := .type "code", dict := none, data := .fields #[.none, .str q default] } := by
    have := Heap.get?_push_size ({ objs := Array.replicate Dd default } : Heap) (o := { cls := .type "code", dict := none, data := .fields #[.none, .str q default] }) rfl
    rw [hsz] at this
    exact this
  have h : SetS w (({ objs := Array.replicate Dd default } : Heap).push { cls := .type "code", dict := none, data := .fields #[.none, .str q default] }) Dd S n := by
    rw [congrFun e]
    exact ⟨_, _, _, hg, rfl, rfl⟩
  obtain ⟨o, es, ep, t, ho, hex, hd, _⟩ := h
  rw [hg] at ho
  cases ho
  cases hd
section
variable {X : Cx} {c : Cn} {pos : Pos}
theorem memC_setS {ρ : List (Option Th)} {Dd : Addr} {H : Hp} (m : Mem (c.inC ρ Dd) H) {S S' : Str → Bool} {n n' : Nat} (hD : H Dd = some (SetSO X.w Dd S n)) : Mem (c.inC ρ Dd) (upd H Dd (SetSO X.w Dd S' n')) := by
  have hin : Dd ∈ (c.inC ρ Dd).xs := by rw [inC_xs]; exact List.mem_append_right _ List.mem_cons_self
  have k : Kp (c.inC ρ Dd).xs H (c.inC ρ Dd).xs (upd H Dd (SetSO X.w Dd S' n')) := fun a o n h t => ⟨n, by rw [upd_ne (fun z => n (by rw [z]; exact hin))]; exact h⟩
  have hms : ∀ a ∈ c.ms, a ≠ Dd := fun a ha => (List.nodup_append.mp (inC_xs (c := c) ▸ m.nd)).2.2 a ha Dd List.mem_cons_self
  refine ⟨fun p hp => ?_, fun a e => ?_, m.nd, fun a h => ?_, fun q hq => ?_⟩
  · have hne : p.1 ≠ Dd := hms _ (List.mem_append_left _ (List.mem_map.mpr ⟨p, hp, rfl⟩))
    have := m.mu p hp
    obtain ⟨a, u⟩ := p
    cases u with
    | lst ws =>
      obtain ⟨xs, e, d⟩ := this
      exact ⟨xs, by rw [upd_ne hne]; exact e, DA.to k ws xs d⟩
    | ins C dx fs =>
      obtain ⟨xs, e, d⟩ := this
      exact ⟨xs, by rw [upd_ne hne]; exact e, DF.to k fs xs d⟩
  · have hne : a.1 ≠ Dd := hms a.1 (List.mem_append_right _ (by unfold Cn.sl; rw [show c.st = some a from e]; simp))
    exact (m.st a e).to (fun _ h _ => by rw [upd_ne hne]; exact h) k
  · by_cases z : a = Dd
    · exact ⟨_, by rw [z]; exact upd_same, fun _ z => by cases z⟩
    · obtain ⟨o, e, t⟩ := m.ex a h
      exact ⟨o, by rw [upd_ne z]; exact e, t⟩
  · obtain ⟨ps, a1, a2, a3⟩ := m.tb q hq
    refine ⟨ps, by rw [upd_ne (fun z => by rw [z, hD] at a1; cases a1)]; exact a1, a2, fun pos cv e => ?_⟩
    obtain ⟨cc, b1, b2⟩ := a3 pos cv e
    refine ⟨cc, b1, ?_⟩
    by_cases z : cc = Dd
    · subst z
      rw [hD] at b2
      exact absurd (Option.some.inj b2) setSO_ne
    · rw [upd_ne z]; exact b2
/-- the second clause's source, within the block -/
def iFam (X : Cx) (scope : Scope) (tg it : Expr) : TI := fun σ H R => fam X scope fun X' => EI X' tg it σ H R
theorem pi_fam {tg it : Expr} {scope : Scope} {s : Shared} {H : Hp} {C : Addr} {cl : List (Str × Addr)} {fp : List Addr} : PI (X.blk s H scope (compEnvC scope cl C X.env) fp) tg it (iFam X scope tg it) := ⟨fun pins s σ H R I h => E_pi.run pins s σ H R I (h _ _ _ _ _)⟩
def addL (L : List Str) (z : Str) : List Str := if z ∈ L then L else L ++ [z]
theorem addL_nd {L : List Str} (h : L.Nodup) (z : Str) : (addL L z).Nodup := by
  unfold addL
  split
  · exact h
  · rename_i n
    exact List.nodup_append.mpr ⟨h, by simp, fun a ha b hb e => n (by rw [List.mem_singleton.mp hb] at e; exact e ▸ ha)⟩
theorem addL_mem {L : List Str} {z x : Str} : x ∈ addL L z ↔ x ∈ L ∨ x = z := by
  unfold addL
  split
  · rename_i m
    exact ⟨.inl, fun q => q.elim id fun e => e ▸ m⟩
  · simp
theorem addL_set {w : World} {D : Addr} {L : List Str} {z : Str} : SetSO w D (fun j => (decide (j ∈ L)) || decide (j = z)) (if (decide (z ∈ L)) = true then L.length else L.length + 1) = SetSO w D (fun j => decide (j ∈ addL L z)) (addL L z).length := by
  have e1 : (fun j => (decide (j ∈ L)) || decide (j = z)) = fun j => decide (j ∈ addL L z) := by
    funext j
    rw [Bool.eq_iff_iff]
    simp [addL_mem]
  rw [e1]
  congr 1
  unfold addL
  by_cases m : z ∈ L
  · rw [if_pos m, if_pos (decide_eq_true m)]
  · rw [if_neg m, if_neg (by simpa using m), List.length_append]; rfl
def WSc2 (X : Cx) (c : Cn) (scope : Scope) (vs vs1 : List Nat) (tg it tg1 it1 elt : Expr) (P : W → Prop) : Prop := WI X c tg it (fun ds => ∃ (U : List Str) (ks : W → List Str), U.length < 64 ∧ (∀ d ∈ ds, ∀ z ∈ ks d, z ∈ U) ∧
  (∀ (i : Nat) d, ds[i]? = some d → ∀ Dd, fam X scope fun X1 => WG X1 (c.inC (wipeR c.ρ vs) Dd) tg d vs fun ρ => fam X scope fun X2 => WI X2 (c.inC ρ Dd) tg1 it1 fun es => es = (ks d).map W.str ∧
    ∀ (j : Nat) e, es[j]? = some e → fam X scope fun X3 => WG X3 (c.inC (wipeR ρ vs1) Dd) tg1 e vs1 fun ρ2 => fam X scope fun X4 => WE X4 (c.inC ρ2 Dd) elt fun y => y = e) ∧
  ∀ ys : List Str, Asc ys → (∀ z, z ∈ ys ↔ ∃ d ∈ ds, z ∈ ks d) → P (.lst (ys.map W.str)))
theorem x_sortSc2 {scope : Scope} (own : List (Str × Nat)) (vs1 : List Nat) {tg it tg1 it1 elt : Expr} {P : W → Prop} {p pos2 : Pos} (T : Txt X.K X.mg) (hc : X.calm = true) (hN : X.N.Nodup) (hg1 : Gl X "sorted") (ok : BlkOk X.N X.env.scope scope own) (hv : ∀ i ∈ vs1, i ∈ own.map (·.2))
    (he : starEach [.SetComp elt (two tg it tg1 it1 [] []) scope pos2] X.env = (false, eval (.SetComp elt (two tg it tg1 it1 [] []) scope pos2) X.env) :: starEach [] X.env)
    (h : WSc2 X c scope (own.map (·.2)) vs1 tg it tg1 it1 elt P) (hs : ∀ x, foldedSetIterable it X.env x = pure x := by intro _; rfl) (hs1 : ∀ env x, foldedSetIterable it1 env x = pure x := by intro _ _; rfl) :
    WE X c (.Call (.Name "sorted" p) [.SetComp elt (two tg it tg1 it1 [] []) scope pos2] [] pos) P := fun σ H Q ev me q => by
  refine ⟨_, pe_callB (cr_sortSet hc) hg1 (T.fr "sorted") (by decide +kernel) (pa_cons (pe_sc2 hc hN E_pi ok hv (fun _ _ _ _ _ => pg_fam) (fun _ _ _ _ _ => pts_nil) (fun _ _ _ _ _ => pe_fam) (fun _ _ _ _ _ => pi_fam) (fun _ _ _ _ _ => pg_fam) (fun _ _ _ _ _ => pts_nil) hs hs1) pa_nil he) (he := he), ?_⟩
  refine h σ H _ ev me fun J ds H1 hJ hp k1 m1 => ?_
  obtain ⟨U, ks, hU, hin, step, fin⟩ := hp
  intro Dd hD
  have ev1 := ev.kp k1
  have hDms : Dd ∉ c.ms := fun z => (m1.fresh hD) (ms_xs z)
  have hset : ∀ {H : Hp} {L : List Str} (o : HO) (k : Kp c.ms H1 c.ms H), Kp c.ms H1 c.ms (upd H Dd o) := fun o k a u n h t => let ⟨z1, z2⟩ := k a u n h t; ⟨z1, by rw [upd_ne (fun z => by rw [z, hD] at h; cases h)]; exact z2⟩
  refine ⟨fun i m H2 => m = ds.length - i ∧ i ≤ ds.length ∧ ∃ L : List Str, L.Nodup ∧ (∀ z, z ∈ L ↔ ∃ d ∈ ds.take i, z ∈ ks d) ∧ H2 Dd = some (SetSO X.w Dd (fun j => decide (j ∈ L)) L.length) ∧ Mem (c.inC c.ρ Dd) H2 ∧ Kp c.ms H1 c.ms H2,
    ⟨ds.length, by omega, Nat.zero_le _, [], List.nodup_nil, by simp, by rw [upd_same]; congr 2, memC m1 hD, (Gro.upd hD).kp _⟩, ?_⟩
  rintro i m H2 ⟨rfl, hi, L, hnd, hm, hH, mC, kC⟩
  have jx := hJ _ H2 (kp_inC (ρ := c.ρ) kC hD) (fun a ha => mC.some_of ha) i
  by_cases hlt : i < ds.length
  · right
    obtain ⟨d, hd⟩ : ∃ d, ds[i]? = some d := ⟨_, List.getElem?_eq_getElem hlt⟩
    have hdm : d ∈ ds := List.mem_of_getElem? hd
    obtain ⟨go, jy⟩ := jx.2 d hd
    refine ⟨go, fun H' => i + 1 ≤ ds.length ∧ ∃ L : List Str, L.Nodup ∧ (∀ z, z ∈ L ↔ ∃ d ∈ ds.take (i + 1), z ∈ ks d) ∧ H' Dd = some (SetSO X.w Dd (fun j => decide (j ∈ L)) L.length) ∧ Mem (c.inC c.ρ Dd) H' ∧ Kp c.ms H1 c.ms H',
      fun H' ⟨z1, z2⟩ => ⟨ds.length - (i + 1), by omega, rfl, z1, z2⟩, fun x H' y => ?_⟩
    obtain ⟨dx, g⟩ := jy x H' y
    have kC' : Kp c.ms H1 c.ms H' := kC.trans (g.kp _)
    have mC' : Mem (c.inC c.ρ Dd) H' := mC.gro g
    have hH' := g _ _ hH
    have evC : EnvOk (c.inC (wipeR c.ρ (own.map (·.2))) Dd) (wipe σ (own.map (·.2))) H' := (ev1.wipe _).inC (kp_inC kC' hD)
    intro s0 h0 C0 cl0 fp0
    refine step i d hd Dd s0 h0 C0 cl0 fp0 (wipe σ (own.map (·.2))) H' x _ evC ⟨mC'.mu, mC'.st, mC'.nd, mC'.ex, mC'.tb⟩ dx fun ρ σ2 hN ev2 ag => ?_
    refine ⟨wipe_agr ag, ?_⟩
    simp only [tYes, if_true]
    intro s1 h1 C1 cl1 fp1
    refine hN s1 h1 C1 cl1 fp1 σ2 H' _ ev2 ⟨mC'.mu, mC'.st, mC'.nd, mC'.ex, mC'.tb⟩ fun J1 es H4 hJ1 hp1 k4 m4 => ?_
    obtain ⟨rfl, step1⟩ := hp1
    have ev4 := ev2.kp k4
    have hH4 := (k4 Dd _ hDms hH' (fun _ z => by cases z)).2
    refine ⟨fun j k H => k = (ks d).length - j ∧ j ≤ (ks d).length ∧ ∃ L : List Str, L.Nodup ∧ (∀ z, z ∈ L ↔ (∃ d ∈ ds.take i, z ∈ ks d) ∨ z ∈ (ks d).take j) ∧ H Dd = some (SetSO X.w Dd (fun j => decide (j ∈ L)) L.length) ∧ Mem (c.inC c.ρ Dd) H ∧ Kp c.ms H1 c.ms H ∧ Kp (c.inC ρ Dd).xs H4 (c.inC ρ Dd).xs H,
      ⟨(ks d).length, by omega, Nat.zero_le _, L, hnd, by simpa using hm, hH4, ⟨m4.mu, m4.st, m4.nd, m4.ex, m4.tb⟩, kC'.trans k4, Kp.refl⟩, ?_⟩
    rintro j k H5 ⟨rfl, hj, L1, hnd1, hm1, hH5, m5, k5, k45⟩
    have jx1 := hJ1 _ H5 k45 (fun a ha => m5.some_of ha) j
    by_cases hlt1 : j < (ks d).length
    · right
      obtain ⟨z, hz⟩ : ∃ z, (ks d)[j]? = some z := ⟨_, List.getElem?_eq_getElem hlt1⟩
      have hz' : ((ks d).map W.str)[j]? = some (.str z) := by rw [List.getElem?_map, hz]; rfl
      obtain ⟨go1, jy1⟩ := jx1.2 _ hz'
      refine ⟨go1, fun H' => j + 1 ≤ (ks d).length ∧ ∃ L : List Str, L.Nodup ∧ (∀ z, z ∈ L ↔ (∃ d ∈ ds.take i, z ∈ ks d) ∨ z ∈ (ks d).take (j + 1)) ∧ H' Dd = some (SetSO X.w Dd (fun j => decide (j ∈ L)) L.length) ∧ Mem (c.inC c.ρ Dd) H' ∧ Kp c.ms H1 c.ms H' ∧ Kp (c.inC ρ Dd).xs H4 (c.inC ρ Dd).xs H',
        fun H' ⟨z1, z2⟩ => ⟨(ks d).length - (j + 1), by omega, rfl, z1, z2⟩, fun x1 H6 y1 => ?_⟩
      obtain ⟨dx1, g1⟩ := jy1 x1 H6 y1
      have m6 : Mem (c.inC c.ρ Dd) H6 := m5.gro g1
      have hH6 := g1 _ _ hH5
      have k46 := k45.trans (g1.kp _)
      have ev6 : EnvOk (c.inC ρ Dd) σ2 H6 := ⟨ev4.1, fun i th g => by
        obtain ⟨v, a, b⟩ := ev4.2 i th g
        refine ⟨v, a, ?_⟩
        cases th with
        | dat w => exact D.to k46 w v b
        | adr a => exact b
        | prp p m => exact m _ _ _ _ _ k46 b⟩
      intro s2 h2 C2 cl2 fp2
      refine step1 j _ hz' s2 h2 C2 cl2 fp2 (wipe σ2 vs1) H6 x1 _ (ev6.wipe vs1) ⟨m6.mu, m6.st, m6.nd, m6.ex, m6.tb⟩ dx1 fun ρ2 σ3 hN2 ev7 ag2 => ?_
      refine ⟨wipe_agr ag2, ?_⟩
      simp only [tYes, if_true]
      intro s3 h3 C3 cl3 fp3
      refine hN2 s3 h3 C3 cl3 fp3 σ3 H6 _ ev7 ⟨m6.mu, m6.st, m6.nd, m6.ex, m6.tb⟩ fun y w H7 dy py k7 m7 => ?_
      subst py
      have hy := D.str_iff.mp dy
      have hH7 : H7 Dd = some (SetSO X.w Dd (fun j => decide (j ∈ L1)) L1.length) := (k7 Dd _ hDms hH6 (fun _ z => by cases z)).2
      have hLU : L1.length ≤ U.length := nodup_le hnd1 fun u hu => by
        rcases (hm1 u).mp hu with ⟨d', hd', q⟩ | q
        · exact hin d' (List.mem_of_mem_take hd') u q
        · exact hin d hdm u (List.mem_of_mem_take q)
      refine ⟨z, _, _, hy, hH7, by have : scanBound = 4096 := rfl; omega, hlt1, addL L1 z, addL_nd hnd1 z, fun u => ?_, by rw [upd_same, ← addL_set], ?_, ?_, ?_⟩
      · rw [addL_mem, hm1, List.take_add_one, hz, List.mem_append, or_assoc]
        simp
      · have := memC_setS (X := X) (ρ := c.ρ) (S' := fun j => (decide (j ∈ L1)) || decide (j = z)) (n' := if (decide (z ∈ L1)) = true then L1.length else L1.length + 1) ⟨m7.mu, m7.st, m7.nd, m7.ex, m7.tb⟩ hH7
        exact this
      · exact hset (L := L1) _ (k5.trans ((g1.kp _).trans k7))
      · have k67 : Kp (c.inC ρ Dd).xs H6 (c.inC ρ Dd).xs H7 := k7.xs rfl
        exact fun a o n h t => let ⟨z1, z2⟩ := (k46.trans k67) a o n h t; ⟨z1, by rw [upd_ne (fun e => n (by rw [e, inC_xs]; exact List.mem_append_right _ List.mem_cons_self))]; exact z2⟩
    · left
      have e : j = (ks d).length := by omega
      subst e
      refine ⟨jx1.1 (by rw [List.length_map]; exact Nat.le_refl _), hlt, L1, hnd1, fun u => ?_, hH5, ⟨m5.mu, m5.st, m5.nd, m5.ex, m5.tb⟩, k5⟩
      rw [hm1, List.take_length, List.take_add_one, hd]
      simp only [Option.toList_some, List.mem_append, List.mem_singleton]
      exact ⟨fun q => q.elim (fun ⟨d', a, b⟩ => ⟨d', .inl a, b⟩) (fun b => ⟨d, .inr rfl, b⟩), fun ⟨d', a, b⟩ => a.elim (fun a => .inl ⟨d', a, b⟩) fun a => .inr (a ▸ b)⟩
  · left
    have e : i = ds.length := by omega
    subst e
    refine ⟨jx.1 (Nat.le_refl _), ?_⟩
    rw [List.take_length] at hm
    have hLU : L.length ≤ U.length := nodup_le hnd fun u hu => by
      obtain ⟨d', hd', q⟩ := (hm u).mp hu
      exact hin d' hd' u q
    refine ⟨Dd, _, L.length, rfl, hH, by omega, fun ys t hasc hmm hlen ht => ?_⟩
    have g2 := Gro.upd (o := .lst (ys.map V.str)) ht
    have m2 := memC_of mC
    exact q _ _ _ (D.newL ht (m2.fresh ht) (DA.strs ys)) (fin ys hasc fun u => by rw [hmm u, decide_eq_true_eq, hm u]) (k1.trans (kC.trans (g2.kp _))) (m2.gro g2)
end
end K11
/-! KD15 -/
namespace K11
open PySem PySem.Spec PyProof.Rows L2
section
variable {X : Cx} {c : Cn} {pos : Pos} {P : W → Prop}
theorem we_neg {a : Expr} (h : WE X c a (fun x => ∃ i, x = .int i ∧ P (.int (-i)))) : WE X c (.UnaryOp .USub a pos) P :=
  we_un (fun ta ha => pe_un un_neg ha) (h.mono fun x ⟨i, e, p⟩ => by
    subst e
    intro H v Q me d q
    rw [D.int_iff.mp d]
    exact ⟨i, rfl, q _ _ _ (D.int _) p Kp.refl me⟩)
end
theorem atI_last {α : Type} {ws : List α} {w : α} : atI (ws ++ [w]) (-1) = some w := by
  unfold atI ixN
  rw [if_neg (by omega), if_pos (by rw [List.length_append, List.length_singleton]; omega)]
  show (ws ++ [w])[_]? = some w
  rw [show (-1 + ((ws ++ [w]).length : Int)).toNat = ws.length by rw [List.length_append, List.length_singleton]; omega]
  simp
theorem ixL_last {ws : List W} {w : W} {P : W → Prop} (p : P w) : IxW (.lst (ws ++ [w])) (.int (-1)) P := ⟨w, atI_last, p⟩
end K11
/-! KD16 -/
namespace K11
open PySem PySem.Spec PyProof.Rows L2
section
variable {X : Cx} {c : Cn} {pos : Pos} {P : W → Prop}
/-- what stands at a comprehension's own address may change -/
theorem memC_any {ρ : List (Option Th)} {Dd : Addr} {H : Hp} (m : Mem (c.inC ρ Dd) H) {o o' : HO} (hD : H Dd = some o) (h1 : ∀ ps, o ≠ .tbl ps) (h2 : ∀ q, o ≠ LamX.CodeO Dd q) (hot : ∀ ps, o' ≠ .tbl ps := by intro _ z; cases z) : Mem (c.inC ρ Dd) (upd H Dd o') ∧ Kp (c.inC ρ Dd).xs H (c.inC ρ Dd).xs (upd H Dd o') := by
  have hin : Dd ∈ (c.inC ρ Dd).xs := by rw [inC_xs]; exact List.mem_append_right _ List.mem_cons_self
  have k : Kp (c.inC ρ Dd).xs H (c.inC ρ Dd).xs (upd H Dd o') := fun a o n h t => ⟨n, by rw [upd_ne (fun z => n (by rw [z]; exact hin))]; exact h⟩
  have hms : ∀ a ∈ c.ms, a ≠ Dd := fun a ha => (List.nodup_append.mp (inC_xs (c := c) ▸ m.nd)).2.2 a ha Dd List.mem_cons_self
  refine ⟨⟨fun p hp => ?_, fun a e => ?_, m.nd, fun a h => ?_, fun q hq => ?_⟩, k⟩
  · have hne : p.1 ≠ Dd := hms _ (List.mem_append_left _ (List.mem_map.mpr ⟨p, hp, rfl⟩))
    have := m.mu p hp
    obtain ⟨a, u⟩ := p
    cases u with
    | lst ws =>
      obtain ⟨xs, e, d⟩ := this
      exact ⟨xs, by rw [upd_ne hne]; exact e, DA.to k ws xs d⟩
    | ins C dx fs =>
      obtain ⟨xs, e, d⟩ := this
      exact ⟨xs, by rw [upd_ne hne]; exact e, DF.to k fs xs d⟩
  · have hne : a.1 ≠ Dd := hms a.1 (List.mem_append_right _ (by unfold Cn.sl; rw [show c.st = some a from e]; simp))
    exact (m.st a e).to (fun _ h _ => by rw [upd_ne hne]; exact h) k
  · by_cases z : a = Dd
    · exact ⟨_, by rw [z]; exact upd_same, hot⟩
    · obtain ⟨o, e, t⟩ := m.ex a h
      exact ⟨o, by rw [upd_ne z]; exact e, t⟩
  · obtain ⟨ps, a1, a2, a3⟩ := m.tb q hq
    refine ⟨ps, by rw [upd_ne (fun z => by rw [z, hD] at a1; exact h1 _ (Option.some.inj a1))]; exact a1, a2, fun pos cv e => ?_⟩
    obtain ⟨cc, b1, b2⟩ := a3 pos cv e
    refine ⟨cc, b1, ?_⟩
    by_cases z : cc = Dd
    · subst z
      rw [hD] at b2
      exact absurd (Option.some.inj b2) (h2 _)
    · rw [upd_ne z]; exact b2
/-- {kx: vx for tg in it} -/
def WDc (X : Cx) (c : Cn) (scope : Scope) (vs : List Nat) (tg it kx vx : Expr) (P : W → Prop) : Prop := WI X c tg it (fun ds => ds.length ≤ 1000 ∧ ∃ g : W → Str × W,
  (∀ (i : Nat) d, ds[i]? = some d → ∀ Dd, fam X scope fun X1 => WG X1 (c.inC (wipeR c.ρ vs) Dd) tg d vs fun ρ => fam X scope fun X3 => WE X3 (c.inC ρ Dd) kx fun y => y = .str (g d).1 ∧ fam X scope fun X4 => WE X4 (c.inC ρ Dd) vx fun z => z = (g d).2) ∧
  (ds.map fun d => (g d).1).Nodup ∧ P (.dic (ds.map g)))
theorem DF.snoc {H : Hp} {ex : List Addr} : ∀ {fs : List (Str × W)} {xs : List (Str × V)} {k : Str} {w : W} {v : V}, DF H ex fs xs → D H ex w v → DF H ex (fs ++ [(k, w)]) (xs ++ [(k, v)])
  | [], xs, k, w, v, a, d => by
    rw [DF.nil_iff.mp a]
    exact DF.cons d DF.nil
  | (j, u) :: fs, xs, k, w, v, a, d => by
    obtain ⟨v', r, rfl, d1, d2⟩ := DF.cons_iff.mp a
    exact DF.cons d1 (DF.snoc d2 d)
theorem DF.keys {H : Hp} {ex : List Addr} : ∀ {fs : List (Str × W)} {xs : List (Str × V)}, DF H ex fs xs → xs.map (·.1) = fs.map (·.1)
  | [], xs, a => by rw [DF.nil_iff.mp a]; rfl
  | (k, u) :: fs, xs, a => by
    obtain ⟨v', r, rfl, d1, d2⟩ := DF.cons_iff.mp a
    rw [List.map_cons, List.map_cons, DF.keys d2]
theorem putK_new {xs : List (Str × V)} {k : Str} {v : V} (h : k ∉ xs.map (·.1)) : putK (xs.map fun p => ((Sum.inr p.1 : Key), p.2)) (Sum.inr k) v = (xs ++ [(k, v)]).map fun p => ((Sum.inr p.1 : Key), p.2) := by
  unfold putK
  rw [if_neg, List.map_append]
  · rfl
  · intro q
    obtain ⟨p, hp, e⟩ := List.any_eq_true.mp q
    obtain ⟨z, hz, rfl⟩ := List.mem_map.mp hp
    have e := of_decide_eq_true e
    exact h (List.mem_map.mpr ⟨z, hz, Sum.inr.inj e⟩)
theorem we_dc {scope : Scope} (own : List (Str × Nat)) {tg it kx vx : Expr} (hc : X.calm = true) (hN : X.N.Nodup) (ok : BlkOk X.N X.env.scope scope own) (h : WDc X c scope (own.map (·.2)) tg it kx vx P)
    (hs : ∀ x, foldedSetIterable it X.env x = pure x := by intro _; rfl) : WE X c (.DictComp kx vx [⟨tg, it, [], 0⟩] scope pos) P := fun σ H Q ev me q => by
  refine ⟨_, pe_dc hc hN E_pi ok (fun _ _ _ _ _ => pg_fam) (fun _ _ _ _ _ => pts_nil) (fun _ _ _ _ _ => pe_fam) (fun _ _ _ _ _ => pe_fam) hs, ?_⟩
  refine h σ H _ ev me fun J ds H1 hJ hp k1 m1 => ?_
  obtain ⟨hl, g, step, hnd, fin⟩ := hp
  intro Dd hD
  have ev1 := ev.kp k1
  have hDms : Dd ∉ c.ms := fun z => (m1.fresh hD) (ms_xs z)
  refine ⟨fun i m H2 => m = ds.length - i ∧ i ≤ ds.length ∧ ∃ xs : List (Str × V), H2 Dd = some (.dK (xs.map fun p => (Sum.inr p.1, p.2))) ∧ DF H2 (c.inC c.ρ Dd).xs ((ds.take i).map g) xs ∧ Mem (c.inC c.ρ Dd) H2 ∧ Kp c.ms H1 c.ms H2,
    ⟨ds.length, by omega, Nat.zero_le _, [], upd_same, DF.nil, memC m1 hD, (Gro.upd hD).kp _⟩, ?_⟩
  rintro i m H2 ⟨rfl, hi, xs, hH, df, mC, kC⟩
  have jx := hJ _ H2 (kp_inC (ρ := c.ρ) kC hD) (fun a ha => mC.some_of ha) i
  by_cases hlt : i < ds.length
  · right
    obtain ⟨d, hd⟩ : ∃ d, ds[i]? = some d := ⟨_, List.getElem?_eq_getElem hlt⟩
    obtain ⟨go, jy⟩ := jx.2 d hd
    refine ⟨go, fun H' => i + 1 ≤ ds.length ∧ ∃ xs : List (Str × V), H' Dd = some (.dK (xs.map fun p => (Sum.inr p.1, p.2))) ∧ DF H' (c.inC c.ρ Dd).xs ((ds.take (i + 1)).map g) xs ∧ Mem (c.inC c.ρ Dd) H' ∧ Kp c.ms H1 c.ms H',
      fun H' ⟨z1, z2⟩ => ⟨ds.length - (i + 1), by omega, rfl, z1, z2⟩, fun x H' y => ?_⟩
    obtain ⟨dx, gr⟩ := jy x H' y
    have kC' : Kp c.ms H1 c.ms H' := kC.trans (gr.kp _)
    have mC' : Mem (c.inC c.ρ Dd) H' := mC.gro gr
    have hH' := gr _ _ hH
    have evC : EnvOk (c.inC (wipeR c.ρ (own.map (·.2))) Dd) (wipe σ (own.map (·.2))) H' := (ev1.wipe _).inC (kp_inC kC' hD)
    intro s0 h0 C0 cl0 fp0
    refine step i d hd Dd s0 h0 C0 cl0 fp0 (wipe σ (own.map (·.2))) H' x _ evC ⟨mC'.mu, mC'.st, mC'.nd, mC'.ex, mC'.tb⟩ dx fun ρ σ2 hN ev2 ag => ?_
    refine ⟨wipe_agr ag, ?_⟩
    simp only [tYes, if_true]
    intro s1 h1 C1 cl1 fp1
    refine hN s1 h1 C1 cl1 fp1 σ2 H' _ ev2 ⟨mC'.mu, mC'.st, mC'.nd, mC'.ex, mC'.tb⟩ fun y w H4 dy py k4 m4 => ?_
    obtain ⟨py, hv⟩ := py
    subst py
    have hH4 := (k4 Dd _ hDms hH' (fun _ z => by cases z)).2
    intro s2 h2 C2 cl2 fp2
    refine hv s2 h2 C2 cl2 fp2 σ2 H4 _ (ev2.kp k4) ⟨m4.mu, m4.st, m4.nd, m4.ex, m4.tb⟩ fun z w H5 dz pz k5 m5 => ?_
    subst pz
    have hH5 := (k5 Dd _ hDms hH4 (fun _ z => by cases z)).2
    have df5 : DF H5 (c.inC c.ρ Dd).xs ((ds.take i).map g) xs := DF.to (((gr.kp _).trans (k4.xs rfl : Kp (c.inC ρ Dd).xs H' (c.inC ρ Dd).xs H4)).trans (k5.xs rfl : Kp (c.inC ρ Dd).xs H4 (c.inC ρ Dd).xs H5)) _ _ df
    have hlen : xs.length = i := by
      have := congrArg List.length df5.keys
      rw [List.length_map, List.length_map, List.length_map, List.length_take] at this
      omega
    have hnot : (g d).1 ∉ xs.map (·.1) := by
      rw [df5.keys, List.map_map]
      have h := hnd
      have e : (ds.map fun d => (g d).1)[i]? = some (g d).1 := by rw [List.getElem?_map, hd]; rfl
      intro z
      obtain ⟨d', hd', e'⟩ := List.mem_map.mp z
      obtain ⟨j, hj, ej⟩ := List.mem_iff_getElem.mp hd'
      rw [List.length_take] at hj
      rw [List.getElem_take] at ej
      have := List.pairwise_iff_getElem.mp (List.nodup_iff_pairwise_ne.mp h) j i (by rw [List.length_map]; omega) (by rw [List.length_map]; exact hlt) (by omega)
      rw [List.getElem_map, List.getElem_map, ej, (List.getElem?_eq_some_iff.mp hd).2] at this
      exact this e'
    obtain ⟨m6, k6⟩ := memC_any (ρ := ρ) (o' := .dK ((xs ++ [((g d).1, z)]).map fun p => (Sum.inr p.1, p.2))) m5 hH5 (fun _ z => by cases z) (fun q z => by unfold LamX.CodeO at z; cases z)
    refine ⟨_, Sum.inr (g d).1, D.str_iff.mp (D.to (k5.xs rfl : Kp (c.inC ρ Dd).xs H4 (c.inC ρ Dd).xs H5) _ _ dy), hH5, by rw [List.length_map, hlen]; exact line6 (by omega), hlt, xs ++ [((g d).1, z)], by rw [upd_same, putK_new hnot], ?_, ?_, ?_⟩
    · have e : (ds.take (i + 1)).map g = (ds.take i).map g ++ [((g d).1, (g d).2)] := by
        rw [List.take_add_one, hd, List.map_append]
        rfl
      rw [putK_new hnot, e]
      exact DF.to k6 _ _ (df5.snoc dz)
    · rw [putK_new hnot]
      exact ⟨m6.mu, m6.st, m6.nd, m6.ex, m6.tb⟩
    · rw [putK_new hnot]
      exact fun a o n h t => let ⟨z1, z2⟩ := (kC'.trans (k4.trans k5)) a o n h t; ⟨z1, by rw [upd_ne (fun z => by rw [z, hD] at h; cases h)]; exact z2⟩
  · left
    have e : i = ds.length := by omega
    subst e
    rw [List.take_length] at df
    exact ⟨jx.1 (Nat.le_refl _), q _ _ H2 (D.dic_iff.mpr ⟨Dd, xs, rfl, m1.fresh hD, hH, DF.to kp_ofC _ _ df⟩) fin (k1.trans kC) (memC_of mC)⟩
/-! d[k] -/
theorem valV_look : ∀ {xs : List (Str × V)} {z : Str} {v : V}, xs.lookup z = some v → valV (xs.map fun p => ((Sum.inr p.1 : Key), p.2)) (Sum.inr z) = some v
  | (k, u) :: xs, z, v, h => by
    rw [List.lookup_cons] at h
    rw [List.map_cons]
    by_cases e : k = z
    · rw [show (z == k) = true by rw [e]; simp] at h
      cases h
      exact valV_pos (by rw [e])
    · rw [show (z == k) = false by simpa using fun q => e q.symm] at h
      rw [valV_neg (fun q => e (Sum.inr.inj q))]
      exact valV_look h
theorem we_dget {a b : Expr} {k : Nat} (hr : Room k X.A) (h : WE X c a (fun x => WE X c b (fun y => ∃ fs z w, x = .dic fs ∧ y = .str z ∧ fs.lookup z = some w ∧ P w))) (hs : NoSl b := by intro _ _; rfl) : WE X c (.Subscript a b pos) P := fun σ H Q ev me q => by
  refine ⟨_, pe_dget (by have := hr.units; omega) E_pe E_pe hs, ?_⟩
  refine h σ H _ ev me fun v x H1 dx hx k1 m1 => ?_
  refine hx σ H1 _ (ev.kp k1) m1 fun u y H2 dy hy k2 m2 => ?_
  obtain ⟨fs, z, w, rfl, rfl, hl, p⟩ := hy
  obtain ⟨l, xs, rfl, _, hx, df⟩ := D.dic_iff.mp (D.to (k2.xs rfl) _ _ dx)
  obtain ⟨r, r1, r2⟩ := df.look hl
  refine ⟨l, r, rfl, ?_, q r w H2 r2 p (k1.trans k2) m2⟩
  rw [D.str_iff.mp dy, ← valV_look r1]
  exact DGet.k (k := Sum.inr z) hx
/-! self.f, self that is being made -/
theorem we_selfld {ρ : List (Option Th)} {st : Option (Addr × Addr)} {ex : List Addr} {T : List (Addr × Str)} (i : Nat) {x f : Str} {px : Pos} {l C dx : Addr} {fs : List (Str × W)} {w : W} (hN : X.N[i]? = some x) (hv : Vis X.env.scope x) (g : ρ[i]? = some (some (.adr l)))
    (cl : Cls X.K C) (na : NoAttr X.K C f) (hl : fs.lookup f = some w) (p : P w) (hs : attributeBase (.Name x px) f X.env (eval (.Name x px) X.env) = eval (.Name x px) X.env := by rfl)
    (hd : (x == ("__debug__" : Str)) = false := by decide) (hcd : (x == ("__classdict__" : Str)) = false := by decide) : WE X ⟨ρ, [(l, .ins C dx fs)], st, ex, T⟩ (.Attribute (.Name x px) f pos) P := fun σ H Q ev me q => by
  refine ⟨_, pe_fld (pe_var hN hv hd hcd) hs, ?_⟩
  obtain ⟨v, s1, s2⟩ := ev.2 i _ g
  have s2 : v = .ref l := s2
  subst s2
  obtain ⟨ys, hl1, dl1⟩ := me.mu (l, .ins C dx fs) (by simp)
  obtain ⟨r, r1, r2⟩ := dl1.look hl
  exact ⟨_, s1, l, C, dx, ys, r, rfl, hl1, cl, na, r1, q r w H r2 p Kp.refl me⟩
end
end K11
/-! KD17 -/
namespace K11
open PySem PySem.Spec PyProof.Rows L2
/-! ### tuples that are known to bear no dict (.tpx): .index -/
section
variable {X : Cx} {c : Cn} {pos p : Pos} {P : W → Prop} {a b e : Expr} {tg : Expr}
theorem cr_tupleX : CallR X (.type "tuple") (fun xs H Q => ∃ p ys, xs = [.ref p] ∧ SqL X.K H p ys ∧ ∀ l ob, H l = none → ob.dict = none → Q (.ref l) (upd H l (.frz ob (.tup ys)))) := by
  intro pins s σ H xs us Q I r h
  obtain ⟨p, ys, rfl, hq, q⟩ := h
  rw [Vals.ref1 r]
  obtain ⟨its, r', pl, hz⟩ := I.list hq
  have hlen := r'.length
  refine call_tuple_list pl.isList (fun h' kp => ?_) (by simp only [List.size_toArray] <;> omega)
  have I1 : Inv X pins σ H { s with heap := h' } := I.kept (t' := s.toks) kp
  have I2 : Inv X pins σ (upd H h'.objs.size (.frz { cls := .type "tuple", data := .seq its.toArray } (.tup ys))) { s with heap := h'.push { cls := .type "tuple", data := .seq its.toArray } } :=
    I1.laid (t' := s.toks) (fun b o e => Heap.get?_push_of_some _ e) (Nat.le_refl _) ⟨Heap.get?_push_size _ rfl, hz, its, r', IsTup.new _ _⟩
  exact ⟨.ref h'.objs.size, _, I2, rfl, q _ _ (I1.hok.fresh (Nat.le_refl _)) rfl⟩
theorem x_tupleX (T : Txt X.K X.mg) (hg : Gl X "tuple") (he : starEach [a] X.env = (false, eval a X.env) :: starEach [] X.env) (h : WE X c a (fun x => LstW x fun ws => P (.tpx ws))) : WE X c (.Call (.Name "tuple" p) [a] [] pos) P :=
  we_bty cr_tupleX hg (T.fr "tuple") (by decide +kernel) (h.mono fun x h H vs Q me d q => by
    obtain ⟨v, rfl, dd⟩ := d.one
    obtain ⟨ws, rfl, p⟩ := h.ex
    obtain ⟨a, xs, rfl, _, ha, de⟩ := D.lst_iff.mp dd
    exact ⟨a, xs, rfl, .inl (Rd.of ha), fun l ob hl hob => new_af me hl q (D.tpx_iff.mpr ⟨l, xs, ob, rfl, me.fresh hl, upd_same, hob, DA.to ((Gro.upd hl).kp _) _ _ de⟩) p⟩) (he := he)
theorem wi_tpx {P : List W → Prop} (h : WE X c a (fun x => ∃ ds, x = .tpx ds ∧ P ds)) : WI X c tg a P := fun σ H R ev me q => by
  refine ⟨_, pi_tup E_pe, ?_⟩
  refine h σ H _ ev me fun v x H1 dx hx k1 m1 => ?_
  obtain ⟨ds, rfl, hp⟩ := hx
  obtain ⟨l, xs, ob, rfl, hn, hl, _, dd⟩ := D.tpx_iff.mp dx
  refine ⟨l, rfl, ⟨xs, .inl (.inr ⟨ob, hl⟩)⟩, q _ ds H1 (fun ex' H' kp ht i => ?_) hp k1 m1⟩
  obtain ⟨hn', hl'⟩ := kp l _ hn hl (fun _ z => by cases z)
  have dd' := DA.to kp ds xs dd
  have sq : SqT X.K H' l xs := .inl (.inr ⟨ob, hl'⟩)
  refine ⟨fun hi => ⟨xs, sq, by rw [dd.len]; exact hi⟩, fun d hd => ?_⟩
  obtain ⟨v, v1, v2⟩ := dd'.get hd
  refine ⟨⟨xs, v, sq, v1⟩, fun x H3 y => ?_⟩
  obtain ⟨e, y⟩ := y
  subst e
  have := y xs sq
  rw [v1] at this
  cases this
  exact ⟨v2, Gro.refl⟩
theorem x_listX (T : Txt X.K X.mg) (hg : Gl X "list") (he : starEach [a] X.env = (false, eval a X.env) :: starEach [] X.env) (h : WE X c a (fun x => ∃ ws, x = .tpx ws ∧ P (.lst ws))) : WE X c (.Call (.Name "list" p) [a] [] pos) P :=
  we_bty call_list_of hg (T.fr "list") (by decide +kernel) (h.mono fun x h H vs Q me d q => by
    obtain ⟨v, rfl, dd⟩ := d.one
    obtain ⟨ws, rfl, p⟩ := h
    obtain ⟨a, xs, ob, rfl, _, ha, _, de⟩ := D.tpx_iff.mp dd
    exact ⟨a, xs, rfl, .inr (.inl (.inr ⟨ob, ha⟩)), fun l hl => new_af me hl q (D.newL hl (me.fresh hl) de) p⟩) (he := he)
theorem x_inX (hm : behindInMarks .In b = false) (h : WE X c a (fun x => WE X c b (fun y => ∃ (z : Str) (zs : List Str), x = .str z ∧ y = .tpx (zs.map W.str) ∧ P (.bl (decide (z ∈ zs)))))) : WE X c (.Compare a [.In] [b] pos) P :=
  we_bin (fun _ _ ha hb => pe_cmpR op_in_seq ha hb hm) (h.mono fun x h1 => h1.mono fun y h => fun H v u Q me dx dy q => by
    obtain ⟨z, zs, rfl, rfl, p⟩ := h
    cases D.str_iff.mp dx
    obtain ⟨a, xs, ob, rfl, _, ha, _, d⟩ := D.tpx_iff.mp dy
    cases DA.strs_iff d
    rw [← inV_strs] at p
    exact ⟨a, _, rfl, .inr (.inl (.inr ⟨ob, ha⟩)), rfl, flat_strs zs, dr_sc me q (D.bl _) p⟩)
def tTix (X : Cx) (to te : TE) : TE := fun σ H Q => to σ H fun x H1 => ∃ p ob ys, x = .ref p ∧ H1 p = some (.frz ob (.tup ys)) ∧ ob.dict = none ∧ te σ H1 fun y H2 => ∃ ys : List Str, ∃ z j, y = .str z ∧ SqT X.K H2 p (ys.map V.str) ∧ ys[j]? = some z ∧ (∀ m, m < j → ys[m]? ≠ some z) ∧ Q (.int (j : Nat)) H2
theorem pe_tix {o : Expr} {apos cpos : Pos} {to te : TE} (ho : PE X o to) (ha : PE X e te)
    (hbase : attributeBase o "index" X.env (eval o X.env) = eval o X.env := by rfl)
    (hfew : ((backTo cpos (starEach [e] X.env)).all (fun x => !x.1) && (backToKw cpos (keywordEach [] X.env)).all (fun x => x.1.isSome)
      && decide (([e] : List Expr).length + ([] : List Keyword).length + (if ([] : List Keyword).isEmpty then 0 else 1) < 30)) = true := by rfl)
    (hline : (apos.endLine == cpos.line) = true := by rfl) (hs : starEach [e] X.env = (false, eval e X.env) :: starEach [] X.env := by rfl) (hplain : (backTo cpos (starEach [] X.env)).any (·.1) = false := by rfl) :
    PE X (.Call (.Attribute o "index" apos) [e] [] cpos) (tTix X to te) := by
  refine ⟨fun pins s σ H Q I h => ?_⟩
  refine wpAny_Call_method_late hbase hfew hline rfl (thn (ho.run pins s σ H _ I h) fun v s1 ⟨x, H1, I1, r1, p, ob, ys, ex, hp, hob, q1⟩ => ?_)
  subst ex
  obtain rfl : v = Value.ref p := r1
  obtain ⟨hg, _, its, _, o', ho', hc, _⟩ := I1.hok p _ hp
  refine ⟨"tuple", "tuple.index", F.plainAttrs_tuple, F.slot_tuple_index, F.type_tuple_index, ⟨o', ho', hc⟩, fun b eb => by cases eb; exact ⟨ob, hg, hob⟩, ?_⟩
  have hA := (pa_cons ha pa_nil hs).run cpos pins s1 σ H1 (fun vs H2 => match vs with
    | [y] => ∃ ys : List Str, ∃ z j, y = .str z ∧ SqT X.K H2 p (ys.map V.str) ∧ ys[j]? = some z ∧ (∀ m, m < j → ys[m]? ≠ some z) ∧ Q (.int (j : Nat)) H2
    | _ => False) I1 q1
  rw [hs] at hA ⊢
  refine Calls.callWith_builtin (by show (false || (backTo cpos (starEach [] X.env)).any (·.1)) = false; rw [hplain] <;> rfl) (Calls.evalArgs_plain ?_)
  refine thn hA fun us s2 ⟨vs, H2, I2, r2, q2⟩ => ?_
  match vs, r2, q2 with
  | [y], r2, q2 =>
    obtain ⟨ys, z, j, rfl, h1, h2, h3, h4⟩ := q2
    exact mt_tup_index pins s2 σ H2 (.ref p) [.str z] (.ref p) us Q I2 rfl r2 ⟨p, ys, z, j, rfl, rfl, h1, h2, h3, h4⟩
theorem x_tindexX {apos : Pos} (hbase : attributeBase a "index" X.env (eval a X.env) = eval a X.env)
    (hfew : ((backTo pos (starEach [e] X.env)).all (fun x => !x.1) && (backToKw pos (keywordEach [] X.env)).all (fun x => x.1.isSome)
      && decide (([e] : List Expr).length + ([] : List Keyword).length + (if ([] : List Keyword).isEmpty then 0 else 1) < 30)) = true)
    (hline : (apos.endLine == pos.line) = true) (hs : starEach [e] X.env = (false, eval e X.env) :: starEach [] X.env) (hplain : (backTo pos (starEach [] X.env)).any (·.1) = false)
    (h : WE X c a (fun x => ∃ zs : List Str, x = .tpx (zs.map W.str) ∧ WE X c e (fun y => ∃ (j : Nat) (z : Str), y = .str z ∧ zs[j]? = some z ∧ (∀ m, m < j → zs[m]? ≠ some z) ∧ P (.int j)))) : WE X c (.Call (.Attribute a "index" apos) [e] [] pos) P := fun σ H Q ev me q => by
  refine ⟨_, pe_tix E_pe E_pe hbase hfew hline hs hplain, ?_⟩
  refine h σ H _ ev me fun v x H1 dx hx k1 m1 => ?_
  obtain ⟨zs, rfl, hx⟩ := hx
  obtain ⟨l, xs, ob, rfl, hn, hl, hob, dd⟩ := D.tpx_iff.mp dx
  refine ⟨l, ob, xs, rfl, hl, hob, ?_⟩
  refine hx σ H1 _ (ev.kp k1) m1 fun u y H2 dy hy k2 m2 => ?_
  obtain ⟨j, z, rfl, h1, h2, p⟩ := hy
  obtain ⟨l', xs', ob', e', _, hl', _, dd'⟩ := D.tpx_iff.mp (D.to (k2.xs rfl) _ _ dx)
  cases e'
  cases DA.strs_iff dd'
  exact ⟨zs, z, j, D.str_iff.mp dy, .inl (.inr ⟨ob', hl'⟩), h1, h2, q _ _ H2 (D.int _) p (k1.trans k2) m2⟩
end
end K11
/-! KD18 -/
namespace K11
open PySem PySem.Spec PyProof.Rows L2
/-! ### the law's state: reading and writing its numbers -/
section
variable {X : Cx} {c : Cn} {N : Cn → Prop} {R : W → Prop} {pos p1 p2 p3 : Pos} {P : W → Prop} {a b e : Expr} {st : Addr × Addr} {σ : L2.St} {H : Hp} {Q : VK} {x : Str}
/-- x[k], x a list -/
theorem e_stk {k : Nat} {j : Nat} {l : Addr} {xs : List V} {v : V} (i : Nat) (hN : X.N[i]? = some x) (hv : Vis X.env.scope x) (g : σ[i]? = some (some (.ref l))) (hl : H l = some (.lst xs)) (hk : xs[k]? = some v) (q : Q v H)
    (hd : (x == ("__debug__" : Str)) = false := by decide) (hcd : (x == ("__classdict__" : Str)) = false := by decide) : E X (.Subscript (.Name x p1) (.Constant (.int k) j p2) pos) σ H Q :=
  ⟨_, pe_ix ix_list (pe_var hN hv hd hcd) pe_int (fun _ _ => rfl), .ref l, g, l, xs, k, v, rfl, rfl, .inl (Rd.of hl), atI_nat hk, q⟩
theorem st_at (me : Mem c H) (hst : c.st = some st) : ∃ (ns : List Int) (i : Nat) (r m n : Int), H st.1 = some (.lst [.ref st.2, .int i, .int r, .int m, .int n]) ∧ st.2 ∉ c.xs ∧ H st.2 = some (.lst (ns.map V.int)) := me.st st hst
/-- state[k], a number -/
theorem we_st {k : Nat} {j : Nat} (i : Nat) (hN : X.N[i]? = some x) (hv : Vis X.env.scope x) (g : c.ρ[i]? = some (some (.adr st.1))) (hst : c.st = some st) (hk : k = 1 ∨ k = 2 ∨ k = 3 ∨ k = 4) (h : ∀ n : Int, (k = 1 → 0 ≤ n) → P (.int n))
    (hd : (x == ("__debug__" : Str)) = false := by decide) (hcd : (x == ("__classdict__" : Str)) = false := by decide) : WE X c (.Subscript (.Name x p1) (.Constant (.int k) j p2) pos) P := fun σ H Q ev me q => by
  obtain ⟨v, s1, s2⟩ := ev.2 i _ g
  have s2 : v = .ref st.1 := s2
  subst s2
  obtain ⟨ns, ii, r, m, n, e1, e2, e3⟩ := st_at me hst
  rcases hk with rfl | rfl | rfl | rfl
  · exact e_stk i hN hv s1 e1 rfl (q _ _ H (D.int _) (h _ fun _ => Int.natCast_nonneg _) Kp.refl me) hd hcd
  · exact e_stk i hN hv s1 e1 rfl (q _ _ H (D.int _) (h _ fun z => by cases z) Kp.refl me) hd hcd
  · exact e_stk i hN hv s1 e1 rfl (q _ _ H (D.int _) (h _ fun z => by cases z) Kp.refl me) hd hcd
  · exact e_stk i hN hv s1 e1 rfl (q _ _ H (D.int _) (h _ fun z => by cases z) Kp.refl me) hd hcd
/-- the state's list changes, its form stays -/
theorem mem_st (me : Mem c H) (hst : c.st = some st) {ns : List Int} {i' : Nat} {r' m' n' : Int} (e3 : H st.2 = some (.lst (ns.map V.int))) (hn : st.2 ∉ c.xs) : Mem c (upd H st.1 (.lst [.ref st.2, .int i', .int r', .int m', .int n'])) ∧ Kp c.ms H c.ms (upd H st.1 (.lst [.ref st.2, .int i', .int r', .int m', .int n'])) := by
  obtain ⟨ns0, i0, r0, m0, n0, e1, _, _⟩ := st_at me hst
  have hsl : c.sl = [st.1] := by unfold Cn.sl; rw [hst]; rfl
  have hms : st.1 ∈ c.ms := by unfold Cn.ms; rw [hsl]; simp
  have hxs : st.1 ∈ c.xs := ms_xs hms
  have kx : Kp c.xs H c.xs (upd H st.1 (.lst [.ref st.2, .int i', .int r', .int m', .int n'])) := fun a o n h t => ⟨n, by rw [upd_ne (fun z => n (by rw [z]; exact hxs))]; exact h⟩
  have hmu : ∀ u ∈ c.μ, u.1 ≠ st.1 := fun u hu z => by
    have h := me.nd
    unfold Cn.xs Cn.ms at h
    rw [hsl] at h
    have := (List.nodup_append.mp (List.nodup_append.mp h).1).2.2 u.1 (List.mem_map.mpr ⟨u, hu, rfl⟩) st.1 (by simp)
    exact this z
  refine ⟨⟨fun u hu => ?_, fun a ha => ?_, me.nd, fun a ha => ?_, fun q hq => ?_⟩, fun a o n h t => ⟨n, by rw [upd_ne (fun z => n (by rw [z]; exact hms))]; exact h⟩⟩
  · have hne := hmu u hu
    have hm := me.mu u hu
    obtain ⟨a, u⟩ := u
    cases u with
    | lst ws => obtain ⟨xs, e, d⟩ := hm; exact ⟨xs, by rw [upd_ne hne]; exact e, DA.to kx _ _ d⟩
    | ins C dx fs => obtain ⟨xs, e, d⟩ := hm; exact ⟨xs, by rw [upd_ne hne]; exact e, DF.to kx _ _ d⟩
  · rw [hst] at ha
    cases ha
    refine ⟨ns, i', r', m', n', upd_same, hn, ?_⟩
    rw [upd_ne (fun z => hn (by rw [z]; exact hxs))]
    exact e3
  · by_cases z : a = st.1
    · exact ⟨_, by rw [z]; exact upd_same, fun _ z => by cases z⟩
    · obtain ⟨o, e, t⟩ := me.ex a ha
      exact ⟨o, by rw [upd_ne z]; exact e, t⟩
  · obtain ⟨ps, a1, a2, a3⟩ := me.tb q hq
    refine ⟨ps, by rw [upd_ne (fun z => by rw [z, e1] at a1; cases a1)]; exact a1, a2, fun pos cv e => ?_⟩
    obtain ⟨cc, b1, b2⟩ := a3 pos cv e
    exact ⟨cc, b1, by rw [upd_ne (fun z => by rw [z, e1] at b2; unfold LamX.CodeO at b2; cases b2)]; exact b2⟩
/-- state[k] = e -/
theorem ws_st {k : Nat} {j : Nat} (i : Nat) (hN : X.N[i]? = some x) (hv : Vis X.env.scope x) (g : c.ρ[i]? = some (some (.adr st.1))) (hst : c.st = some st) (hk : k = 1 ∨ k = 2 ∨ k = 3 ∨ k = 4)
    (h : WE X c e (fun w => ∃ n : Int, w = .int n ∧ (k = 1 → 0 ≤ n) ∧ N c))
    (hs : swapsWithSole [.Subscript (.Name x p1) (.Constant (.int k) j p2) p3] e pos.line X.env = pure false := by rfl) (hw : swappedStores [.Subscript (.Name x p1) (.Constant (.int k) j p2) p3] e X.env = pure none := by rfl)
    (h1 : (assignEach [.Subscript (.Name x p1) (.Constant (.int k) j p2) p3] X.env).map (·.2) = [assign (.Subscript (.Name x p1) (.Constant (.int k) j p2) p3) X.env] := by rfl)
    (ha : ∀ v, assign (.Subscript (.Name x p1) (.Constant (.int k) j p2) p3) X.env v = (do
      let ov ← holding [v] (eval (.Name x p1) X.env)
      let iv ← holding [v, ov] (eval (.Constant (.int k) j p2) X.env)
      standAt p3
      holding [v, ov, iv] (setItem ov iv v)
      release [v, ov, iv] []) := by intro _; rfl)
    (hd : (x == ("__debug__" : Str)) = false := by decide) (hcd : (x == ("__classdict__" : Str)) = false := by decide) : WS X c (.Assign [.Subscript (.Name x p1) (.Constant (.int k) j p2) p3] e pos) N R := fun σ H Dn ev me q => by
  refine ⟨_, ps_asg E_pe (pg_sub (pe_var hN hv hd hcd) pe_int set_list ha) hs hw h1, ?_⟩
  refine h σ H _ ev me fun v w H1 d hx k1 m1 => ?_
  obtain ⟨nv, rfl, h0, hn⟩ := hx
  cases D.int_iff.mp d
  obtain ⟨v, s1, s2⟩ := ev.2 i _ g
  have s2 : v = .ref st.1 := s2
  subst s2
  obtain ⟨ns, ii, r, m, n, e1, e2, e3⟩ := st_at m1 hst
  have fin : ∀ (i' : Nat) (r' m' n' : Int), Dn.nx σ (upd H1 st.1 (.lst [.ref st.2, .int i', .int r', .int m', .int n'])) := fun i' r' m' n' => by
    obtain ⟨m2, k2⟩ := mem_st m1 hst (i' := i') (r' := r') (m' := m') (n' := n') e3 e2
    exact q.1 c σ _ hn (ev.kp (k1.trans k2)) m2 (Grw.of (k1.trans k2))
  refine ⟨.ref st.1, s1, st.1, _, (k : Int), k, rfl, rfl, e1, ?_, ?_⟩
  · rcases hk with rfl | rfl | rfl | rfl <;> rfl
  · rcases hk with rfl | rfl | rfl | rfl
    · have := fin nv.toNat r m n
      rw [Int.toNat_of_nonneg (h0 rfl)] at this
      exact this
    · exact fin ii nv m n
    · exact fin ii r nv n
    · exact fin ii r m nv
end
end K11
/-! KD19 -/
namespace K11
open PySem PySem.Spec PyProof.Rows L2
section
variable {X : Cx} {c : Cn} {N : Cn → Prop} {R : W → Prop} {pos r1 r2 p1 p2 p3 p4 p5 p6 p7 p8 p9 q1 q2 q3 q4 q5 q6 q7 q8 : Pos} {P : W → Prop} {a b e : Expr} {st : Addr × Addr} {x y : Str} {rest : List Stmt}
/-- if (a number of the state says so) and state[1] < len(state[0]): cell = state[0][state[1]]; .. -/
theorem ws_cell {j0 j1 j2 j3 : Nat} (i iy : Nat) (T : Txt X.K X.mg) (hg : Gl X "len") (hND : X.N.Nodup) (hN : X.N[i]? = some x) (hv : Vis X.env.scope x) (hi : X.N[iy]? = some y) (hx : Loc X.env.scope y) (hf : X.fn y = true ∨ X.env.scope.names.lookup y = some .local)
    (g : c.ρ[i]? = some (some (.adr st.1))) (hne : i ≠ iy) (hst : c.st = some st)
    (ha : WT X c a fun _ => True) (hno : N c) (hyes : ∀ n : Int, WSs X { c with ρ := c.ρ.set iy (some (.dat (.int n))) } rest N R)
    (hs : swapsWith (.Subscript (.Subscript (.Name x q1) (.Constant (.int 0) j2 q2) q3) (.Subscript (.Name x q4) (.Constant (.int 1) j3 q5) q6) q7) (some (.Name y q8)) pos.line X.env = pure false := by rfl)
    (he : starEach [.Subscript (.Name x p6) (.Constant (.int 0) j1 p7) p8] X.env = (false, eval (.Subscript (.Name x p6) (.Constant (.int 0) j1 p7) p8) X.env) :: starEach [] X.env := by rfl)
    (hd : (x == ("__debug__" : Str)) = false := by decide) (hcd : (x == ("__classdict__" : Str)) = false := by decide) :
    WS X c (.If (.BoolOp .And [a, .Compare (.Subscript (.Name x p1) (.Constant (.int 1) j0 p2) p3) [.Lt] [.Call (.Name "len" p5) [.Subscript (.Name x p6) (.Constant (.int 0) j1 p7) p8] [] p9] p4] r1)
      (.Assign [.Name y q8] (.Subscript (.Subscript (.Name x q1) (.Constant (.int 0) j2 q2) q3) (.Subscript (.Name x q4) (.Constant (.int 1) j3 q5) q6) q7) pos :: rest) [] r2) N R := fun σ H Dn ev me q => by
  refine ⟨_, ps_if E_pt E_pss E_pss, ?_⟩
  refine ⟨_, (pw_and E_pt (pw_and1 E_pt)).pt, ?_⟩
  refine ha σ H _ ev me fun k H1 _ k1 m1 => ?_
  have no : ESs X [] Dn σ H1 := ⟨_, pss_nil, q.1 c σ H1 hno (ev.kp k1) m1 (Grw.of k1)⟩
  cases k with
  | false => exact no
  | true =>
    obtain ⟨v, s1, s2⟩ := ev.2 i _ g
    have s2 : v = .ref st.1 := s2
    subst s2
    obtain ⟨ns, ii, r, m, n, e1, e2, e3⟩ := st_at m1 hst
    refine ⟨_, pt_cmpR op_lt E_pe E_pe (nomark _), ?_⟩
    refine e_stk (k := 1) i hN hv s1 e1 rfl ?_ hd hcd
    refine ⟨_, pe_callB call_len_seq hg (T.fr "len") (by decide +kernel) (pa_cons E_pe pa_nil he) (he := he), ?_⟩
    refine e_stk (k := 0) i hN hv s1 e1 rfl ?_ hd hcd
    refine ⟨st.2, ns.map V.int, rfl, .inl (.inl (Rd.of e3)), ?_⟩
    refine ⟨_, _, rfl, rfl, _, rfl, ?_⟩
    by_cases hlt : (ii : Int) < ((ns.map V.int).length : Nat)
    · rw [decide_eq_true hlt]
      rw [List.length_map] at hlt
      refine ⟨_, pss_cons E_ps E_pss, ?_⟩
      refine ⟨_, L2.ps_set hND hi hx E_pe hs hf, ?_⟩
      refine ⟨_, pe_ix ix_list E_pe E_pe (fun _ _ => rfl), ?_⟩
      refine e_stk (k := 0) i hN hv s1 e1 rfl ?_ hd hcd
      refine e_stk (k := 1) i hN hv s1 e1 rfl ?_ hd hcd
      obtain ⟨z, hz⟩ : ∃ z, ns[ii]? = some z := ⟨_, List.getElem?_eq_getElem (by omega)⟩
      refine ⟨st.2, ns.map V.int, ii, .int z, rfl, rfl, .inl (Rd.of e3), atI_nat (by rw [List.getElem?_map, hz]; rfl), ?_⟩
      have tk : D H1 c.xs (.int z) (.int z) := D.int z
      exact hyes z _ H1 Dn (EnvOk.set (th := .dat (.int z)) (ev.kp k1) tk) (m1.rho _) (q.after ⟨rfl, rfl, rfl, k1⟩)
    · rw [decide_eq_false hlt]
      exact no
theorem xe_pow (h : WE X c a (fun x => WE X c b (fun y => ∃ i j, x = .int i ∧ y = .int j ∧ CPow i j ∧ P (.int (i ^ j.toNat))))) : WE X c (.BinOp a .Pow b pos) P :=
  we_bin (fun _ _ ha hb => pe_op op_pow ha hb) (h.mono fun x h1 => h1.mono fun y ⟨i, j, e1, e2, hc, p⟩ => fun H v u Q me dx dy q => by
    subst e1 e2
    exact ⟨i, j, D.int_iff.mp dx, D.int_iff.mp dy, hc, dr_sc me q (D.int _) p⟩)
theorem x_abs (T : Txt X.K X.mg) (hg : Gl X "abs") (he : starEach [a] X.env = (false, eval a X.env) :: starEach [] X.env) (h : WE X c a (fun x => ∃ i, x = .int i ∧ ∀ n : Int, P (.int n))) : WE X c (.Call (.Name "abs" p1) [a] [] pos) P :=
  we_blt call_abs hg (T.fr "abs") (by decide +kernel) (h.mono fun x h H vs Q me d q => by
    obtain ⟨v, rfl, dd⟩ := d.one
    obtain ⟨i, rfl, p⟩ := h
    exact ⟨i, by rw [D.int_iff.mp dd], dr_sc me q (D.int _) (p _)⟩) (he := he)
end
end K11
/-! KD20 -/
namespace K11
open PySem PySem.Spec PyProof.Rows L2
section
variable {X : Cx} {c : Cn} {pos : Pos} {tg : Expr}
/-- every item is one of those that A i allows -/
theorem wlc_A {scope : Scope} {own : List (Str × Nat)} {elt : Expr} {it : Expr} {P : W → Prop}
    (h : WI X c tg it (fun ds => ds.length ≤ sizeLine ∧ ∃ A : Nat → W → Prop, (∀ i d, ds[i]? = some d → ∀ Dd, fam X scope fun X1 => WG X1 (c.inC (wipeR c.ρ (own.map (·.2))) Dd) tg d (own.map (·.2)) fun ρ => fam X scope fun X3 => WE X3 (c.inC ρ Dd) elt (fun y => A i y)) ∧
      ∀ acc : List W, acc.length = ds.length → (∀ i y, acc[i]? = some y → A i y) → P (.lst acc))) : WLc X c scope own tg it elt [] P :=
  (h.mono fun ds ⟨hl, A, h1, h2⟩ => ⟨hl, fun i acc => acc.length = i ∧ ∀ j y, acc[j]? = some y → A j y, ⟨rfl, fun j y q => by simp at q⟩, fun i acc d hd _ hI Dd s H C cl fp => by
    obtain ⟨hI1, hI2⟩ : acc.length = i ∧ ∀ j y, acc[j]? = some y → A j y := hI
    refine fun σ H v Q ev me dd q => h1 i d hd Dd s _ C cl fp σ H v Q ev me dd fun ρ' σ' hN => q ρ' σ' ?_
    intro s H C cl fp
    refine wts_nil ?_
    rw [if_pos rfl]
    intro s H C cl fp
    refine (hN s H C cl fp).mono fun y e => ?_
    show (acc ++ [y]).length = i + 1 ∧ ∀ j z, (acc ++ [y])[j]? = some z → A j z
    refine ⟨by rw [List.length_append, hI1]; rfl, fun j z hz => ?_⟩
    by_cases hj : j < acc.length
    · rw [List.getElem?_append_left hj] at hz
      exact hI2 j z hz
    · rw [List.getElem?_append_right (by omega)] at hz
      have : j - acc.length = 0 := by
        rcases Nat.eq_zero_or_pos (j - acc.length) with q | q
        · exact q
        · rw [List.getElem?_eq_none (by simp; omega)] at hz; cases hz
      rw [this] at hz
      cases hz
      have : j = i := by omega
      rw [this]
      exact e, fun acc hI => h2 acc hI.1 hI.2⟩)
theorem we_c0 {P : W → Prop} {F : DSpec} {k j : Nat} {x : Str} {p : Pos} (cl : C8.Cal X.prog X.w X.K X.mg X.base k x (spD F) []) (hr : Room j X.A) (hk : k ≤ j) (hg : Gl X x) (h : F [] P)
    (hdb : (x == ("__debug__" : Str)) = false := by decide) : WE X c (.Call (.Name x p) [] [] pos) P := fun σ H Q ev me q => by
  obtain ⟨f, fd, ps, ds, FF, hm, kp, b, d⟩ := cl.ex
  exact ⟨_, pe_call0 (E := C8.E0) FF (hr.mono hk) hg hm kp b d C8.pass0 hdb, spD_use (E := C8.E0) me DA.nil h q⟩
end
end K11
/-! KD21 -/
namespace K11
open PySem PySem.Spec PyProof.Rows L2
section
variable {X : Cx} {c : Cn} {pos p : Pos} {a : Expr}
/-- x not in l, l a list that changes -/
theorem xt_ninMu {P : Bool → Prop} (i : Nat) {x : Str} {l : Addr} {zs : List Str} (hN : X.N[i]? = some x) (hv : Vis X.env.scope x) (g : c.ρ[i]? = some (some (.adr l))) (hμ : (l, .lst (zs.map W.str)) ∈ c.μ) (hm : behindInMarks .NotIn (.Name x p) = false)
    (h : WE X c a (fun y => ∃ z, y = .str z ∧ P (!decide (z ∈ zs)))) (hd : (x == ("__debug__" : Str)) = false := by decide) (hcd : (x == ("__classdict__" : Str)) = false := by decide) : WT X c (.Compare a [.NotIn] [.Name x p] pos) P := fun σ H Q ev me q => by
  refine ⟨_, pt_cmpR op_notIn_seq E_pe (pe_var hN hv hd hcd) hm, ?_⟩
  refine h σ H _ ev me fun v y H1 dy hy k1 m1 => ?_
  obtain ⟨z, rfl, p⟩ := hy
  cases D.str_iff.mp dy
  obtain ⟨v, s1, s2⟩ := ev.2 i _ g
  have s2 : v = .ref l := s2
  subst s2
  obtain ⟨xs, hl, dl⟩ := m1.mu _ hμ
  cases DA.strs_iff dl
  refine ⟨.ref l, s1, l, _, rfl, .inl (.inl (Rd.of hl)), rfl, flat_strs zs, ?_⟩
  rw [inV_strs]
  exact ⟨_, rfl, q _ H1 p k1 m1⟩
end
end K11
/-! KD22 -/
namespace K11
open PySem PySem.Spec PyProof.Rows L2
/-! ### a list of lists that change -/
/-- in the slot stands a list of these addresses -/
def refsTh (as : List Addr) : Th := .prp (fun ex H v => ∃ l, v = .ref l ∧ l ∉ ex ∧ H l = some (.lst (as.map V.ref))) fun ex H ex' H' v k ⟨l, e, n, h⟩ => let ⟨n', h'⟩ := k l _ n h (fun _ z => by cases z); ⟨l, e, n', h'⟩
abbrev muL (as : List Addr) (wss : List (List W)) : List (Addr × Mu) := List.zipWith (fun a ws => (a, Mu.lst ws)) as wss
theorem muL_fst : ∀ {as : List Addr} {wss : List (List W)}, as.length = wss.length → (muL as wss).map (·.1) = as
  | [], [], _ => rfl
  | [], _ :: _, h => by simp at h
  | _ :: _, [], h => by simp at h
  | a :: as, ws :: wss, h => by
    show a :: (muL as wss).map (·.1) = _
    rw [muL_fst (by simpa using h)]
theorem muL_at : ∀ {as : List Addr} {wss : List (List W)} {k : Nat} {a : Addr} {ws : List W}, as[k]? = some a → wss[k]? = some ws → ∃ μ1 μ2, muL as wss = μ1 ++ (a, .lst ws) :: μ2 ∧ ∀ ws', muL as (wss.set k ws') = μ1 ++ (a, .lst ws') :: μ2
  | [], _, k, a, ws, h, _ => by simp at h
  | _ :: _, [], k, a, ws, _, h => by simp at h
  | a :: as, ws :: wss, 0, a', ws', h, h' => by
    cases (show some a = some a' from h)
    cases (show some ws = some ws' from h')
    exact ⟨[], muL as wss, rfl, fun _ => rfl⟩
  | a :: as, ws :: wss, k + 1, a', ws', h, h' => by
    obtain ⟨m1, m2, e1, e2⟩ := muL_at (as := as) (wss := wss) (k := k) (by simpa using h) (by simpa using h')
    exact ⟨(a, .lst ws) :: m1, m2, by show (a, Mu.lst ws) :: muL as wss = _; rw [e1]; rfl, fun ws'' => by show (a, Mu.lst ws) :: muL as (wss.set k ws'') = _; rw [e2]; rfl⟩
section
variable {X : Cx} {c : Cn} {N : Cn → Prop} {R : W → Prop} {P : W → Prop} {e a b tg it : Expr} {ss : List Stmt} {pos p p1 p2 p3 : Pos} {σ : L2.St} {H : Hp}
/-- name = [[] for y in ..] -/
theorem ws_newlls (i : Nat) {x : Str} {px p0 : Pos} {scope : Scope} (own : List (Str × Nat)) (j : Nat) (hc : X.calm = true) (hN : X.N.Nodup) (ok : BlkOk X.N X.env.scope scope own) (hi : X.N[i]? = some x) (hx : Loc X.env.scope x) (hf : X.fn x = true ∨ X.env.scope.names.lookup x = some .local)
    (hj : j ∈ own.map (·.2)) (hg : fam X scope fun X1 => ∀ (v : V) (σ : L2.St) (H : Hp) (Q : L2.St → Hp → Prop), Q (σ.set j (some v)) H → EG X1 tg v σ H Q)
    (h : WI X c tg it (fun ds => ds.length ≤ 1000 ∧ ∀ as : List Addr, as.length = ds.length → N { c with ρ := c.ρ.set i (some (refsTh as)), μ := muL as (List.replicate ds.length []) ++ c.μ }))
    (hs : swapsWith (.ListComp (.List [] p0) [⟨tg, it, [], 0⟩] scope p) (some (.Name x px)) pos.line X.env = pure false)
    (hs' : ∀ x, foldedSetIterable it X.env x = pure x := by intro _; rfl) : WS X c (.Assign [.Name x px] (.ListComp (.List [] p0) [⟨tg, it, [], 0⟩] scope p) pos) N R := fun σ H Dn ev me q => by
  refine ⟨_, L2.ps_set hN hi hx (pe_lc hc hN E_pi ok (fun _ _ _ _ _ => pg_fam) (fun _ _ _ _ _ => pts_fam) (fun _ _ _ _ _ => pe_fam) hs') hs hf, ?_⟩
  refine h σ H _ ev me fun J ds H1 hJ hp k1 m1 => ?_
  obtain ⟨hln, hp⟩ := hp
  intro Dd hD
  refine ⟨fun n m H2 => m = ds.length - n ∧ n ≤ ds.length ∧ ∃ as : List Addr, as.length = n ∧ as.Nodup ∧ H2 Dd = some (.lst (as.map V.ref)) ∧ (∀ a ∈ as, H1 a = none ∧ a ≠ Dd ∧ H2 a = some (.lst [])) ∧ Gro H1 H2,
    ⟨ds.length, by omega, Nat.zero_le _, [], rfl, List.nodup_nil, upd_same, (fun _ z => nomatch z), Gro.upd hD⟩, ?_⟩
  rintro n m H2 ⟨rfl, hn, as, hal, hnd, hH, has, gr⟩
  have jx := hJ c.xs H2 (gr.kp _) (fun a ha => let ⟨o, e⟩ := m1.some_of ha; ⟨o, gr _ _ e⟩) n
  by_cases hlt : n < ds.length
  · right
    obtain ⟨d, hd⟩ : ∃ d, ds[n]? = some d := ⟨_, List.getElem?_eq_getElem hlt⟩
    obtain ⟨go, jy⟩ := jx.2 d hd
    refine ⟨go, fun H' => n + 1 ≤ ds.length ∧ ∃ as : List Addr, as.length = n + 1 ∧ as.Nodup ∧ H' Dd = some (.lst (as.map V.ref)) ∧ (∀ a ∈ as, H1 a = none ∧ a ≠ Dd ∧ H' a = some (.lst [])) ∧ Gro H1 H',
      fun H' ⟨z1, z2⟩ => ⟨ds.length - (n + 1), by omega, rfl, z1, z2⟩, fun y H' yl => ?_⟩
    obtain ⟨_, g⟩ := jy y H' yl
    intro s0 h0 C0 cl0 fp0
    refine hg s0 h0 C0 cl0 fp0 y _ H' _ ?_
    refine ⟨wipe_agr ⟨by rw [List.length_set], fun k hk => by rw [List.getElem?_set_ne (fun z => hk (by rw [← z]; exact hj))]⟩, ?_⟩
    intro s1 h1 C1 cl1 fp1
    refine ⟨_, pts_nil, ?_⟩
    simp only [if_true]
    intro s2 h2 C2 cl2 fp2
    refine ⟨_, pe_lst pa_nil, Nat.zero_le _, fun l hl => ?_⟩
    have hDl : Dd ≠ l := fun z => by rw [← z, g _ _ hH] at hl; cases hl
    refine ⟨as.map V.ref, by rw [upd_ne hDl]; exact g _ _ hH, by rw [List.length_map, hal]; exact Nat.lt_of_lt_of_le hlt (line6 (Nat.le_trans hln (by decide))), hlt, as ++ [l], by rw [List.length_append, hal]; rfl, ?_, ?_, fun b hb => ?_, ?_⟩
    · refine List.nodup_append.mpr ⟨hnd, List.nodup_cons.mpr ⟨(fun z => nomatch z), List.nodup_nil⟩, fun x hx y hy e => ?_⟩
      rw [List.mem_singleton.mp hy] at e
      have := g _ _ (has x hx).2.2
      rw [e, hl] at this
      cases this
    · rw [upd_same, List.map_append]
      rfl
    · rcases List.mem_append.mp hb with hb | hb
      · obtain ⟨b1, b2, b3⟩ := has b hb
        have hbl : b ≠ l := fun z => by have := g _ _ b3; rw [z, hl] at this; cases this
        exact ⟨b1, b2, by rw [upd_ne b2, upd_ne hbl]; exact g _ _ b3⟩
      · cases List.mem_singleton.mp hb
        refine ⟨?_, Ne.symm hDl, by rw [upd_ne (Ne.symm hDl)]; exact upd_same⟩
        cases z : H1 l with
        | none => rfl
        | some o => have := g _ _ (gr _ _ z); rw [hl] at this; cases this
    · intro b o hb
      have h3 := g _ _ (gr _ _ hb)
      rw [upd_ne (fun z => by rw [z, hD] at hb; cases hb), upd_ne (fun z => by rw [z, hl] at h3; cases h3)]
      exact h3
  · left
    have en : n = ds.length := by omega
    subst en
    refine ⟨jx.1 (Nat.le_refl _), ?_⟩
    have hfst := muL_fst (as := as) (wss := List.replicate ds.length []) (by rw [List.length_replicate]; exact hal)
    have hxs : ∀ b, b ∈ ({ c with ρ := c.ρ.set i (some (refsTh as)), μ := muL as (List.replicate ds.length []) ++ c.μ } : Cn).xs ↔ b ∈ as ∨ b ∈ c.xs := fun b => by
      unfold Cn.xs Cn.ms Cn.sl
      simp only [List.map_append, hfst, List.mem_append, or_assoc]
    have hms : ∀ b, b ∈ ({ c with ρ := c.ρ.set i (some (refsTh as)), μ := muL as (List.replicate ds.length []) ++ c.μ } : Cn).ms ↔ b ∈ as ∨ b ∈ c.ms := fun b => by
      unfold Cn.ms Cn.sl
      simp only [List.map_append, hfst, List.mem_append, or_assoc]
    have k12 : Kp c.xs H1 ({ c with ρ := c.ρ.set i (some (refsTh as)), μ := muL as (List.replicate ds.length []) ++ c.μ } : Cn).xs H2 := fun b o hb h t => ⟨fun z => by
      rcases (hxs b).mp z with z | z
      · have := (has b z).1; rw [h] at this; cases this
      · exact hb z, gr _ _ h⟩
    have ev1 := ev.kp k1
    refine q.1 _ _ H2 (hp as hal) ?_ ?_ ⟨rfl, rfl, rfl, fun b o hb h t => ?_⟩
    · have e1 : EnvOk { c with μ := muL as (List.replicate ds.length []) ++ c.μ } σ H2 := EnvOk.xs' (ρ := c.ρ) ev1 k12 rfl
      exact EnvOk.set (v := .ref Dd) (th := refsTh as) e1 ⟨Dd, rfl, fun z => by
        rcases (hxs Dd).mp z with z | z
        · exact (has _ z).2.1 rfl
        · exact m1.fresh hD z, hH⟩
    · refine ⟨fun u hu => ?_, fun b e => ?_, ?_, fun b hb => ?_, tabs_gro gr m1.tb⟩
      · rcases List.mem_append.mp hu with hu | hu
        · obtain ⟨k, hk⟩ := List.mem_iff_getElem?.mp hu
          rw [List.getElem?_zipWith] at hk
          cases e1 : as[k]? with
          | none => rw [e1] at hk; cases hk
          | some b =>
            cases e2 : (List.replicate ds.length ([] : List W))[k]? with
            | none => rw [e1, e2] at hk; cases hk
            | some ws =>
              rw [e1, e2] at hk
              cases hk
              have : ws = [] := (List.mem_replicate.mp (List.mem_of_getElem? e2)).2
              subst this
              exact ⟨[], (has b (List.mem_of_getElem? e1)).2.2, DA.nil⟩
        · have hm := m1.mu u hu
          obtain ⟨b, v⟩ := u
          cases v with
          | lst ws => obtain ⟨xs, e, d⟩ := hm; exact ⟨xs, gr _ _ e, DA.to k12 ws xs d⟩
          | ins C dx fs => obtain ⟨xs, e, d⟩ := hm; exact ⟨xs, gr _ _ e, DF.to k12 fs xs d⟩
      · exact (m1.st b e).to (fun _ h _ => gr _ _ h) k12
      · have : ({ c with ρ := c.ρ.set i (some (refsTh as)), μ := muL as (List.replicate ds.length []) ++ c.μ } : Cn).xs = as ++ c.xs := by
          unfold Cn.xs Cn.ms Cn.sl
          simp only [List.map_append, hfst, List.append_assoc]
        rw [this]
        exact List.nodup_append.mpr ⟨hnd, m1.nd, fun x hx y hy e => by
          obtain ⟨o, ho⟩ := m1.some_of hy
          have := (has x hx).1
          rw [e, ho] at this
          cases this⟩
      · obtain ⟨o, e, t⟩ := m1.ex b hb
        exact ⟨o, gr _ _ e, t⟩
    · obtain ⟨hb1, h1⟩ := k1 b o hb h t
      exact ⟨fun z => by
        rcases (hms b).mp z with z | z
        · have := (has b z).1; rw [h1] at this; cases this
        · exact hb1 z, gr _ _ h1⟩
/-- name = lists[k] -/
theorem ws_refs (i j : Nat) {x y : Str} {py px : Pos} {as : List Addr} (hND : X.N.Nodup) (hN : X.N[i]? = some x) (hv : Vis X.env.scope x) (hi : X.N[j]? = some y) (hx : Loc X.env.scope y) (hf : X.fn y = true ∨ X.env.scope.names.lookup y = some .local) (g : c.ρ[i]? = some (some (refsTh as)))
    (hs : swapsWith (.Subscript (.Name x px) b p) (some (.Name y py)) pos.line X.env = pure false)
    (hp : PlainIx b)
    (h : WE X c b (fun w => ∃ (k : Nat) (a : Addr), w = .int (k : Int) ∧ as[k]? = some a ∧ N { c with ρ := c.ρ.set j (some (.adr a)) }))
    (hd : (x == ("__debug__" : Str)) = false := by decide) (hcd : (x == ("__classdict__" : Str)) = false := by decide) : WS X c (.Assign [.Name y py] (.Subscript (.Name x px) b p) pos) N R := fun σ H Dn ev me q => by
  refine ⟨_, L2.ps_set hND hi hx (pe_ix ix_list (pe_var hN hv hd hcd) E_pe hp) hs hf, ?_⟩
  obtain ⟨v, s1, l, e, hl⟩ := ev.2 i _ g
  subst e
  refine ⟨.ref l, s1, ?_⟩
  refine h σ H _ ev me fun u w H1 d hw k1 m1 => ?_
  obtain ⟨k, a, rfl, ha, hn⟩ := hw
  cases D.int_iff.mp d
  have hl1 := (k1.xs rfl l _ hl.1 hl.2 (fun _ z => by cases z)).2
  refine ⟨l, _, (k : Int), .ref a, rfl, rfl, .inl (Rd.of hl1), atI_nat (by rw [List.getElem?_map, ha]; rfl), ?_⟩
  exact q.1 _ _ H1 hn (EnvOk.set (v := .ref a) (th := .adr a) (ev.kp k1) rfl) (m1.rho _) ⟨rfl, rfl, rfl, k1⟩
/-- len(name), name a list that changes -/
theorem xe_lenMu (i : Nat) {x : Str} {px : Pos} {l : Addr} {ws : List W} (T : Txt X.K X.mg) (hg : Gl X "len") (hN : X.N[i]? = some x) (hv : Vis X.env.scope x) (g : c.ρ[i]? = some (some (.adr l))) (hμ : (l, .lst ws) ∈ c.μ)
    (he : starEach [.Name x px] X.env = (false, eval (.Name x px) X.env) :: starEach [] X.env) (h : P (.int ws.length))
    (hd : (x == ("__debug__" : Str)) = false := by decide) (hcd : (x == ("__classdict__" : Str)) = false := by decide) : WE X c (.Call (.Name "len" p) [.Name x px] [] pos) P := fun σ H Q ev me q => by
  obtain ⟨v, s1, s2⟩ := ev.2 i _ g
  have s2 : v = .ref l := s2
  subst s2
  obtain ⟨xs, hl, dl⟩ := me.mu _ hμ
  refine ⟨_, pe_callB call_len_seq hg (T.fr "len") (by decide +kernel) (pa_cons (pe_var hN hv hd hcd) pa_nil he) (he := he), ?_⟩
  refine ⟨.ref l, s1, l, xs, rfl, .inl (.inl (Rd.of hl)), ?_⟩
  rw [dl.len]
  exact q _ _ H (D.int _) h Kp.refl me
/-- from now on the lists are data -/
theorem v_freezeL {ρ : List (Option Th)} {st : Option (Addr × Addr)} {ex : List Addr} {T : List (Addr × Str)} (j : Nat) {as : List Addr} {wss : List (List W)} (g : ρ[j]? = some (some (refsTh as))) (hl : as.length = wss.length)
    (h : WSs X ⟨ρ.set j (some (.dat (.lst (wss.map W.lst)))), [], st, ex, T⟩ ss N R) : WSs X ⟨ρ, muL as wss, st, ex, T⟩ ss N R := by
  refine fun σ H Dn ev me q => ?_
  have ev' : EnvOk ⟨ρ.set j (some (.dat (.lst (wss.map W.lst)))), [], st, ex, T⟩ σ H := ⟨by rw [ev.1]; simp, fun i th h => by
    have h : (ρ.set j (some (.dat (.lst (wss.map W.lst)))))[i]? = some (some th) := h
    by_cases z : j = i
    · subst z
      have hlt : j < ρ.length := by
        by_cases q : j < ρ.length
        · exact q
        · rw [List.getElem?_eq_none (by omega)] at g; cases g
      rw [List.getElem?_set_self hlt] at h
      cases h
      obtain ⟨v, s1, l, e, hl1, hl2⟩ := ev.2 j _ g
      subst e
      refine ⟨_, s1, D.lst_iff.mpr ⟨l, _, rfl, frz_xs hl1, hl2, ?_⟩⟩
      refine DA.of (by rw [List.length_map, List.length_map]; exact hl) fun k w v hw hv => ?_
      rw [List.getElem?_map] at hw hv
      cases e1 : as[k]? with
      | none => rw [e1] at hv; cases hv
      | some a =>
        cases e2 : wss[k]? with
        | none => rw [e2] at hw; cases hw
        | some ws =>
          rw [e1] at hv
          rw [e2] at hw
          cases hv
          cases hw
          obtain ⟨m1, m2, em, _⟩ := muL_at e1 e2
          have hmem : (a, Mu.lst ws) ∈ muL as wss := by rw [em]; simp
          obtain ⟨xs, hx, dx⟩ := me.mu _ hmem
          exact D.lst_iff.mpr ⟨a, xs, rfl, frz_mu me hmem, hx, DA.to frz_kp _ _ dx⟩
    · rw [List.getElem?_set_ne z] at h
      obtain ⟨v, s1, s2⟩ := ev.2 i th h
      refine ⟨v, s1, ?_⟩
      cases th with
      | dat w => exact D.to frz_kp w v s2
      | adr a => exact s2
      | prp p m => exact m _ _ _ _ _ frz_kp s2⟩
  refine h σ H Dn ev' ((frz_mem me).rho _) ⟨fun c2 σ2 H2 n ev2 m2 g => q.1 c2 σ2 H2 n ev2 m2 ⟨g.st, g.ex, g.T, fun a o hn h t => g.kp a o (frz_ms (c := ⟨ρ, muL as wss, st, ex, T⟩) hn) h t⟩, fun v w H2 r ok => q.2 v w H2 r ⟨ok.d, fun a o hn h t => ok.kp a o (frz_ms (c := ⟨ρ, muL as wss, st, ex, T⟩) hn) h t, ok.st, ok.ex, ok.tb⟩⟩
end
end K11
/-! KD24 -/
namespace K11
open PySem PySem.Spec PyProof.Rows L2
/-! ### promises with the code tables told -/
def spDT (T : List (Addr × Str)) (F : DSpec) : Sp := fun vs H Q _ => ∃ (ex : List Addr) (ws : List W) (P : W → Prop), DA H ex ws vs ∧ ex.Nodup ∧ (∀ a ∈ ex, Al H a) ∧ LamX.Tabs T H ∧ F ws P ∧
  ∀ w v H', P w → D H' ex w v → Kp [] H [] H' → (∀ a ∈ ex, Al H' a) → LamX.Tabs T H' → Q v H'
def spST (T : List (Addr × Str)) (F : DSpec) : Sp := fun vs H Q _ => ∃ (st : Addr × Addr) (us : List V) (ex : List Addr) (ws : List W) (P : W → Prop), vs = .ref st.1 :: us ∧ StOk H (st.1 :: ex) st ∧ DA H (st.1 :: ex) ws us ∧ (st.1 :: ex).Nodup ∧ (∀ a ∈ ex, Al H a) ∧ LamX.Tabs T H ∧ F ws P ∧
  ∀ w v H', P w → D H' (st.1 :: ex) w v → Kp [st.1] H [st.1] H' → StOk H' (st.1 :: ex) st → (∀ a ∈ ex, Al H' a) → LamX.Tabs T H' → Q v H'
/-- a def with its code object -/
structure GDefC (K : PySem.W.Frag) (mg : Str → Option Value) (x : Str) (st : Stmt) (c : Addr) : Prop where
  ex : ∃ f fd, FunD K x x (C8.fnArgs st) (C8.fnBody st) (C8.fnScope st) [] [] f fd ∧ mg x = some (.ref f) ∧ fd.code = .ref c
section
variable {P : Program} {w : World} {K : PySem.W.Frag} {mg : Str → Option Value} {base : Heap}
theorem GDefC.cal {x : Str} {st : Stmt} {cc : Addr} {N ps : List Str} {k : Nat} {sp : Sp} (G : GDefC K mg x st cc) (S : FnScope N ps (C8.fnScope st))
    (hb : ∀ (kV doc pm : Value) (an : Option Addr) (cdv ct : Value) (us : List Value), us.length = ps.length → bindArgs (PySem.W.fnOf x x (C8.fnArgs st) (C8.fnBody st) (C8.fnScope st) .none kV doc pm an cdv ct) ⟨us, []⟩ = pure (ps.zip us))
    (len : ∀ vs H Q E, sp vs H Q E → vs.length = ps.length)
    (hbody : ∀ (f : Addr) (A : Around) (outer : List Env) (s : Shared) (H : Hp) (vs : List V) (Q : VK) (E : XK), Room k (A.deeper (envOfC x (C8.fnScope st) s.heap.objs.size f (.ref cc))) → sp vs H Q E →
      ∃ t, PSs (cxOf C8.CX0 P w K mg base N x (C8.fnScope st) f (.ref cc) A outer s H E).nox (C8.fnBody st) t ∧ t { nx := fun _ H' => Q .non H', rt := Q } (start N vs) H) : C8.Cal P w K mg base (k + 1) x sp [] := by
  obtain ⟨f, fd, F, hm, hc⟩ := G.ex
  have b := F.bindsN hb
  obtain ⟨oc, od, dV, kV, doc, pm, an, cdv, ct, osl, rfl, lk, hcd, hD, hK⟩ := F.ex
  have hc : cdv = .ref cc := hc
  subst hc
  refine ⟨f, _, ps, [], fn_of lk hcd S len fun A outer s H vs Q E hr hsp => ?_, hm, F.kp, b, .nil⟩
  obtain ⟨t, h, q⟩ := hbody f A outer s H vs Q E hr hsp
  exact ⟨t, h.nox, q⟩
theorem cal_DC {x : Str} {st : Stmt} {cc : Addr} {N ps : List Str} {k : Nat} {T : List (Addr × Str)} {F : DSpec} (G : GDefC K mg x st cc) (S : FnScope N ps (C8.fnScope st))
    (hb : ∀ (kV doc pm : Value) (an : Option Addr) (cdv ct : Value) (us : List Value), us.length = ps.length → bindArgs (PySem.W.fnOf x x (C8.fnArgs st) (C8.fnBody st) (C8.fnScope st) .none kV doc pm an cdv ct) ⟨us, []⟩ = pure (ps.zip us))
    (len : ∀ ws P, F ws P → ws.length = ps.length)
    (hbody : ∀ (f : Addr) (A : Around) (outer : List Env) (s : Shared) (H : Hp) (E : XK) (ex : List Addr) (ws : List W) (P' : W → Prop), Room k (A.deeper (envOfC x (C8.fnScope st) s.heap.objs.size f (.ref cc))) → F ws P' →
      WSs (bx P w K mg base N x st f (.ref cc) A outer s H E) { ρ := rho0 N ws, ex := ex, T := T } (C8.fnBody st) (fun _ => P' .non) P') : C8.Cal P w K mg base (k + 1) x (spDT T F) [] :=
  G.cal S hb (fun vs H Q E ⟨ex, ws, P', d, _, _, _, h, _⟩ => by rw [d.len]; exact len ws P' h) fun f A outer s H vs Q E hr ⟨ex, ws, P', d, nd, he, ht, h, q⟩ => by
    have := hbody f A outer s H E ex ws P' hr h (L2.start N vs) H { nx := fun _ H' => Q .non H', rt := Q } (start_env (T := T) d _ rfl fun _ _ h => h) ⟨fun _ h => (nomatch h), fun _ h => (nomatch h), nd, he, ht⟩
      ⟨fun c' σ' H' n ev me g => q .non .non H' n D.non (fun a o n h t => ⟨n, (g.kp a o n h t).2⟩) (fun a h => me.ex a (by rw [g.ex]; exact h)) (by have := me.tb; rw [g.T] at this; exact this),
        fun v w H' r ok => q w v H' r ok.d ok.kp ok.ex ok.tb⟩
    exact this
theorem cal_ST {x : Str} {st : Stmt} {N ps : List Str} {k : Nat} {T : List (Addr × Str)} {F : DSpec} (G : GDef K mg x st) (S : FnScope N ps (C8.fnScope st))
    (hb : ∀ (kV doc pm : Value) (an : Option Addr) (cdv ct : Value) (us : List Value), us.length = ps.length → bindArgs (PySem.W.fnOf x x (C8.fnArgs st) (C8.fnBody st) (C8.fnScope st) .none kV doc pm an cdv ct) ⟨us, []⟩ = pure (ps.zip us))
    (len : ∀ ws P, F ws P → ws.length + 1 = ps.length) (hN : N ≠ [])
    (hbody : ∀ (f : Addr) (cdv : Value) (A : Around) (outer : List Env) (s : Shared) (H : Hp) (E : XK) (st' : Addr × Addr) (ex : List Addr) (ws : List W) (P' : W → Prop), Room k (A.deeper (envOfC x (C8.fnScope st) s.heap.objs.size f cdv)) → F ws P' →
      WSs (bx P w K mg base N x st f cdv A outer s H E) { ρ := some (.adr st'.1) :: rho0 N.tail ws, st := some st', ex := ex, T := T } (C8.fnBody st) (fun _ => P' .non) P') : C8.Cal P w K mg base (k + 1) x (spST T F) [] :=
  G.cal S hb (fun vs H Q E ⟨st', us, ex, ws, P', e, _, d, _, _, _, h, _⟩ => by rw [e, List.length_cons, d.len]; exact len ws P' h) fun f cdv A outer s H vs Q E hr ⟨st', us, ex, ws, P', e, sok, d, nd, he, ht, h, q⟩ => by
    subst e
    cases N with
    | nil => exact absurd rfl hN
    | cons n0 N =>
      have ev : EnvOk { ρ := some (.adr st'.1) :: rho0 N ws, st := some st', ex := ex, T := T } (L2.start (n0 :: N) (.ref st'.1 :: us)) H := by
        have e0 : L2.start (n0 :: N) (.ref st'.1 :: us) = some (.ref st'.1) :: L2.start N us := by
          unfold L2.start
          simp
        rw [e0]
        have e1 : EnvOk { ρ := rho0 N ws, st := some st', ex := ex, T := T } (L2.start N us) H := start_env (T := T) d _ rfl fun _ _ h => h
        refine ⟨by rw [List.length_cons, e1.1]; rfl, fun i th g => ?_⟩
        cases i with
        | zero => cases (show some (Th.adr st'.1) = some th by simpa using g); exact ⟨_, rfl, rfl⟩
        | succ i => exact e1.2 i th (by simpa using g)
      exact hbody f cdv A outer s H E st' ex ws P' hr h _ H { nx := fun _ H' => Q .non H', rt := Q } ev ⟨fun _ h => (nomatch h), fun a h => by cases h; exact sok, nd, he, ht⟩
        ⟨fun c' σ' H' n ev me g => q .non .non H' n D.non (fun a o n h t => ⟨n, (g.kp a o n h t).2⟩) ((me.st st' (by rw [g.st])).to (fun _ h _ => h) (fun a o n h t => ⟨fun z => n (by
            unfold Cn.xs Cn.ms
            rw [List.append_assoc]
            refine List.mem_append_right _ ?_
            rw [sl_of g.st, g.ex]
            exact z), h⟩)) (fun a h => me.ex a (by rw [g.ex]; exact h)) (by have := me.tb; rw [g.T] at this; exact this),
          fun v w H' r ok => q w v H' r ok.d ok.kp (ok.st st' rfl) ok.ex ok.tb⟩
end
section
variable {X : Cx} {c : Cn} {P : W → Prop} {e a b : Expr} {es : List Expr} {pos p : Pos} {k j : Nat} {x m : Str}
/-- a call that is told the tables -/
theorem spDT_of {F : DSpec} {ws : List W} {vs : List V} {H : Hp} {Q : VK} {E : XK} (me : Mem c H) (d : DA H c.xs ws vs) (h : F ws P) (q : AfE c H P Q) : spDT c.T F vs H Q E :=
  ⟨c.xs, ws, P, d, me.nd, fun a h => me.al_of h, me.tb, h, fun w v H' p d' k he ht => q v w H' d' p (k.of0 _) ⟨fun u hu => by
      have hm := me.mu u hu
      obtain ⟨a, u⟩ := u
      cases u with
      | lst ws => obtain ⟨xs, e, d⟩ := hm; exact ⟨xs, (k _ _ (by simp) e (fun _ z => by cases z)).2, DA.to (k.of0 _) _ _ d⟩
      | ins C dx fs => obtain ⟨xs, e, d⟩ := hm; exact ⟨xs, (k _ _ (by simp) e (fun _ z => by cases z)).2, DF.to (k.of0 _) _ _ d⟩,
    fun a h => (me.st a h).to (fun o h t => (k _ _ (by simp) h t).2) (k.of0 _), me.nd, fun a h => he a (List.mem_append_right _ h), ht⟩⟩
theorem we_cT {T : List (Addr × Str)} {F : DSpec} (cl : C8.Cal X.prog X.w X.K X.mg X.base k x (spDT T F) []) (hr : Room j X.A) (hk : k ≤ j) (hg : Gl X x) (hT : c.T = T) (h : WAs X c (e :: es) (fun ws => F ws P))
    (hdb : (x == ("__debug__" : Str)) = false := by decide) (he : starEach (e :: es) X.env = (false, eval e X.env) :: starEach es X.env := by rfl) (hpl : (backTo pos (starEach es X.env)).any (·.1) = false := by rfl) : WE X c (.Call (.Name x p) (e :: es) [] pos) P := fun σ H Q ev me q => by
  subst hT
  refine ⟨_, C8.pe_c cl hr hk hg E_pa hdb he hpl, ?_⟩
  refine h σ H _ ev me fun vs ws H1 d f k1 m1 => ?_
  rw [List.append_nil]
  exact spDT_of m1 d f fun v w H' d' p k' m' => q v w H' d' p (k1.trans k') m'
/-- .. with the state: by the promise over any tables -/
theorem spST_of {st : Addr × Addr} {F : DSpec} {ws : List W} {us : List V} {H : Hp} {Q : VK} {E : XK} (hst : c.st = some st) (me : Mem c H) (d : DA H c.xs ws us) (h : F ws P) (q : AfE c H P Q) : spST c.T F (.ref st.1 :: us) H Q E := by
  have hsl : c.sl = [st.1] := by unfold Cn.sl; rw [hst]; rfl
  have hmem : ∀ a, a ∈ c.xs ↔ a ∈ st.1 :: (c.μ.map (·.1) ++ c.ex) := fun a => by
    unfold Cn.xs Cn.ms
    rw [hsl]
    simp only [List.mem_append, List.mem_cons, List.mem_nil_iff, or_false, List.append_assoc]
    constructor
    · rintro (h | h | h)
      · exact .inr (.inl h)
      · exact .inl h
      · exact .inr (.inr h)
    · rintro (h | h | h)
      · exact .inr (.inl h)
      · exact .inl h
      · exact .inr (.inr h)
  have k1 : ∀ Z : Hp, Kp c.xs Z (st.1 :: (c.μ.map (·.1) ++ c.ex)) Z := fun Z a o n h t => ⟨fun z => n ((hmem a).mpr z), h⟩
  have k2 : ∀ Z : Hp, Kp (st.1 :: (c.μ.map (·.1) ++ c.ex)) Z c.xs Z := fun Z a o n h t => ⟨fun z => n ((hmem a).mp z), h⟩
  have nd : (st.1 :: (c.μ.map (·.1) ++ c.ex)).Nodup := by
    have h := me.nd
    unfold Cn.xs Cn.ms at h
    rw [hsl] at h
    have p : List.Perm (c.μ.map (·.1) ++ [st.1] ++ c.ex) (st.1 :: (c.μ.map (·.1) ++ c.ex)) := by
      rw [List.append_assoc]
      exact List.perm_middle
    exact p.nodup_iff.mp h
  have hms : ∀ u ∈ c.μ, u.1 ≠ st.1 := fun u hu z => (List.nodup_cons.mp nd).1 (List.mem_append_left _ (List.mem_map.mpr ⟨u, hu, z⟩))
  refine ⟨st, us, c.μ.map (·.1) ++ c.ex, ws, P, rfl, (me.st st hst).to (fun _ h _ => h) (k1 _), DA.to (k1 _) _ _ d, nd, fun a ha => me.al_of ((hmem a).mpr (List.mem_cons_of_mem _ ha)), me.tb, h, fun w v H' p d' k sok he ht => ?_⟩
  have kx : Kp c.xs H c.xs H' := fun a o n h t => ⟨n, (k a o (fun z => n ((hmem a).mpr (by rw [List.mem_singleton.mp z]; exact List.mem_cons_self))) h t).2⟩
  refine q v w H' (D.to (k2 _) _ _ d') p (fun a o n h t => ⟨n, (k a o (fun z => n (by rw [List.mem_singleton.mp z]; unfold Cn.ms; rw [hsl]; simp)) h t).2⟩) ⟨fun u hu => ?_, fun a h => ?_, me.nd, fun a h => he a (List.mem_append_right _ h), ht⟩
  · have hne := hms u hu
    have hm := me.mu u hu
    obtain ⟨a, u⟩ := u
    cases u with
    | lst ws => obtain ⟨xs, e, d⟩ := hm; exact ⟨xs, (k _ _ (by simpa using hne) e (fun _ z => by cases z)).2, DA.to kx _ _ d⟩
    | ins C dx fs => obtain ⟨xs, e, d⟩ := hm; exact ⟨xs, (k _ _ (by simpa using hne) e (fun _ z => by cases z)).2, DF.to kx _ _ d⟩
  · rw [hst] at h
    cases h
    exact sok.to (fun _ h _ => h) (k2 _)
theorem we_csT {T : List (Addr × Str)} {F : DSpec} (i : Nat) {y : Str} {py : Pos} {st : Addr × Addr} (cl : C8.Cal X.prog X.w X.K X.mg X.base k x (spST T F) []) (hr : Room j X.A) (hk : k ≤ j) (hg : Gl X x) (hT : c.T = T) (hN : X.N[i]? = some y) (hv : Vis X.env.scope y) (g : c.ρ[i]? = some (some (.adr st.1))) (hst : c.st = some st)
    (h : WAs X c es (fun ws => F ws P)) (he : starEach (.Name y py :: es) X.env = (false, eval (.Name y py) X.env) :: starEach es X.env := by rfl) (hpl : (backTo pos (starEach es X.env)).any (·.1) = false := by rfl)
    (hdb : (x == ("__debug__" : Str)) = false := by decide) (hd : (y == ("__debug__" : Str)) = false := by decide) (hcd : (y == ("__classdict__" : Str)) = false := by decide) : WE X c (.Call (.Name x p) (.Name y py :: es) [] pos) P := fun σ H Q ev me q => by
  subst hT
  refine ⟨_, C8.pe_c cl hr hk hg (pa_cons (pe_var hN hv hd hcd) E_pa he) hdb he hpl, ?_⟩
  obtain ⟨v, s1, s2⟩ := ev.2 i _ g
  have s2 : v = .ref st.1 := s2
  subst s2
  refine ⟨.ref st.1, s1, ?_⟩
  refine h σ H _ ev me fun vs ws H1 d f k1 m1 => ?_
  show spST c.T F (_ ++ []) H1 Q C8.E0
  rw [List.append_nil]
  exact spST_of hst m1 d f fun v w H' d' p k' m' => q v w H' d' p (k1.trans k') m'
end
/-! ### a try whose body raises nothing -/
section
variable {X : Cx}
theorem ps_try_never {body : List Stmt} {h0 : ExceptHandler} {hs : List ExceptHandler} {pos : Pos} {tb : TS}
    (hb : ∀ (W : WX) (pn : List (Addr × Obj)) (xe : Value → Shared → Prop), Takes (X.tr pn xe) W → PassesOwn (model X.prog X.w) X.A X.env xe → PSs (X.tr pn xe) body tb) : PS X (.Try body (h0 :: hs) [] [] pos) tb := by
  refine ⟨fun pins s σ H Dn I h => ?_⟩
  have ok := I.ok
  refine wpAny_Try_except ?_
  refine wpAny_mono ((hb (fun _ _ _ _ => False) (X.pn ++ pins) (fun e s₁ => wpAny (model X.prog X.w) X.A (noteFrame e X.env) (fun _ s₂ => wpAny (model X.prog X.w) X.A (setFlight e none) (fun _ s₃ =>
    wpAny (model X.prog X.w) X.A (handleBy e X.env (h0 :: hs)) (SP X pins Dn) X.xe s₃) X.xe s₂) X.xe s₁) (fun u s' xx => ?_) PassesOwn.looking).run [] s σ H Dn (I.toTry _) h) (fun f s1 hsp => ?_) (fun e s1 he => he)
  · obtain ⟨_, _, _, _, _, _, _, _, _, _, _, _, _, _, _, _, z⟩ := xx
    exact z.elim
  · cases f with
    | next =>
      obtain ⟨σ', H', J', q⟩ := hsp
      exact wpAny_execs_nil ⟨σ', H', J'.ofTry ok, q⟩
    | brk =>
      obtain ⟨σ', H', J', q⟩ := hsp
      exact ⟨σ', H', J'.ofTry ok, q⟩
    | cont =>
      obtain ⟨σ', H', J', q⟩ := hsp
      exact ⟨σ', H', J'.ofTry ok, q⟩
    | ret u =>
      obtain ⟨v, σ', H', J', r, q⟩ := hsp
      exact ⟨v, σ', H', J'.ofTry ok, r, q⟩
/-- ("told", ask()), and nothing is raised -/
def TToldT : (XK → Hp → VK → Prop) → Hp → VK → Prop := fun tl H Q => tl (fun _ _ _ => False) H fun v H' => ([V.str "told", v] : List V).length ≤ sizeLine ∧ ∀ p, H' p = none → Q (.ref p) (upd H' p (.tup [.str "told", v]))
theorem told2_gives {Ng : List Str} {x a q : Str} {sg : Scope} {g : Addr} {cdg : Value} {j k : Nat} {p1 p2 p3 p5 p6 p8 : Pos} {hh : ExceptHandler} {hs : List ExceptHandler} (h0 : ∀ f : Addr, (L2.start Ng [V.ref f])[0]? = some (some (V.ref f)))
    (hs1 : ∀ env : Env, starEach [.Constant (.str "told") j p5, .Call (.Name a p1) [] [] p2] env = (false, eval (.Constant (.str "told") j p5) env) :: starEach [.Call (.Name a p1) [] [] p2] env := by intro _; rfl)
    (hs2 : ∀ env : Env, starEach [.Call (.Name a p1) [] [] p2] env = (false, eval (.Call (.Name a p1) [] [] p2) env) :: starEach [] env := by intro _; rfl) :
    LamX.GivesTo X Ng x sg g cdg [.Try [.Return (some (.Tuple [.Constant (.str "told") j p5, .Call (.Name a p1) [] [] p2] k p6)) p3] (hh :: hs) [] [] p8] a q TToldT := by
  intro f c' s H Q tl act hc h
  refine ⟨_, pss_one (ps_try_never (X := (cxOf C8.CX0 X.prog X.w X.K X.mg X.base Ng x sg g cdg X.A X.stack s H C8.E0).nox)
      (tb := fun Dn σ H => σ[0]? = some (some (.ref f)) ∧ H c' = some (LamX.CodeO c' q) ∧ tl (fun _ _ _ => False) H fun v H' => ([V.str "told", v] : List V).length ≤ sizeLine ∧ ∀ p, H' p = none → Dn.rt (.ref p) (upd H' p (.tup [.str "told", v]))) (fun W pn xe tk _ => ?_)), ?_⟩
  · refine ⟨fun pins s' σ H' Dn I h' => ?_⟩
    obtain ⟨h1, h2, h3⟩ := h'
    have hp := act W pn xe (fun _ _ _ => False) p1 p2 tk (fun _ _ _ _ z => z.elim)
    have hq : PSs _ [.Return (some (.Tuple [.Constant (.str "told") j p5, .Call (.Name a p1) [] [] p2] k p6)) p3] _ := pss_one (ps_ret (pos := p3) (pe_tup (pa_cons pe_str (pa_cons hp pa_nil (hs2 _)) (hs1 _))))
    exact hq.run pins s' σ H' Dn I ⟨h1, h2, h3⟩
  · exact ⟨h0 f, hc, h⟩
theorem sc_law_try : FnScope ["_law_ask", "_law_e"] ["_law_ask"] (C8.fnScope (top 65)) := C8.fnScope_by (by decide +kernel)
theorem Mem.extN {c : Cn} {H H1 : Hp} (me : Mem c H) (eN : LamX.ExtN H H1) (t1 : LamX.Tabs c.T H1) : Mem c H1 := by
  have kx : Kp c.xs H c.xs H1 := fun a o n h t => ⟨n, eN a o h t⟩
  refine ⟨fun u hu => ?_, fun a e => (me.st a e).to (fun o h t => eN _ _ h t) kx, me.nd, fun a h => ?_, t1⟩
  · have hm := me.mu u hu
    obtain ⟨a, u⟩ := u
    cases u with
    | lst ws => obtain ⟨xs, e, d⟩ := hm; exact ⟨xs, eN _ _ e (fun _ z => by cases z), DA.to kx _ _ d⟩
    | ins C dx fs => obtain ⟨xs, e, d⟩ := hm; exact ⟨xs, eN _ _ e (fun _ z => by cases z), DF.to kx _ _ d⟩
  · obtain ⟨o, e, t⟩ := me.ex a h
    exact ⟨o, eN _ _ e t, t⟩
/-- _law_try(lambda: body) -/
theorem x_lam {c : Cn} {P : W → Prop} {k : Nat} {params : Arguments} {body : Expr} {scope : Scope} {lpos p pos : Pos} {cc PP : Addr} (G : GDef X.K X.mg "_law_try" (top 65)) (hg : Gl X "_law_try") (TB : LamX.TabB X.base X.mg cc PP) (hcode : X.env.code = .ref cc)
    (hT : c.T = [(PP, X.env.qual ++ "<lambda>")]) (hr : Room (k + 2) X.A) (L : LamX.LamS X.env.scope scope) (hdef : defaultsOf params X.env = ([], []))
    (hbind : ∀ (q : Str) (cl : List (Str × Addr)) (pm cv ctv : Value), bindArgs (PySem.W.kla_fn "<lambda>" q params body scope cl pm cv ctv) ⟨[], []⟩ = pure [])
    (hbody : ∀ (A : Around) (outer : List Env) (s : Shared) (H : Hp) (f c' : Addr), Room k (A.deeper (LamX.lamEnv X scope s.heap.objs.size f c')) → WE (LamX.lamCx X A outer s H (fun _ _ _ => False) scope f c') c body (fun w => P (.tup [.str "told", w]))) :
    WE X c (.Call (.Name "_law_try" p) [.Lambda params body scope lpos] [] pos) P := fun σ H Q ev me q => by
  obtain ⟨g, fd, F, hm⟩ := G.ex
  have b := F.bindsN (ps := ["_law_ask"]) (fun _ _ _ _ _ _ us hl => match us, hl with | [_], _ => rfl)
  have kp := F.kp
  obtain ⟨oc, od, dV, kV, doc, pm, an, cdv, ct, osl, rfl, lk, hcd, hD, hK⟩ := F.ex
  refine ⟨_, LamX.pe_lamcall (T := c.T) (TT := TToldT) (t := fun E' σ H' Q => ∀ (A : Around) (outer : List Env) (s : Shared) (H : Hp) (f c' : Addr), Room k (A.deeper (LamX.lamEnv X scope s.heap.objs.size f c')) → E (LamX.lamCx X A outer s H E' scope f c') body σ H' Q)
    hg hm kp lk hcd b sc_law_try rfl (.inl rfl) (told2_gives fun _ => rfl) TB hcode (by rw [hT]; exact List.mem_singleton.mpr rfl) (fun q hq _ => by rw [hT] at hq; rw [List.mem_singleton.mp hq]) hr L hdef hbind
    (fun A outer s H E' f c' hr' => ⟨fun pins s1 σ H Q I h => E_pe.run pins s1 σ H Q I (h A outer s _ f c' hr')⟩), me.tb, fun H1 eN t1 => ?_⟩
  intro A outer s H0 f c' hr'
  have kk : Kp c.ms H c.ms H1 := fun a o n h t => ⟨n, eN a o h t⟩
  refine hbody A outer s H0 f c' hr' σ H1 _ (ev.kp kk) (me.extN eN t1) fun v w H' d p k2 m2 => ⟨line6 (by show 2 ≤ 1000000; decide), fun b hb => ?_⟩
  exact q _ _ _ (D.newT hb (m2.fresh hb) (DA.cons (D.str _) (DA.cons d DA.nil))) p (kk.trans (k2.trans ((Gro.upd hb).kp _))) (m2.gro (Gro.upd hb))
end
end K11
/-! KD25 -/
namespace K11
open PySem PySem.Spec PyProof.Rows L2
theorem addI_i {i j : Int} {P : W → Prop} (h : P (.int (i + j))) : AddW (.int i) (.int j) P := h
section
variable {X : Cx} {ρ : List (Option Th)} {μ : List (Addr × Mu)} {st : Option (Addr × Addr)} {ex : List Addr} {T : List (Addr × Str)} {N : Cn → Prop} {R : W → Prop} {a b c : Expr} {pos : Pos}
/-- x, y = a, b -/
theorem vs_par2 (i j : Nat) {x y : Str} {px py pt pt2 : Pos} {kt k2 : Nat} (hc : X.calm = true) (nd : X.N.Nodup) (hi : X.N[i]? = some x) (hj : X.N[j]? = some y) (hij : i ≠ j) (hx : X.env.scope.names.lookup x = some .local) (hy : X.env.scope.names.lookup y = some .local)
    (hw : swappedStores [.Tuple [.Name x px, .Name y py] kt pt] (.Tuple [a, b] k2 pt2) X.env = pure (some [x, y]))
    (hs : swapsWithSole [.Tuple [.Name x px, .Name y py] kt pt] (.Tuple [a, b] k2 pt2) pos.line X.env = pure false)
    (h : WAs X ⟨ρ, μ, st, ex, T⟩ [a, b] fun ws => ∃ u v, ws = [u, v] ∧ N ⟨(ρ.set i (some (.dat u))).set j (some (.dat v)), μ, st, ex, T⟩) :
    WS X ⟨ρ, μ, st, ex, T⟩ (.Assign [.Tuple [.Name x px, .Name y py] kt pt] (.Tuple [a, b] k2 pt2) pos) N R := fun σ H Dn ev me q => by
  refine ⟨_, ps_par hc nd hi hj hij hx hy E_pa hw hs, ?_⟩
  refine h σ H _ ev me fun vs ws H1 d hn k1 m1 => ?_
  obtain ⟨u, v, rfl, hn⟩ := hn
  obtain ⟨v1, v2, rfl, d1, d2⟩ := d.two
  exact ⟨v1, v2, rfl, q.1 _ _ H1 hn (EnvOk.set (i := j) (th := .dat v) (c := ⟨ρ.set i (some (.dat u)), μ, st, ex, T⟩) ((ev.kp k1).set (th := .dat u) d1) d2) (m1.rho _) ⟨rfl, rfl, rfl, k1⟩⟩
theorem DA.three {H : Hp} {ex : List Addr} {x y z : W} {vs : List V} (d : DA H ex [x, y, z] vs) : ∃ v u t, vs = [v, u, t] ∧ D H ex x v ∧ D H ex y u ∧ D H ex z t := by
  obtain ⟨v, r, rfl, d1, d2⟩ := DA.cons_iff.mp d
  obtain ⟨u, t, rfl, d3, d4⟩ := d2.two
  exact ⟨v, u, t, rfl, d1, d3, d4⟩
/-- x, y, z = a, b, c -/
theorem vs_par3 (i j l : Nat) {x y z : Str} {px py pz pt pt2 : Pos} {kt k2 : Nat} (hc : X.calm = true) (nd : X.N.Nodup) (hi : X.N[i]? = some x) (hj : X.N[j]? = some y) (hl : X.N[l]? = some z) (hij : i ≠ j) (hil : i ≠ l) (hjl : j ≠ l) (hx : X.env.scope.names.lookup x = some .local) (hy : X.env.scope.names.lookup y = some .local) (hz : X.env.scope.names.lookup z = some .local)
    (hw : swappedStores [.Tuple [.Name x px, .Name y py, .Name z pz] kt pt] (.Tuple [a, b, c] k2 pt2) X.env = pure (some [x, y, z]))
    (hs : swapsWithSole [.Tuple [.Name x px, .Name y py, .Name z pz] kt pt] (.Tuple [a, b, c] k2 pt2) pos.line X.env = pure false)
    (h : WAs X ⟨ρ, μ, st, ex, T⟩ [a, b, c] fun ws => ∃ u v w, ws = [u, v, w] ∧ N ⟨((ρ.set i (some (.dat u))).set j (some (.dat v))).set l (some (.dat w)), μ, st, ex, T⟩) :
    WS X ⟨ρ, μ, st, ex, T⟩ (.Assign [.Tuple [.Name x px, .Name y py, .Name z pz] kt pt] (.Tuple [a, b, c] k2 pt2) pos) N R := fun σ H Dn ev me q => by
  refine ⟨_, ps_par3 hc nd hi hj hl hij hil hjl hx hy hz E_pa hw hs, ?_⟩
  refine h σ H _ ev me fun vs ws H1 d hn k1 m1 => ?_
  obtain ⟨u, v, w, rfl, hn⟩ := hn
  obtain ⟨v1, v2, v3, rfl, d1, d2, d3⟩ := d.three
  have e1 : EnvOk ⟨ρ.set i (some (.dat u)), μ, st, ex, T⟩ (σ.set i (some v1)) H1 := (ev.kp k1).set (th := .dat u) d1
  have e2 : EnvOk ⟨(ρ.set i (some (.dat u))).set j (some (.dat v)), μ, st, ex, T⟩ ((σ.set i (some v1)).set j (some v2)) H1 := e1.set (th := .dat v) d2
  exact ⟨v1, v2, v3, rfl, q.1 _ _ H1 hn (e2.set (th := .dat w) d3) (m1.rho _) ⟨rfl, rfl, rfl, k1⟩⟩
end
end K11
/-! KD26 -/
namespace K11
open PySem PySem.Spec PyProof.Rows L2
/-! ### a call whose list is new, and will change -/
mutual
def W.nl : W → Bool
  | .tup ws => W.nls ws | .lst _ => false | .tpx _ => false | .ins _ _ => false | .dic _ => false | _ => true
def W.nls : List W → Bool
  | [] => true | w :: ws => W.nl w && W.nls ws
end
mutual
theorem D.avoid {H : Hp} {ex ex' : List Addr} {b : Addr} {xs : List V} (hb : H b = some (.lst xs)) (he : ∀ a, a ∉ ex → a ≠ b → a ∉ ex') : ∀ (w : W) (v : V), W.nl w = true → D H ex w v → D H ex' w v
  | .non, _, _, h => by unfold D at h ⊢; exact h
  | .bl b, _, _, h => by unfold D at h ⊢; exact h
  | .int i, _, _, h => by unfold D at h ⊢; exact h
  | .str z, _, _, h => by unfold D at h ⊢; exact h
  | .lst ws, _, n, _ => by rw [W.nl] at n; cases n
  | .tpx ws, _, n, _ => by rw [W.nl] at n; cases n
  | .ins _ _, _, n, _ => by rw [W.nl] at n; cases n
  | .dic _, _, n, _ => by rw [W.nl] at n; cases n
  | .tup ws, _, n, h => by
    rw [W.nl] at n
    unfold D at h ⊢
    obtain ⟨a, xs, e, m, g, d⟩ := h
    exact ⟨a, xs, e, he a m (fun z => by rw [z, hb] at g; cases g), g, DA.avoid hb he ws xs n d⟩
theorem DA.avoid {H : Hp} {ex ex' : List Addr} {b : Addr} {xs : List V} (hb : H b = some (.lst xs)) (he : ∀ a, a ∉ ex → a ≠ b → a ∉ ex') : ∀ (ws : List W) (vs : List V), W.nls ws = true → DA H ex ws vs → DA H ex' ws vs
  | [], _, _, h => by unfold DA at h ⊢; exact h
  | w :: ws, _, n, h => by
    rw [W.nls, Bool.and_eq_true] at n
    unfold DA at h ⊢
    obtain ⟨v, r, e, d, q⟩ := h
    exact ⟨v, r, e, D.avoid hb he w v n.1 d, DA.avoid hb he ws r n.2 q⟩
end
section
variable {X : Cx} {P : W → Prop} {pos p pz : Pos} {k j : Nat} {x z : Str}
theorem pe_cNew {F : DSpec} (cl : C8.Cal X.prog X.w X.K X.mg X.base k x (spD F) []) (hr : Room j X.A) (hk : k ≤ j) (hg : Gl X x) (i : Nat) (zz : Str) (hN : X.N[i]? = some z) (hv : Vis X.env.scope z)
    (he : starEach [.Name z pz] X.env = (false, eval (.Name z pz) X.env) :: starEach [] X.env) (hdb : (x == ("__debug__" : Str)) = false := by decide) (hd : (z == ("__debug__" : Str)) = false := by decide) (hcd : (z == ("__classdict__" : Str)) = false := by decide) :
    PE X (.Call (.Name x p) [.Name z pz] [] pos) (fun σ H Q => σ[i]? = some (some (.str zz)) ∧ ∃ (T : List (Addr × Str)) (P : W → Prop), LamX.Tabs T H ∧ F [.str zz] P ∧
      ∀ w v H' (fr : List Addr), P w → D H' fr w v → (∀ a o, H a = some o → (∀ ps, o ≠ .tbl ps) → a ∈ fr) → Kp [] H [] H' → (∀ a ∈ fr, Al H' a) → LamX.Tabs T H' → Q v H') :=
  ⟨fun pins s σ H Q I ⟨h1, T, P, h2, h3, h4⟩ => (C8.pe_c cl hr hk hg (pa_cons (pe_var hN hv hd hcd) pa_nil he) hdb he).run pins s σ H Q I (by
    refine ⟨.str zz, h1, ?_⟩
    classical
    have fr : ∃ fr : List Addr, fr.Nodup ∧ (∀ a ∈ fr, Al H a) ∧ ∀ a o, H a = some o → (∀ ps, o ≠ .tbl ps) → a ∈ fr := by
      refine ⟨(List.range s.heap.objs.size).filter fun a => decide (Al H a), List.nodup_range.sublist List.filter_sublist, fun a ha => by simpa using (List.mem_filter.mp ha).2, fun a o h t => List.mem_filter.mpr ⟨List.mem_range.mpr ?_, by simpa using (⟨o, h, t⟩ : Al H a)⟩⟩
      by_cases q : a < s.heap.objs.size
      · exact q
      · rw [I.hok.fresh (Nat.le_of_not_lt q)] at h; cases h
    obtain ⟨fr, f1, f2, f3⟩ := fr
    exact ⟨fr, [.str zz], T, P, DA.cons (D.str zz) DA.nil, f1, f2, h2, h3, fun w v H' p d k he ht => h4 w v H' fr p d f3 k he ht⟩)⟩
/-- y = x(z), a new list that will change -/
theorem vs_setNew {ρ : List (Option Th)} {st : Option (Addr × Addr)} {ex : List Addr} {T : List (Addr × Str)} {N : Cn → Prop} {R : W → Prop} {F : DSpec} (i l : Nat) {y : Str} {py pos' : Pos} {zz : Str} (cl : C8.Cal X.prog X.w X.K X.mg X.base k x (spD F) []) (hr : Room j X.A) (hk : k ≤ j) (hg : Gl X x) (hN : X.N[i]? = some z) (hv : Vis X.env.scope z)
    (hND : X.N.Nodup) (hi : X.N[l]? = some y) (hx : Loc X.env.scope y) (hf : X.fn y = true ∨ X.env.scope.names.lookup y = some .local) (g : ρ[i]? = some (some (.dat (.str zz))))
    (h : F [.str zz] fun w => ∃ ws, w = .lst ws ∧ W.nls ws = true ∧ ∀ b, N ⟨ρ.set l (some (.adr b)), [(b, .lst ws)], st, ex, T⟩)
    (he : starEach [.Name z pz] X.env = (false, eval (.Name z pz) X.env) :: starEach [] X.env) (hs : swapsWith (.Call (.Name x p) [.Name z pz] [] pos) (some (.Name y py)) pos'.line X.env = pure false)
    (hdb : (x == ("__debug__" : Str)) = false := by decide) (hd : (z == ("__debug__" : Str)) = false := by decide) (hcd : (z == ("__classdict__" : Str)) = false := by decide) :
    WS X ⟨ρ, [], st, ex, T⟩ (.Assign [.Name y py] (.Call (.Name x p) [.Name z pz] [] pos) pos') N R := fun σ H Dn ev me q => by
  refine ⟨_, L2.ps_set hND hi hx (pe_cNew cl hr hk hg i zz hN hv he hdb hd hcd) hs hf, ?_⟩
  obtain ⟨v0, s1, s2⟩ := ev.2 i _ g
  have s2 : D H (⟨ρ, [], st, ex, T⟩ : Cn).xs (.str zz) v0 := s2
  cases D.str_iff.mp s2
  refine ⟨s1, T, _, me.tb, h, fun w v H' fr hw d hfr kp hal ht => ?_⟩
  obtain ⟨ws, rfl, hnl, hn⟩ := hw
  obtain ⟨b, ys, rfl, hb, hH, dd⟩ := D.lst_iff.mp d
  have k0 : ∀ e : List Addr, Kp e H e H' := fun e a o n h t => ⟨n, (kp a o (by simp) h t).2⟩
  have hnew : ∀ a o, H a = some o → (∀ ps, o ≠ .tbl ps) → a ≠ b := fun a o h t z => hb (by rw [← z]; exact hfr a o h t)
  have hlive : ∀ a, a ∈ (⟨ρ, [], st, ex, T⟩ : Cn).xs → a ∈ fr := fun a ha => let ⟨o, e, t⟩ := me.al_of ha; hfr a o e t
  have hxs : (⟨ρ.set l (some (.adr b)), [(b, .lst ws)], st, ex, T⟩ : Cn).xs = b :: (⟨ρ, [], st, ex, T⟩ : Cn).xs := rfl
  have hms : (⟨ρ.set l (some (.adr b)), [(b, .lst ws)], st, ex, T⟩ : Cn).ms = b :: (⟨ρ, [], st, ex, T⟩ : Cn).ms := rfl
  have kx : Kp (⟨ρ, [], st, ex, T⟩ : Cn).xs H (b :: (⟨ρ, [], st, ex, T⟩ : Cn).xs) H' := fun a o n h t => ⟨by
    rw [List.mem_cons, not_or]
    exact ⟨hnew a o h t, n⟩, (kp a o (by simp) h t).2⟩
  have e1 : EnvOk ⟨ρ, [(b, .lst ws)], st, ex, T⟩ σ H' := EnvOk.xs' (ρ := ρ) ev kx rfl
  refine q.1 _ _ H' (hn b) (EnvOk.set (i := l) (th := .adr b) (v := .ref b) e1 rfl) ?_ ⟨rfl, rfl, rfl, fun a o n h t => ⟨by
    rw [hms, List.mem_cons, not_or]
    exact ⟨hnew a o h t, n⟩, (kp a o (by simp) h t).2⟩⟩
  refine ⟨fun u hu => ?_, fun a e => (me.st a e).to (fun o h t => (kp _ _ (by simp) h t).2) kx, ?_, fun a ha => ?_, ht⟩
  · cases List.mem_singleton.mp hu
    exact ⟨ys, hH, DA.avoid hH (fun a n nb => by
      rw [hxs, List.mem_cons, not_or]
      exact ⟨nb, fun z => n (hlive a z)⟩) ws ys hnl dd⟩
  · rw [hxs]
    exact List.nodup_cons.mpr ⟨fun z => hb (hlive b z), me.nd⟩
  · exact hal a (hlive a (List.mem_append_right _ ha))
end
end K11
/-! KD27 -/
namespace K11
open PySem PySem.Spec PyProof.Rows L2
/-! ### the script -/
/-- in the slot stands the list at a, which may be written into the program's part -/
def sqTh (K : PySem.W.Frag) (a : Addr) (xs : List V) : Th := .prp (fun ex H v => v = .ref a ∧ ((a ∉ ex ∧ Rd H a (.lst xs)) ∨ ∀ H', SqL K H' a xs)) fun ex H ex' H' v k ⟨e, h⟩ => ⟨e, h.imp (fun ⟨n, r⟩ => by
  rcases r with r | ⟨o, r⟩
  · obtain ⟨n', r'⟩ := k a _ n r (fun _ z => by cases z)
    exact ⟨n', .inl r'⟩
  · obtain ⟨n', r'⟩ := k a _ n r (fun _ z => by cases z)
    exact ⟨n', .inr ⟨o, r'⟩⟩) id⟩
theorem sqTh_sq {K : PySem.W.Frag} {a : Addr} {xs : List V} {H : Hp} {ex : List Addr} {v : V} (h : Tk H ex (sqTh K a xs) v) : v = .ref a ∧ SqL K H a xs := ⟨h.1, h.2.elim (fun h => .inl h.2) fun h => h H⟩
theorem sqTh_of {K : PySem.W.Frag} {a : Addr} {xs : List V} {H : Hp} (h : SqL K H a xs) : Tk H [] (sqTh K a xs) (.ref a) := ⟨rfl, h.elim (fun h => .inl ⟨by simp, h⟩) fun h => .inr fun _ => .inr h⟩
section
variable {X : Cx} {c : Cn} {P : W → Prop} {pos p2 p3 px : Pos} {x : Str}
/-- script[:63] -/
theorem we_cut63 {j : Nat} (i : Nat) {a : Addr} {ns : List Int} (hN : X.N[i]? = some x) (hv : Vis X.env.scope x) (g : c.ρ[i]? = some (some (sqTh X.K a (ns.map V.int)))) (hl : ns.length ≤ 63) (h : P (.lst (ns.map W.int)))
    (hd : (x == ("__debug__" : Str)) = false := by decide) (hcd : (x == ("__classdict__" : Str)) = false := by decide) : WE X c (.Subscript (.Name x px) (.Slice none (some (.Constant (.int 63) j p3)) none p2) pos) P := fun σ H Q ev me q => by
  obtain ⟨v, s1, s2⟩ := ev.2 i _ g
  obtain ⟨rfl, sq⟩ := sqTh_sq s2
  refine ⟨_, pe_slice sl_list (pe_var hN hv hd hcd) po_none (po_some pe_int), ?_⟩
  refine ⟨.ref a, s1, ⟨_, rfl, a, ns.map V.int, rfl, sq, fun p hp => ?_⟩⟩
  have e : cutV (ns.map V.int) none (some 63) = ns.map V.int := by
    rw [cutL_cutV]
    have e1 : cutL (ns.map V.int) none (some 63) = (ns.map V.int).take 63 := cutL_to _ 63
    rw [e1]
    exact List.take_of_length_le (by rw [List.length_map]; exact hl)
  rw [e]
  exact new_af me hp q (D.newL hp (me.fresh hp) (DA.ints ns)) h
end
/-- a def's promise from its function object -/
theorem fnOk_of {P : Program} {w : World} {K : PySem.W.Frag} {mg : Str → Option Value} {base : Heap} {x : Str} {st : Stmt} {N ps : List Str} {k : Nat} {sp : Sp} {f : Addr} {fd : FuncData} (F : FunD K x x (C8.fnArgs st) (C8.fnBody st) (C8.fnScope st) [] [] f fd) (S : FnScope N ps (C8.fnScope st))
    (len : ∀ vs H Q E, sp vs H Q E → vs.length = ps.length)
    (hbody : ∀ (f : Addr) (cdv : Value) (A : Around) (outer : List Env) (s : Shared) (H : Hp) (vs : List V) (Q : VK) (E : XK), Room k (A.deeper (envOfC x (C8.fnScope st) s.heap.objs.size f cdv)) → sp vs H Q E →
      ∃ t, PSs (cxOf C8.CX0 P w K mg base N x (C8.fnScope st) f cdv A outer s H E).nox (C8.fnBody st) t ∧ t { nx := fun _ H' => Q .non H', rt := Q } (start N vs) H) : FnOk P w K mg base C8.CX0 (k + 1) f fd ps sp := by
  obtain ⟨oc, od, dV, kV, doc, pm, an, cdv, ct, osl, rfl, lk, hcd, hD, hK⟩ := F.ex
  exact fn_of lk hcd S len fun A outer s H vs Q E hr hsp => by
    obtain ⟨t, h, q⟩ := hbody f cdv A outer s H vs Q E hr hsp
    exact ⟨t, h.nox, q⟩
end K11
/-! KT1 -/
namespace K11
open PySem PySem.Spec PyProof.Rows L2
/-! ### sorted of pairs (text, list), the texts different -/
section
variable {prog : Program} {w : World} {A : Around} {E : Value → Shared → Prop} {s : Shared}
def IsSP (h : Heap) (v : Value) (z : Str) : Prop := ∃ a o t n b, v = .ref a ∧ h.get? a = some o ∧ o.cls = .type "tuple" ∧ o.data = .seq #[.str z t, .ref b] n
theorem IsSP.keeps {h h' : Heap} {v : Value} {z : Str} (p : IsSP h v z) (k : ∀ b o, h.get? b = some o → o.cls = .type "tuple" → h'.get? b = some o) : IsSP h' v z := by
  obtain ⟨a, o, t, n, b, e, ho, hc, hd⟩ := p
  exact ⟨a, o, t, n, b, e, k _ _ ho hc, hc, hd⟩
theorem eqBool_self {b : Addr} {Q : Bool → Shared → Prop} (h : Q true s) : wpAny (model prog w) A (eqBool (.ref b) (.ref b)) Q E s := by
  unfold eqBool
  refine wpAny_holding ?_
  refine wpAny_ite_split (fun _ => ?_) (fun hn => absurd (beq_self_eq_true _) hn)
  refine wpAny_bind (wpAny_rule ?_)
  exact wpAny_pure h
theorem sp_cmp {vs : List Value} {k : Value → Str} (hp : ∀ v ∈ vs, IsSP s.heap v (k v)) (inj : ∀ v ∈ vs, ∀ u ∈ vs, k v = k u → v = u) : SrtO.Cmp prog w A s (tuples' true) (fun p => p.1 ∈ vs) (SrtO.lt2 fun v u => decide (cl (k v) < cl (k u))) := by
  intro p q hm hm'
  have h1 := hp _ hm
  have h2 := hp _ hm'
  have h3 := inj _ hm _ hm'
  show wpAny (model prog w) A (keyLt' (tuples' true) p.1 q.1) (fun r s' => s' = s ∧ r = decide (cl (k p.1) < cl (k q.1))) (fun _ _ => False) s
  generalize k p.1 = x at h1 h3 ⊢
  generalize k q.1 = x' at h2 h3 ⊢
  obtain ⟨a, o, t, n, b, e, ho, hc, hd⟩ := h1
  obtain ⟨a', o', t', n', b', e', ho', hc', hd'⟩ := h2
  rw [e, e'] at h3 ⊢
  refine PySem.W.kat_lt ho hd ho' hd' ?_
  show PySem.W.KatLex prog w A true (decide (2 < 2)) _ [(.str x t, .str x' t'), (.ref b, .ref b')] 0 s
  refine PySem.W.kat_cons (wpAny_eqBool_str ?_)
  refine PySem.W.kat_go (fun e1 => ?_) (fun e1 => ?_)
  · have ex : x = x' := by simpa using e1
    have ea : a = a' := by have := h3 ex; injection this
    subst ea
    rw [ho] at ho'
    cases ho'
    rw [hd] at hd'
    have eb : b = b' := by
      injection hd' with hd' _
      injection hd' with hd'
      injection hd' with _ hd'
      injection hd' with hd' _
      injection hd'
    subst eb
    refine PySem.W.kat_yes (PySem.W.kat_cons (eqBool_self ?_))
    refine PySem.W.kat_go (fun e2 => ?_) (fun e2 => by cases e2)
    refine PySem.W.kat_yes (PySem.W.kat_nil ⟨rfl, ?_⟩)
    rw [ex]
    exact (decide_eq_false (List.lt_irrefl _)).symm
  · exact PySem.W.kat_no (oneLt_str ⟨rfl, rfl⟩)
theorem sp_firsts {h : Heap} {k : Value → Str} : ∀ {vs : List Value}, (∀ v ∈ vs, IsSP h v (k v)) → ∃ fs : List Value, PySem.W.KatTups h vs fs ∧ fs.length = vs.length ∧ ∀ f ∈ fs, ∃ x t, f = Value.str x t
  | [], _ => ⟨[], PySem.W.KatTups.nil, rfl, fun _ hm => by simp at hm⟩
  | v :: vs, hp => by
    obtain ⟨fs, h1, h2, h3⟩ := sp_firsts (vs := vs) fun v' hm => hp v' (List.mem_cons_of_mem _ hm)
    obtain ⟨a, o, t, n, b, e, ho, hc, hd⟩ := hp v (List.mem_cons_self ..)
    subst e
    refine ⟨.str _ t :: fs, PySem.W.KatTups.cons ho hc hd rfl h1, by rw [List.length_cons, List.length_cons, h2], fun f hm => ?_⟩
    rcases List.mem_cons.mp hm with rfl | hm
    · exact ⟨_, t, rfl⟩
    · exact h3 f hm
theorem sp_sortableO {a : Addr} {vs : List Value} {k : Value → Str} (h0 : 0 < vs.length) (hp : ∀ v ∈ vs, IsSP s.heap v (k v)) (inj : ∀ v ∈ vs, ∀ u ∈ vs, k v = k u → v = u) (ha : ∀ o, s.heap.get? a = some o → o.cls ≠ .type "tuple") : SrtO.SortableO prog w A s a vs fun v u => decide (cl (k v) < cl (k u)) := by
  intro h' keep
  have hp' : ∀ v ∈ vs, IsSP h' v (k v) := fun v hm => (hp v hm).keeps fun b o e c => keep b o (fun z => by subst z; exact ha o e c) e
  obtain ⟨fs, h1, h2, h3⟩ := sp_firsts hp'
  refine ⟨tuples' true, fun Q E hq => ?_, sp_cmp hp' inj⟩
  refine PySem.W.kat_kind (T := .type "str") h1 (by omega) (fun f hm => ?_) (by rfl) ?_
  · obtain ⟨x, t, rfl⟩ := h3 f hm
    exact PySem.W.Looks.now
  · have e : (Value.type "str" != Value.type "tuple") = true := by first | decide +kernel | rfl | decide
    rw [e]
    exact hq
theorem swo_cl (k : Value → Str) : SrtO.Swo fun v u => decide (cl (k v) < cl (k u)) := by
  refine ⟨fun x y h => ?_, fun x y z h1 h2 => ?_⟩
  · have h := of_decide_eq_true h
    exact decide_eq_false (List.lt_asymm h)
  · have h1 := of_decide_eq_false h1
    have h2 := of_decide_eq_false h2
    exact decide_eq_false (List.not_lt.mpr (List.le_trans (List.not_lt.mp h1) (List.not_lt.mp h2)))
theorem sorted_sp {l : Addr} {vs : List Value} {k : Value → Str} {Q : Value → Shared → Prop} (hl : s.heap.IsList l vs.toArray) (hz : vs.length ≤ sizeLine) (hp : ∀ v ∈ vs, IsSP s.heap v (k v)) (inj : ∀ v ∈ vs, ∀ u ∈ vs, k v = k u → v = u)
    (h : ∀ (h' : Heap) (d : Addr) (out : List Value), out.Pairwise (fun v u => ¬ cl (k u) < cl (k v)) → out.Perm vs → (∀ b o, s.heap.get? b = some o → h'.get? b = some o) → s.heap.objs.size ≤ d → (∃ n, h'.get? d = some (seqObj "list" out.toArray n)) → Q (.ref d) { s with heap := h' }) :
    wpAny (model prog w) A (call (.builtin "sorted") [.ref l]) Q E s := by
  refine SrtO.sorted_ord (swo_cl k) hl hz (fun h2 h₁ a ha kk => ?_) fun out hs hb => ?_
  · refine sp_sortableO (s := { s with heap := h₁ }) (by omega) (fun v hm => (hp v hm).keeps fun b o e _ => (kk b o e).2) inj fun o e => ?_
    have e' : some o = some (seqObj "list" vs.toArray 0) := e.symm.trans ha
    cases e'
    intro c
    exact absurd (Value.type.inj c) (by decide)
  · exact h _ _ out (hs.imp fun h => of_decide_eq_false h) hb.perm (fun b o e => sortedAll_old e) (Nat.le_succ _) (sortedAll_at s.heap vs out.toArray)
end
/-- of values -/
def rSortedSP (K : PySem.W.Frag) : List V → Hp → VK → Prop := fun vs H Q => ∃ (a : Addr) (xs : List V) (k : V → Str), vs = [V.ref a] ∧ SqL K H a xs ∧ (∀ x ∈ xs, ∃ t b, x = V.ref t ∧ H t = some (.tup [.str (k x), .ref b])) ∧ (∀ x ∈ xs, ∀ y ∈ xs, k x = k y → x = y) ∧
  ∀ ys p, ys.Pairwise (fun x y => ¬ cl (k y) < cl (k x)) → ys.Perm xs → H p = none → Q (.ref p) (upd H p (.lst ys))
section
variable {X : Cx}
theorem cr_sortedSP : CallR X (.builtin "sorted") (rSortedSP X.K) := by
  intro pins s σ H vs us Q I r h
  obtain ⟨a, xs, k, rfl, hs, hx, inj, q⟩ := h
  obtain ⟨its, rv, hl, hz⟩ := I.list hs
  obtain ⟨u, rfl, ru⟩ := vals1 r
  obtain rfl : u = Value.ref a := ru
  obtain ⟨e1, e2⟩ := refs_back rv fun x m => by
    obtain ⟨t, b, e, _⟩ := hx x m
    exact ⟨t, e⟩
  have back : ∀ v ∈ its, backV v ∈ xs := fun v hv => by rw [e1]; exact List.mem_map.mpr ⟨_, hv, rfl⟩
  refine sorted_sp (k := fun u => k (backV u)) hl.isList (by rw [← rv.length]; exact hz) (fun v hv => ?_) (fun v hv u hu e => ?_) fun h' d out h1 h2 kp hd hn => ?_
  · obtain ⟨t, rfl⟩ := e2 v hv
    obtain ⟨t', b, e, ht⟩ := hx _ (back _ hv)
    cases e
    obtain ⟨_, its2, r2, o, ho, hc, n, hd⟩ := I.hok _ _ ht
    obtain ⟨u1, u2, rfl, ri, rj⟩ := vals2 r2
    obtain ⟨t1, rfl⟩ := ri
    obtain rfl : u2 = Value.ref b := rj
    exact ⟨t, o, t1, n, b, rfl, ho, hc, hd⟩
  · obtain ⟨t, rfl⟩ := e2 v hv
    obtain ⟨t', rfl⟩ := e2 u hu
    have := inj _ (back _ hv) _ (back _ hu) e
    have : V.ref t = V.ref t' := this
    cases this
    rfl
  · have h3 : ∀ u ∈ out, ∃ a, u = Value.ref a := fun u hu => e2 u (h2.mem_iff.mp hu)
    obtain ⟨n, hn⟩ := hn
    have hb : (out.map backV).Perm xs := by
      rw [e1]
      exact h2.map backV
    refine ⟨.ref d, upd H d (.lst (out.map backV)), I.laid (t' := s.toks) kp hd ⟨?_, out, n, vals_back h3, hn⟩, rfl, q _ d (List.pairwise_map.mpr h1) hb (I.hok.fresh hd)⟩
    rw [hb.length_eq]
    exact hz
end
/-! over data -/
theorem perm_map_of {α β : Type} {g : α → β} : ∀ {l : List β} {m : List β}, l.Perm m → ∀ hs : List α, m = hs.map g → ∃ hs' : List α, l = hs'.map g ∧ hs'.Perm hs := fun {l m} p => by
  induction p with
  | nil => exact fun hs e => ⟨[], rfl, by cases hs with | nil => exact .refl _ | cons a b => cases e⟩
  | cons x _ ih =>
    intro hs e
    cases hs with
    | nil => cases e
    | cons a hs =>
      injection e with e1 e2
      obtain ⟨hs', e3, e4⟩ := ih hs e2
      exact ⟨a :: hs', by rw [List.map_cons, e1, e3], e4.cons a⟩
  | swap x y l =>
    intro hs e
    match hs, e with
    | [], e => cases e
    | [_], e => injection e with _ e; cases e
    | a :: b :: hs, e =>
      injection e with e1 e2
      injection e2 with e2 e3
      exact ⟨b :: a :: hs, by rw [e1, e2, e3]; rfl, .swap a b hs⟩
  | trans _ _ ih1 ih2 =>
    intro hs e
    obtain ⟨hs2, e2, p2⟩ := ih2 hs e
    obtain ⟨hs1, e1, p1⟩ := ih1 hs2 e2
    exact ⟨hs1, e1, p1.trans p2⟩
theorem DA.perm {H : Hp} {ex : List Addr} {xs ys : List V} (p : ys.Perm xs) : ∀ {ws : List W}, DA H ex ws xs → ∃ us, us.Perm ws ∧ DA H ex us ys := by
  induction p with
  | nil => exact fun {ws} d => ⟨ws, .refl _, d⟩
  | cons x _ ih =>
    intro ws d
    cases ws with
    | nil => cases DA.nil_iff.mp d
    | cons w ws =>
      obtain ⟨v, r, e, d1, d2⟩ := DA.cons_iff.mp d
      injection e with e1 e2
      subst e1 e2
      obtain ⟨us, p1, d3⟩ := ih d2
      exact ⟨w :: us, p1.cons w, DA.cons d1 d3⟩
  | swap x y l =>
    intro ws d
    cases ws with
    | nil => cases DA.nil_iff.mp d
    | cons w ws =>
      obtain ⟨v, r, e, d1, d2⟩ := DA.cons_iff.mp d
      injection e with e1 e2
      subst e1 e2
      cases ws with
      | nil => cases DA.nil_iff.mp d2
      | cons w2 ws =>
        obtain ⟨v, r, e, d3, d4⟩ := DA.cons_iff.mp d2
        injection e with e1 e2
        subst e1 e2
        exact ⟨w2 :: w :: ws, .swap w w2 ws, DA.cons d3 (DA.cons d1 d4)⟩
  | trans _ _ ih1 ih2 =>
    intro ws d
    obtain ⟨us, p1, d1⟩ := ih2 d
    obtain ⟨us2, p2, d2⟩ := ih1 d1
    exact ⟨us2, p2.trans p1, d2⟩
theorem nodup_inj {α β : Type} {k : α → β} : ∀ {xs : List α}, (xs.map k).Nodup → ∀ x ∈ xs, ∀ y ∈ xs, k x = k y → x = y
  | [], _, _, h, _, _, _ => (nomatch h)
  | a :: xs, nd, x, hx, y, hy, e => by
    rw [List.map_cons, List.nodup_cons] at nd
    rcases List.mem_cons.mp hx with ex | mx
    · rcases List.mem_cons.mp hy with ey | my
      · rw [ex, ey]
      · exact absurd (List.mem_map.mpr ⟨y, my, by rw [← e, ex]⟩) nd.1
    · rcases List.mem_cons.mp hy with ey | my
      · exact absurd (List.mem_map.mpr ⟨x, mx, by rw [e, ey]⟩) nd.1
      · exact nodup_inj nd.2 x mx y my e
def keyV (H : Hp) : V → Str
  | .ref t => match H t with
    | some (.tup (.str z :: _)) => z
    | _ => ""
  | _ => ""
abbrev spW (h : Str × List W) : W := .tup [.str h.1, .lst h.2]
theorem spW_key {H : Hp} {ex : List Addr} {h : Str × List W} {v : V} (d : D H ex (spW h) v) : keyV H v = h.1 ∧ ∃ t b, v = .ref t ∧ H t = some (.tup [.str (keyV H v), .ref b]) := by
  obtain ⟨a, xs, rfl, _, ha, dd⟩ := D.tup_iff.mp d
  obtain ⟨v, u, rfl, d1, d2⟩ := dd.two
  cases D.str_iff.mp d1
  obtain ⟨b, _, rfl, _⟩ := D.lst_iff.mp d2
  have e : keyV H (.ref a) = h.1 := by
    show (match H a with | some (.tup (.str z :: _)) => z | _ => "") = _
    rw [ha]
  exact ⟨e, a, b, rfl, by rw [e]; exact ha⟩
theorem spW_keys {H : Hp} {ex : List Addr} : ∀ {hs : List (Str × List W)} {xs : List V}, DA H ex (hs.map spW) xs → xs.map (keyV H) = hs.map (·.1)
  | [], _, d => by rw [DA.nil_iff.mp d]; rfl
  | h :: hs, _, d => by
    obtain ⟨v, r, rfl, d1, d2⟩ := DA.cons_iff.mp d
    rw [List.map_cons, List.map_cons, (spW_key d1).1, spW_keys d2]
section
variable {X : Cx} {c : Cn} {pos p : Pos} {P : W → Prop} {a : Expr}
theorem x_sortedP (T : Txt X.K X.mg) (hg : Gl X "sorted") (he : starEach [a] X.env = (false, eval a X.env) :: starEach [] X.env)
    (h : WE X c a (fun x => ∃ hs : List (Str × List W), x = .lst (hs.map spW) ∧ (hs.map (·.1)).Nodup ∧ ∀ hs' : List (Str × List W), hs'.Perm hs → Asc (hs'.map (·.1)) → P (.lst (hs'.map spW)))) : WE X c (.Call (.Name "sorted" p) [a] [] pos) P :=
  we_blt cr_sortedSP hg (T.fr "sorted") (by decide +kernel) (h.mono fun x h H vs Q me d q => by
    obtain ⟨v, rfl, dd⟩ := d.one
    obtain ⟨hs, rfl, nd, p⟩ := h
    obtain ⟨l, xs, rfl, _, hl, da⟩ := D.lst_iff.mp dd
    have ek := spW_keys da
    refine ⟨l, xs, keyV H, rfl, .inl (Rd.of hl), fun x hx => ?_, nodup_inj (by rw [ek]; exact nd), fun ys b h1 h2 hb => ?_⟩
    · obtain ⟨i, hi⟩ := List.mem_iff_getElem?.mp hx
      obtain ⟨w, hw, dw⟩ := da.get' hi
      rw [List.getElem?_map] at hw
      obtain ⟨h', hh', rfl⟩ : ∃ h', hs[i]? = some h' ∧ w = spW h' := by
        cases q : hs[i]? with
        | none => rw [q] at hw; cases hw
        | some h' => rw [q] at hw; cases hw; exact ⟨h', rfl, rfl⟩
      exact (spW_key dw).2
    · obtain ⟨us, p1, d1⟩ := DA.perm h2 da
      obtain ⟨hs', rfl, p2⟩ := perm_map_of p1 hs rfl
      have ek' := spW_keys d1
      have nd' : (hs'.map (·.1)).Nodup := (p2.map _).nodup_iff.mpr nd
      have asc : Asc (hs'.map (·.1)) := by
        have h3 : (ys.map (keyV H)).Pairwise fun x y => ¬ cl y < cl x := List.pairwise_map.mpr h1
        rw [ek'] at h3
        refine (h3.and (List.nodup_iff_pairwise_ne.mp nd')).imp fun {x y} ⟨a1, a2⟩ => ?_
        exact Classical.byContradiction fun n => a2 (cl_tri n a1)
      exact new_af me hb q (D.newL hb (me.fresh hb) d1) (p hs' p2 asc)) (he := he)
end
end K11
/-! PD1 -/
namespace K11
open PySem PySem.Spec PyProof.Rows L2
local macro_rules | `(tactic| walk_at "n") => `(tactic| first
  | refine we_name 0 rfl (by first | exact .inl rfl | exact .inr (.inl rfl) | exact .inr (.inr rfl)) rfl ?_
  | refine we_name 1 rfl (by first | exact .inl rfl | exact .inr (.inl rfl) | exact .inr (.inr rfl)) rfl ?_
  | refine we_name 2 rfl (by first | exact .inl rfl | exact .inr (.inl rfl) | exact .inr (.inr rfl)) rfl ?_
  | refine we_name 3 rfl (by first | exact .inl rfl | exact .inr (.inl rfl) | exact .inr (.inr rfl)) rfl ?_
  | refine we_name 4 rfl (by first | exact .inl rfl | exact .inr (.inl rfl) | exact .inr (.inr rfl)) rfl ?_
  | refine we_name 5 rfl (by first | exact .inl rfl | exact .inr (.inl rfl) | exact .inr (.inr rfl)) rfl ?_
  | refine we_name 6 rfl (by first | exact .inl rfl | exact .inr (.inl rfl) | exact .inr (.inr rfl)) rfl ?_
  | refine we_name 7 rfl (by first | exact .inl rfl | exact .inr (.inl rfl) | exact .inr (.inr rfl)) rfl ?_
  | refine we_name 8 rfl (by first | exact .inl rfl | exact .inr (.inl rfl) | exact .inr (.inr rfl)) rfl ?_
  | refine we_name 9 rfl (by first | exact .inl rfl | exact .inr (.inl rfl) | exact .inr (.inr rfl)) rfl ?_
  | refine we_name 10 rfl (by first | exact .inl rfl | exact .inr (.inl rfl) | exact .inr (.inr rfl)) rfl ?_
  | refine we_name 11 rfl (by first | exact .inl rfl | exact .inr (.inl rfl) | exact .inr (.inr rfl)) rfl ?_
  | refine we_name 12 rfl (by first | exact .inl rfl | exact .inr (.inl rfl) | exact .inr (.inr rfl)) rfl ?_
  | refine we_name 13 rfl (by first | exact .inl rfl | exact .inr (.inl rfl) | exact .inr (.inr rfl)) rfl ?_
  | refine we_gint rfl (Txt.mLetters ‹_›) ?_
  | refine we_gstr rfl (Txt.letters ‹_›) ?_
  | refine we_gint rfl (Tx2.mFB ‹_›) ?_
  | refine we_gint rfl (Tx2.mW ‹_›) ?_
  | refine we_gint rfl (Tx2.mF ‹_›) ?_
  | refine we_gint rfl (Tx2.mFT ‹_›) ?_
  | refine we_gint rfl (Tx2.mK ‹_›) ?_)
local macro_rules | `(tactic| walk_at "cmp") => `(tactic| first
  | refine xt_eq ‹Room _ _› ?_
  | refine xt_ne ‹Room _ _› ?_
  | refine xt_lt ?_
  | refine xt_le ?_
  | refine xt_gt ?_
  | refine xt_ge ?_
  | refine wt_isN ?_
  | refine xt_in rfl ?_
  | refine xt_nin rfl ?_
  | refine x_chain (by with_unfolding_all rfl) ?_)
local macro_rules | `(tactic| walk_at "ecmp") => `(tactic| first
  | refine xe_eq ‹Room _ _› ?_
  | refine xe_ne ‹Room _ _› ?_
  | refine xe_lt ?_
  | refine xe_le ?_
  | refine xe_gt ?_
  | refine xe_ge ?_
  | refine we_isN ?_
  | refine xe_in rfl ?_
  | refine xe_nin rfl ?_)
local macro_rules | `(tactic| walk_at "t") => `(tactic| first
  | (show WT _ _ (.Compare _ _ _ _) _; walk_at "cmp")
  | refine wt_or ?_
  | refine wt_and ?_
  | refine wt_not ?_
  | refine x_val (by intro _; rfl) ?_)
local macro_rules | `(tactic| walk_at "b") => `(tactic| first
  | refine xe_len ‹Txt _ _› rfl rfl ?_
  | refine x_isi_str ‹Txt _ _› rfl rfl rfl rfl ?_
  | refine x_isi_tup ‹Txt _ _› rfl rfl rfl rfl ?_
  | refine x_isi_lst ‹Txt _ _› rfl rfl rfl rfl ?_
  | refine x_isi_bool ‹Txt _ _› rfl rfl rfl rfl ?_
  | refine x_isi_int ‹Txt _ _› rfl rfl rfl rfl ?_
  | refine x_isi_lt ‹Txt _ _› rfl rfl rfl rfl rfl ?_
  | refine x_all ‹Txt _ _› rfl rfl rfl ?_
  | refine x_tuple ‹Txt _ _› rfl rfl ?_
  | refine x_list ‹Txt _ _› rfl rfl ?_
  | refine x_sorted ‹Txt _ _› rfl rfl ?_
  | refine x_str ‹Txt _ _› rfl rfl ?_
  | refine x_int ‹Txt _ _› rfl rfl ?_
  | refine x_min ‹Txt _ _› rfl rfl rfl rfl rfl ?_)
local macro_rules | `(tactic| walk_at "e") => `(tactic| first
  | (show WE _ _ (.Name _ _) _; walk_at "n")
  | (show WE _ _ (.Constant _ _ _) _; first | refine we_int ?_ | refine we_str ?_ | refine we_bl ?_ | refine we_non ?_)
  | (show WE _ _ (.Call (.Name _ _) _ _ _) _; walk_at "b")
  | (show WE _ _ (.Compare _ _ _ _) _; walk_at "ecmp")
  | (show WE _ _ (.Subscript _ _ _) _; first | refine xe_sl ?_ | refine xe_ix (fun _ _ => rfl) ?_)
  | (show WE _ _ (.BinOp _ _ _ _) _; first | refine xe_add ?_ | refine xe_sub ?_ | refine xe_mul ?_ | refine xe_mod ?_ | refine xe_fdiv ?_)
  | (show WE _ _ (.Call (.Attribute _ _ _) _ _ _) _; first | refine x_split rfl rfl rfl ?_ | refine x_join rfl rfl rfl ?_)
  | refine we_lst (k := 0) ?_
  | refine we_tup (k := _) ?_
  | refine we_if ?_
  | refine x_and ?_
  | refine x_or ?_
  | refine we_one ?_
  | refine x_not ?_
  | refine x_fstr2 ?_)
local macro_rules | `(tactic| walk_at "ss") => `(tactic| first
  | refine vs_set 0 ‹List.Nodup _› rfl (by first | exact .inl rfl | exact .inr rfl) (by first | exact .inl rfl | exact .inr rfl) rfl ?_
  | refine vs_set 1 ‹List.Nodup _› rfl (by first | exact .inl rfl | exact .inr rfl) (by first | exact .inl rfl | exact .inr rfl) rfl ?_
  | refine vs_set 2 ‹List.Nodup _› rfl (by first | exact .inl rfl | exact .inr rfl) (by first | exact .inl rfl | exact .inr rfl) rfl ?_
  | refine vs_set 3 ‹List.Nodup _› rfl (by first | exact .inl rfl | exact .inr rfl) (by first | exact .inl rfl | exact .inr rfl) rfl ?_
  | refine vs_set 4 ‹List.Nodup _› rfl (by first | exact .inl rfl | exact .inr rfl) (by first | exact .inl rfl | exact .inr rfl) rfl ?_
  | refine vs_set 5 ‹List.Nodup _› rfl (by first | exact .inl rfl | exact .inr rfl) (by first | exact .inl rfl | exact .inr rfl) rfl ?_
  | refine vs_set 6 ‹List.Nodup _› rfl (by first | exact .inl rfl | exact .inr rfl) (by first | exact .inl rfl | exact .inr rfl) rfl ?_
  | refine vs_set 7 ‹List.Nodup _› rfl (by first | exact .inl rfl | exact .inr rfl) (by first | exact .inl rfl | exact .inr rfl) rfl ?_
  | refine vs_set 8 ‹List.Nodup _› rfl (by first | exact .inl rfl | exact .inr rfl) (by first | exact .inl rfl | exact .inr rfl) rfl ?_
  | refine vs_set 9 ‹List.Nodup _› rfl (by first | exact .inl rfl | exact .inr rfl) (by first | exact .inl rfl | exact .inr rfl) rfl ?_
  | refine vs_set 10 ‹List.Nodup _› rfl (by first | exact .inl rfl | exact .inr rfl) (by first | exact .inl rfl | exact .inr rfl) rfl ?_
  | refine vs_set 11 ‹List.Nodup _› rfl (by first | exact .inl rfl | exact .inr rfl) (by first | exact .inl rfl | exact .inr rfl) rfl ?_)
local macro_rules | `(tactic| walk_at "gn") => `(tactic| first
  | refine vg_name 0 ‹List.Nodup _› rfl (by first | exact .inl rfl | exact .inr rfl) (by first | exact .inl rfl | exact .inr rfl) (by decide) ?_
  | refine vg_name 1 ‹List.Nodup _› rfl (by first | exact .inl rfl | exact .inr rfl) (by first | exact .inl rfl | exact .inr rfl) (by decide) ?_
  | refine vg_name 2 ‹List.Nodup _› rfl (by first | exact .inl rfl | exact .inr rfl) (by first | exact .inl rfl | exact .inr rfl) (by decide) ?_
  | refine vg_name 3 ‹List.Nodup _› rfl (by first | exact .inl rfl | exact .inr rfl) (by first | exact .inl rfl | exact .inr rfl) (by decide) ?_
  | refine vg_name 4 ‹List.Nodup _› rfl (by first | exact .inl rfl | exact .inr rfl) (by first | exact .inl rfl | exact .inr rfl) (by decide) ?_
  | refine vg_name 5 ‹List.Nodup _› rfl (by first | exact .inl rfl | exact .inr rfl) (by first | exact .inl rfl | exact .inr rfl) (by decide) ?_
  | refine vg_name 6 ‹List.Nodup _› rfl (by first | exact .inl rfl | exact .inr rfl) (by first | exact .inl rfl | exact .inr rfl) (by decide) ?_
  | refine vg_name 7 ‹List.Nodup _› rfl (by first | exact .inl rfl | exact .inr rfl) (by first | exact .inl rfl | exact .inr rfl) (by decide) ?_
  | refine vg_name 8 ‹List.Nodup _› rfl (by first | exact .inl rfl | exact .inr rfl) (by first | exact .inl rfl | exact .inr rfl) (by decide) ?_
  | refine vg_name 9 ‹List.Nodup _› rfl (by first | exact .inl rfl | exact .inr rfl) (by first | exact .inl rfl | exact .inr rfl) (by decide) ?_
  | refine vg_name 10 ‹List.Nodup _› rfl (by first | exact .inl rfl | exact .inr rfl) (by first | exact .inl rfl | exact .inr rfl) (by decide) ?_
  | refine vg_name 11 ‹List.Nodup _› rfl (by first | exact .inl rfl | exact .inr rfl) (by first | exact .inl rfl | exact .inr rfl) (by decide) ?_)
local macro_rules | `(tactic| walk_at "k") => `(tactic| first
  | (with_reducible show IntW _ _; refine int_i ?_)
  | (with_reducible show StrW _ _; refine str_i ?_)
  | (with_reducible show LstW _ _; refine lst_i ?_)
  | (with_reducible show TupW _ _; refine tup_i ?_)
  | (with_reducible show BlW _ _; refine bl_i ?_)
  | (with_reducible show SeqW _ _; first | refine seqL_i ?_ | refine seqT_i ?_)
  | (with_reducible show LenW _ _; first | refine lenL_i ?_ | refine lenT_i ?_)
  | (with_reducible show IxW _ _ _; first | refine ixL_i 0 rfl rfl ?_ | refine ixL_i 1 rfl rfl ?_ | refine ixL_i 2 rfl rfl ?_ | refine ixT_i 0 rfl rfl ?_ | refine ixT_i 1 rfl rfl ?_)
  | (with_reducible show SlW _ _ _ _; first | refine slL_from 1 rfl ?_ | refine slL_from 2 rfl ?_ | refine slT_from 1 rfl ?_)
  | (show WE _ _ _ _; walk_at "e")
  | (show WT _ _ _ _; walk_at "t")
  | (show WSs _ _ _ _ _; first | refine wss_cons ?_ | refine wss_nil ?_)
  | (show WS _ _ _ _ _; first | refine ws_if ?_ | refine ws_ret ?_ | refine ws_retN ?_ | (show WS _ _ (.Assign [.Name _ _] _ _) _ _; walk_at "ss"))
  | (show WG _ _ _ _ _ _; first | refine xg_tup rfl rfl rfl ?_ | walk_at "gn")
  | (show WGs _ _ _ _ _ _; first | refine vgs_cons rfl ?_ | refine vgs_nil ?_)
  | (show WAs _ _ _ _; first | refine wa_nil ?_ | refine wa_star ?_ | refine wa_cons ?_)
  | (show WTw _ _ _ _; first | refine ww_or ?_ | refine ww_and ?_ | refine ww_or1 ?_ | refine ww_and1 ?_)
  | (show WO _ _ _ _; first | refine wo_none ?_ | refine wo_int ?_)
  | refine fam_i fun _ _ _ _ _ => ?_
  | refine iteT ?_
  | refine iteF ?_
  | refine ⟨rfl, ?_⟩
  | refine ⟨_, rfl, ?_⟩
  | refine ⟨lit_line rfl, ?_⟩)
section
variable {P : Program} {w : World} {K : PySem.W.Frag} {mg : Str → Option Value} {base : Heap}
abbrev fIsName : DSpec := fun ws P => match ws with | [.str z] => IsNm z ∧ P (.bl true) | _ => False
theorem sc_is_name : FnScope ["value", "sign"] ["value"] (C8.fnScope (top 14)) := C8.fnScope_by (by decide +kernel)
theorem ok_is_name (G : GDef K mg "is_name" (top 14)) (T : Txt K mg) : C8.Cal P w K mg base 1 "is_name" (spD fIsName) [] := by
  have nd := sc_is_name.nd
  refine cal_D G sc_is_name (fun _ _ _ _ _ _ us hl => match us, hl with | [_], _ => rfl) (fun ws P h => by match ws, h with | [.str z], _ => rfl) fun f cdv A outer s H E ex T' ws P' hr h => ?_
  match ws, h with
  | [.str z], h =>
  obtain ⟨hz, p⟩ := h
  repeat walk_at "k"
  refine ⟨hz.len, ?_⟩
  refine ifp (by have := hz.1; omega) ?_
  repeat walk_at "k"
  refine ifN (by have := hz.2.1; omega) ?_
  repeat walk_at "k"
  refine we_lc [("sign", 1)] rfl nd (blkOk_by (own := [("sign", 1)]) (N := ["value", "sign"]) (sc := C8.fnScope (top 14)) (by decide +kernel)) (wlc_M (x_iterS ?_))
  walk_at "k"
  refine ⟨by rw [signs_len]; exact hz.len, fun _ _ => .bl true, fun i d hd Dd => ?_, _, bls_const, ?_⟩
  · obtain ⟨k, hk, rfl⟩ := signs_get hd
    repeat walk_at "k"
    rw [decide_eq_true (letters_mem (hz.2.2 k hk))]
  · rw [all_rep]
    exact p
end
end K11
/-! PD2 -/
namespace K11
open PySem PySem.Spec PyProof.Rows L2
local macro_rules | `(tactic| walk_at "n") => `(tactic| first
  | refine we_name 0 rfl (by first | exact .inl rfl | exact .inr (.inl rfl) | exact .inr (.inr rfl)) rfl ?_
  | refine we_name 1 rfl (by first | exact .inl rfl | exact .inr (.inl rfl) | exact .inr (.inr rfl)) rfl ?_
  | refine we_name 2 rfl (by first | exact .inl rfl | exact .inr (.inl rfl) | exact .inr (.inr rfl)) rfl ?_
  | refine we_name 3 rfl (by first | exact .inl rfl | exact .inr (.inl rfl) | exact .inr (.inr rfl)) rfl ?_
  | refine we_name 4 rfl (by first | exact .inl rfl | exact .inr (.inl rfl) | exact .inr (.inr rfl)) rfl ?_
  | refine we_name 5 rfl (by first | exact .inl rfl | exact .inr (.inl rfl) | exact .inr (.inr rfl)) rfl ?_
  | refine we_name 6 rfl (by first | exact .inl rfl | exact .inr (.inl rfl) | exact .inr (.inr rfl)) rfl ?_
  | refine we_name 7 rfl (by first | exact .inl rfl | exact .inr (.inl rfl) | exact .inr (.inr rfl)) rfl ?_
  | refine we_name 8 rfl (by first | exact .inl rfl | exact .inr (.inl rfl) | exact .inr (.inr rfl)) rfl ?_
  | refine we_name 9 rfl (by first | exact .inl rfl | exact .inr (.inl rfl) | exact .inr (.inr rfl)) rfl ?_
  | refine we_name 10 rfl (by first | exact .inl rfl | exact .inr (.inl rfl) | exact .inr (.inr rfl)) rfl ?_
  | refine we_name 11 rfl (by first | exact .inl rfl | exact .inr (.inl rfl) | exact .inr (.inr rfl)) rfl ?_
  | refine we_name 12 rfl (by first | exact .inl rfl | exact .inr (.inl rfl) | exact .inr (.inr rfl)) rfl ?_
  | refine we_name 13 rfl (by first | exact .inl rfl | exact .inr (.inl rfl) | exact .inr (.inr rfl)) rfl ?_
  | refine we_gint rfl (Txt.mLetters ‹_›) ?_
  | refine we_gstr rfl (Txt.letters ‹_›) ?_
  | refine we_gint rfl (Tx2.mFB ‹_›) ?_
  | refine we_gint rfl (Tx2.mW ‹_›) ?_
  | refine we_gint rfl (Tx2.mF ‹_›) ?_
  | refine we_gint rfl (Tx2.mFT ‹_›) ?_
  | refine we_gint rfl (Tx2.mK ‹_›) ?_)
local macro_rules | `(tactic| walk_at "cmp") => `(tactic| first
  | refine xt_eq ‹Room _ _› ?_
  | refine xt_ne ‹Room _ _› ?_
  | refine xt_lt ?_
  | refine xt_le ?_
  | refine xt_gt ?_
  | refine xt_ge ?_
  | refine wt_isN ?_
  | refine xt_in rfl ?_
  | refine xt_nin rfl ?_
  | refine x_chain (by with_unfolding_all rfl) ?_)
local macro_rules | `(tactic| walk_at "ecmp") => `(tactic| first
  | refine xe_eq ‹Room _ _› ?_
  | refine xe_ne ‹Room _ _› ?_
  | refine xe_lt ?_
  | refine xe_le ?_
  | refine xe_gt ?_
  | refine xe_ge ?_
  | refine we_isN ?_
  | refine xe_in rfl ?_
  | refine xe_nin rfl ?_)
local macro_rules | `(tactic| walk_at "t") => `(tactic| first
  | (show WT _ _ (.Compare _ _ _ _) _; walk_at "cmp")
  | refine wt_or ?_
  | refine wt_and ?_
  | refine wt_not ?_
  | refine x_val (by intro _; rfl) ?_)
local macro_rules | `(tactic| walk_at "b") => `(tactic| first
  | refine xe_len ‹Txt _ _› rfl rfl ?_
  | refine x_isi_str ‹Txt _ _› rfl rfl rfl rfl ?_
  | refine x_isi_tup ‹Txt _ _› rfl rfl rfl rfl ?_
  | refine x_isi_lst ‹Txt _ _› rfl rfl rfl rfl ?_
  | refine x_isi_bool ‹Txt _ _› rfl rfl rfl rfl ?_
  | refine x_isi_int ‹Txt _ _› rfl rfl rfl rfl ?_
  | refine x_isi_lt ‹Txt _ _› rfl rfl rfl rfl rfl ?_
  | refine x_all ‹Txt _ _› rfl rfl rfl ?_
  | refine x_tuple ‹Txt _ _› rfl rfl ?_
  | refine x_list ‹Txt _ _› rfl rfl ?_
  | refine x_sorted ‹Txt _ _› rfl rfl ?_
  | refine x_str ‹Txt _ _› rfl rfl ?_
  | refine x_int ‹Txt _ _› rfl rfl ?_
  | refine x_min ‹Txt _ _› rfl rfl rfl rfl rfl ?_)
local macro_rules | `(tactic| walk_at "e") => `(tactic| first
  | (show WE _ _ (.Name _ _) _; walk_at "n")
  | (show WE _ _ (.Constant _ _ _) _; first | refine we_int ?_ | refine we_str ?_ | refine we_bl ?_ | refine we_non ?_)
  | (show WE _ _ (.Call (.Name _ _) _ _ _) _; walk_at "b")
  | (show WE _ _ (.Compare _ _ _ _) _; walk_at "ecmp")
  | (show WE _ _ (.Subscript _ _ _) _; first | refine xe_sl ?_ | refine xe_ix (fun _ _ => rfl) ?_)
  | (show WE _ _ (.BinOp _ _ _ _) _; first | refine xe_add ?_ | refine xe_sub ?_ | refine xe_mul ?_ | refine xe_mod ?_ | refine xe_fdiv ?_)
  | (show WE _ _ (.Call (.Attribute _ _ _) _ _ _) _; first | refine x_split rfl rfl rfl ?_ | refine x_join rfl rfl rfl ?_)
  | refine we_lst (k := 0) ?_
  | refine we_tup (k := _) ?_
  | refine we_if ?_
  | refine x_and ?_
  | refine x_or ?_
  | refine we_one ?_
  | refine x_not ?_
  | refine x_fstr2 ?_)
local macro_rules | `(tactic| walk_at "ss") => `(tactic| first
  | refine vs_set 0 ‹List.Nodup _› rfl (by first | exact .inl rfl | exact .inr rfl) (by first | exact .inl rfl | exact .inr rfl) rfl ?_
  | refine vs_set 1 ‹List.Nodup _› rfl (by first | exact .inl rfl | exact .inr rfl) (by first | exact .inl rfl | exact .inr rfl) rfl ?_
  | refine vs_set 2 ‹List.Nodup _› rfl (by first | exact .inl rfl | exact .inr rfl) (by first | exact .inl rfl | exact .inr rfl) rfl ?_
  | refine vs_set 3 ‹List.Nodup _› rfl (by first | exact .inl rfl | exact .inr rfl) (by first | exact .inl rfl | exact .inr rfl) rfl ?_
  | refine vs_set 4 ‹List.Nodup _› rfl (by first | exact .inl rfl | exact .inr rfl) (by first | exact .inl rfl | exact .inr rfl) rfl ?_
  | refine vs_set 5 ‹List.Nodup _› rfl (by first | exact .inl rfl | exact .inr rfl) (by first | exact .inl rfl | exact .inr rfl) rfl ?_
  | refine vs_set 6 ‹List.Nodup _› rfl (by first | exact .inl rfl | exact .inr rfl) (by first | exact .inl rfl | exact .inr rfl) rfl ?_
  | refine vs_set 7 ‹List.Nodup _› rfl (by first | exact .inl rfl | exact .inr rfl) (by first | exact .inl rfl | exact .inr rfl) rfl ?_
  | refine vs_set 8 ‹List.Nodup _› rfl (by first | exact .inl rfl | exact .inr rfl) (by first | exact .inl rfl | exact .inr rfl) rfl ?_
  | refine vs_set 9 ‹List.Nodup _› rfl (by first | exact .inl rfl | exact .inr rfl) (by first | exact .inl rfl | exact .inr rfl) rfl ?_
  | refine vs_set 10 ‹List.Nodup _› rfl (by first | exact .inl rfl | exact .inr rfl) (by first | exact .inl rfl | exact .inr rfl) rfl ?_
  | refine vs_set 11 ‹List.Nodup _› rfl (by first | exact .inl rfl | exact .inr rfl) (by first | exact .inl rfl | exact .inr rfl) rfl ?_)
local macro_rules | `(tactic| walk_at "gn") => `(tactic| first
  | refine vg_name 0 ‹List.Nodup _› rfl (by first | exact .inl rfl | exact .inr rfl) (by first | exact .inl rfl | exact .inr rfl) (by decide) ?_
  | refine vg_name 1 ‹List.Nodup _› rfl (by first | exact .inl rfl | exact .inr rfl) (by first | exact .inl rfl | exact .inr rfl) (by decide) ?_
  | refine vg_name 2 ‹List.Nodup _› rfl (by first | exact .inl rfl | exact .inr rfl) (by first | exact .inl rfl | exact .inr rfl) (by decide) ?_
  | refine vg_name 3 ‹List.Nodup _› rfl (by first | exact .inl rfl | exact .inr rfl) (by first | exact .inl rfl | exact .inr rfl) (by decide) ?_
  | refine vg_name 4 ‹List.Nodup _› rfl (by first | exact .inl rfl | exact .inr rfl) (by first | exact .inl rfl | exact .inr rfl) (by decide) ?_
  | refine vg_name 5 ‹List.Nodup _› rfl (by first | exact .inl rfl | exact .inr rfl) (by first | exact .inl rfl | exact .inr rfl) (by decide) ?_
  | refine vg_name 6 ‹List.Nodup _› rfl (by first | exact .inl rfl | exact .inr rfl) (by first | exact .inl rfl | exact .inr rfl) (by decide) ?_
  | refine vg_name 7 ‹List.Nodup _› rfl (by first | exact .inl rfl | exact .inr rfl) (by first | exact .inl rfl | exact .inr rfl) (by decide) ?_
  | refine vg_name 8 ‹List.Nodup _› rfl (by first | exact .inl rfl | exact .inr rfl) (by first | exact .inl rfl | exact .inr rfl) (by decide) ?_
  | refine vg_name 9 ‹List.Nodup _› rfl (by first | exact .inl rfl | exact .inr rfl) (by first | exact .inl rfl | exact .inr rfl) (by decide) ?_
  | refine vg_name 10 ‹List.Nodup _› rfl (by first | exact .inl rfl | exact .inr rfl) (by first | exact .inl rfl | exact .inr rfl) (by decide) ?_
  | refine vg_name 11 ‹List.Nodup _› rfl (by first | exact .inl rfl | exact .inr rfl) (by first | exact .inl rfl | exact .inr rfl) (by decide) ?_)
local macro_rules | `(tactic| walk_at "k") => `(tactic| first
  | (with_reducible show IntW _ _; refine int_i ?_)
  | (with_reducible show StrW _ _; refine str_i ?_)
  | (with_reducible show LstW _ _; refine lst_i ?_)
  | (with_reducible show TupW _ _; refine tup_i ?_)
  | (with_reducible show BlW _ _; refine bl_i ?_)
  | (with_reducible show SeqW _ _; first | refine seqL_i ?_ | refine seqT_i ?_)
  | (with_reducible show LenW _ _; first | refine lenL_i ?_ | refine lenT_i ?_)
  | (with_reducible show IxW _ _ _; first | refine ixL_i 0 rfl rfl ?_ | refine ixL_i 1 rfl rfl ?_ | refine ixL_i 2 rfl rfl ?_ | refine ixT_i 0 rfl rfl ?_ | refine ixT_i 1 rfl rfl ?_)
  | (with_reducible show SlW _ _ _ _; first | refine slL_from 1 rfl ?_ | refine slL_from 2 rfl ?_ | refine slT_from 1 rfl ?_)
  | (show WE _ _ _ _; walk_at "e")
  | (show WT _ _ _ _; walk_at "t")
  | (show WSs _ _ _ _ _; first | refine wss_cons ?_ | refine wss_nil ?_)
  | (show WS _ _ _ _ _; first | refine ws_if ?_ | refine ws_ret ?_ | refine ws_retN ?_ | (show WS _ _ (.Assign [.Name _ _] _ _) _ _; walk_at "ss"))
  | (show WG _ _ _ _ _ _; first | refine xg_tup rfl rfl rfl ?_ | walk_at "gn")
  | (show WGs _ _ _ _ _ _; first | refine vgs_cons rfl ?_ | refine vgs_nil ?_)
  | (show WAs _ _ _ _; first | refine wa_nil ?_ | refine wa_star ?_ | refine wa_cons ?_)
  | (show WTw _ _ _ _; first | refine ww_or ?_ | refine ww_and ?_ | refine ww_or1 ?_ | refine ww_and1 ?_)
  | (show WO _ _ _ _; first | refine wo_none ?_ | refine wo_int ?_)
  | refine fam_i fun _ _ _ _ _ => ?_
  | refine iteT ?_
  | refine iteF ?_
  | refine ⟨rfl, ?_⟩
  | refine ⟨_, rfl, ?_⟩
  | refine ⟨lit_line rfl, ?_⟩)
/-! ### encodings -/
abbrev wl (zs : List Str) : W := .lst (zs.map W.str)
abbrev wt (zs : List Str) : W := .tup (zs.map W.str)
def Nms (zs : List Str) : Prop := ∀ z ∈ zs, IsNm z
/-- a lot: texts in rising order, at least one -/
structure IsLot (zs : List Str) : Prop where
  nm : Nms zs
  asc : Asc zs
  ne : zs ≠ []
  len : zs.length ≤ 100
theorem line_of {n : Nat} (h : n ≤ 100) : n ≤ sizeLine := line6 (by omega)
theorem strs_len {zs : List Str} : (zs.map W.str).length = zs.length := by simp
theorem strs_get {zs : List Str} {i : Nat} {d : W} (h : (zs.map W.str)[i]? = some d) : ∃ z, zs[i]? = some z ∧ d = .str z := by
  rw [List.getElem?_map] at h
  cases e : zs[i]? with
  | none => rw [e] at h; cases h
  | some z => rw [e] at h; cases h; exact ⟨z, rfl, rfl⟩
theorem Asc.next {zs : List Str} (h : Asc zs) {i : Nat} {x y : Str} (hx : zs[i]? = some x) (hy : zs[i + 1]? = some y) : x.cps.toList < y.cps.toList := by
  have hi : i < zs.length := (List.getElem?_eq_some_iff.mp hx).1
  have hj : i + 1 < zs.length := (List.getElem?_eq_some_iff.mp hy).1
  have := List.pairwise_iff_getElem.mp h i (i + 1) hi hj (by omega)
  rw [(List.getElem?_eq_some_iff.mp hx).2, (List.getElem?_eq_some_iff.mp hy).2] at this
  exact this
theorem zip_next {zs : List Str} {i : Nat} {d : W} (h : (zipW (zs.map W.str) ((zs.map W.str).drop 1))[i]? = some d) : ∃ x y, zs[i]? = some x ∧ zs[i + 1]? = some y ∧ d = .tup [.str x, .str y] := by
  unfold zipW at h
  rw [List.getElem?_zipWith, List.getElem?_drop, List.getElem?_map, List.getElem?_map] at h
  cases ex : zs[i]? with
  | none => rw [ex] at h; simp at h
  | some x =>
    rw [show 1 + i = i + 1 from Nat.add_comm 1 i] at h
    cases ey : zs[i + 1]? with
    | none => rw [ex, ey] at h; simp at h
    | some y =>
      rw [ex, ey] at h
      exact ⟨x, y, rfl, rfl, by simpa using h.symm⟩
/-! ### lines -/
abbrev nlS : Str := "\n"
/-- each text and a line's end behind it -/
def lines (zs : List Str) : Str := Txt.join "" (zs.map fun z => z ++ nlS)
theorem app_len (x y : Str) : (x ++ y).length = x.length + y.length := by rw [TL.len_tl, TL.len_tl, TL.len_tl, TL.tl_append, List.length_append]
theorem lines_eq : ∀ zs : List Str, lines zs = Txt.join nlS (zs ++ [("" : Str)])
  | [] => rfl
  | z :: zs => by
    have ih := lines_eq zs
    unfold lines at ih ⊢
    rw [TL.join_eq, TL.join_eq] at ih ⊢
    refine TL.ext_tl ?_
    have ih := congrArg TL.tl ih
    rw [TL.tl_join, TL.tl_join] at ih ⊢
    cases zs with
    | nil =>
      show TL.tl (z ++ nlS) = TL.tl z ++ (TL.tl nlS ++ TL.tl "")
      rw [TL.tl_append]
      simp [show TL.tl "" = [] from rfl]
    | cons y ys =>
      have e0 : TL.tl ("" : Str) = [] := rfl
      have l1 : TL.joinL (TL.tl "") ((List.map (fun z => z ++ nlS) (z :: y :: ys)).map TL.tl) = TL.tl (z ++ nlS) ++ ([] ++ TL.joinL (TL.tl "") ((List.map (fun z => z ++ nlS) (y :: ys)).map TL.tl)) := rfl
      have l2 : TL.joinL (TL.tl nlS) ((z :: y :: ys ++ [("" : Str)]).map TL.tl) = TL.tl z ++ (TL.tl nlS ++ TL.joinL (TL.tl nlS) ((y :: ys ++ [("" : Str)]).map TL.tl)) := rfl
      rw [l1, l2, List.nil_append, ih, TL.tl_append, List.append_assoc]
theorem split_lines_eq {zs : List Str} (h : ∀ z ∈ zs, 10 ∉ TL.tl z) : Txt.split (lines zs) nlS = zs ++ [("" : Str)] := by
  rw [lines_eq]
  refine TL.split_join (s := 10) (S := []) rfl (by decide +kernel) (by simp) fun p hp => ?_
  rcases List.mem_append.mp hp with hp | hp
  · exact h p hp
  · rw [List.mem_singleton.mp hp]
    decide
theorem sum_le {zs : List Str} {k : Nat} (h : ∀ z ∈ zs, z.length ≤ k) : (zs.map (·.length)).sum ≤ zs.length * k := by
  induction zs with
  | nil => simp
  | cons z zs ih =>
    have h1 := h z List.mem_cons_self
    have h2 := ih fun y hy => h y (List.mem_cons_of_mem _ hy)
    rw [List.map_cons, List.sum_cons, List.length_cons, Nat.succ_mul]
    omega
theorem lines_len {zs : List Str} : (lines zs).length ≤ (zs.map (·.length)).sum + zs.length := by
  unfold lines
  have e : ∀ zs : List Str, (TL.tl (Str.join "" (zs.map fun z => z ++ nlS))).length = (zs.map (·.length)).sum + zs.length := fun zs => by
    induction zs with
    | nil => rfl
    | cons z zs ih =>
      rw [TL.tl_join] at ih ⊢
      cases zs with
      | nil => show (TL.tl (z ++ nlS)).length = _; rw [← TL.len_tl, app_len]; simp [show nlS.length = 1 from rfl]
      | cons y ys =>
        have l1 : TL.joinL (TL.tl "") ((List.map (fun z => z ++ nlS) (z :: y :: ys)).map TL.tl) = TL.tl (z ++ nlS) ++ ([] ++ TL.joinL (TL.tl "") ((List.map (fun z => z ++ nlS) (y :: ys)).map TL.tl)) := rfl
        rw [l1, List.nil_append, List.length_append, ih, ← TL.len_tl, app_len]
        simp only [List.map_cons, List.sum_cons, List.length_cons, show nlS.length = 1 from rfl]
        omega
  rw [TL.join_eq, TL.len_tl, e]
  exact Nat.le_refl _
/-- texts of which each is a line -/
structure Lns (zs : List Str) : Prop where
  nl : ∀ z ∈ zs, 10 ∉ TL.tl z
  len : ∀ z ∈ zs, z.length ≤ 1000
  many : zs.length ≤ 100
theorem Lns.fit {zs : List Str} (h : Lns zs) : (lines zs).length ≤ 100100 := by
  have h1 := @lines_len zs
  have h2 := sum_le h.len
  have h3 := h.many
  have : zs.length * 1000 ≤ 100 * 1000 := Nat.mul_le_mul_right _ h3
  omega
section
variable {P : Program} {w : World} {K : PySem.W.Frag} {mg : Str → Option Value} {base : Heap}
/-! is_lot -/
abbrev fIsLot : DSpec := fun ws P => ∃ zs, ws = [wt zs] ∧ IsLot zs ∧ P (.bl true)
theorem sc_is_lot : FnScope ["value", "name", "late"] ["value"] (C8.fnScope (top 16)) := C8.fnScope_by (by decide +kernel)
theorem ok_is_lot (G : GDef K mg "is_lot" (top 16)) (T : Txt K mg) (c1 : C8.Cal P w K mg base 1 "is_name" (spD fIsName) []) : C8.Cal P w K mg base 2 "is_lot" (spD fIsLot) [] := by
  have nd := sc_is_lot.nd
  refine cal_D G sc_is_lot (fun _ _ _ _ _ _ us hl => match us, hl with | [_], _ => rfl) (fun ws P ⟨zs, e, _⟩ => by rw [e]; rfl) fun f cdv A outer s H E ex T' ws P' hr h => ?_
  obtain ⟨zs, rfl, hz, p⟩ := h
  have hlen := @strs_len zs
  repeat walk_at "k"
  refine ifDn (by rw [hlen]; have := List.length_pos_iff.mpr hz.ne; omega) ?_
  repeat walk_at "k"
  refine we_lc [("name", 1)] rfl nd (blkOk_by (own := [("name", 1)]) (N := ["value", "name", "late"]) (sc := C8.fnScope (top 16)) (by decide +kernel)) (wlc_M (x_iterT ?_))
  walk_at "k"
  refine ⟨by rw [hlen]; exact line_of hz.len, fun _ _ => .bl true, fun i d hd Dd => ?_, _, bls_const, ?_⟩
  · obtain ⟨z, hk, rfl⟩ := strs_get hd
    repeat walk_at "k"
    refine we_c c1 ‹Room _ _› (by decide) rfl ?_
    repeat walk_at "k"
    exact ⟨hz.nm z (List.mem_of_getElem? hk), rfl⟩
  rw [all_rep]
  repeat walk_at "k"
  refine we_lc [("name", 1), ("late", 2)] rfl nd (blkOk_by (own := [("name", 1), ("late", 2)]) (N := ["value", "name", "late"]) (sc := C8.fnScope (top 16)) (by decide +kernel)) (wlc_M (wi_zipT ‹Txt _ _› rfl rfl rfl rfl ?_))
  repeat walk_at "k"
  refine ⟨?_, fun _ _ => .bl true, fun i d hd Dd => ?_, _, bls_const, ?_⟩
  · unfold zipW
    rw [List.length_zipWith, hlen]
    exact line_of (Nat.le_trans (Nat.min_le_left _ _) hz.len)
  · obtain ⟨x, y, hx, hy, rfl⟩ := zip_next hd
    repeat walk_at "k"
    show W.bl (decide (x.cps.toList < y.cps.toList)) = W.bl true
    rw [decide_eq_true (hz.asc.next hx hy)]
  · rw [all_rep]
    exact p
/-! is_lot_of -/
abbrev fIsLotOf : DSpec := fun ws P => ∃ fs zs u, ws = [u, wt zs] ∧ (u = wl fs ∨ u = wt fs) ∧ IsLot zs ∧ (∀ z ∈ zs, z ∈ fs) ∧ P (.bl true)
theorem sc_is_lot_of : FnScope ["finds", "value", "name"] ["finds", "value"] (C8.fnScope (top 17)) := C8.fnScope_by (by decide +kernel)
theorem ok_is_lot_of (G : GDef K mg "is_lot_of" (top 17)) (T : Txt K mg) (c1 : C8.Cal P w K mg base 2 "is_lot" (spD fIsLot) []) : C8.Cal P w K mg base 3 "is_lot_of" (spD fIsLotOf) [] := by
  have nd := sc_is_lot_of.nd
  refine cal_D G sc_is_lot_of (fun _ _ _ _ _ _ us hl => match us, hl with | [_, _], _ => rfl) (fun ws P ⟨fs, zs, u, e, _⟩ => by rw [e]; rfl) fun f cdv A outer s H E ex T' ws P' hr h => ?_
  obtain ⟨fs, zs, u, rfl, hu, hz, hm, p⟩ := h
  have hlen := @strs_len zs
  repeat walk_at "k"
  refine we_c c1 ‹Room _ _› (by decide) rfl ?_
  repeat walk_at "k"
  refine ⟨hz, ?_⟩
  repeat walk_at "k"
  refine we_lc [("name", 2)] rfl nd (blkOk_by (own := [("name", 2)]) (N := ["finds", "value", "name"]) (sc := C8.fnScope (top 17)) (by decide +kernel)) (wlc_M (x_iterT ?_))
  repeat walk_at "k"
  refine ⟨by rw [hlen]; exact line_of hz.len, fun _ _ => .bl true, fun i d hd Dd => ?_, _, bls_const, ?_⟩
  · obtain ⟨z, hk, rfl⟩ := strs_get hd
    have hin := hm z (List.mem_of_getElem? hk)
    rcases hu with rfl | rfl
    all_goals
      repeat walk_at "k"
      show W.bl _ = W.bl true
      rw [decide_eq_true hin]
  · rw [all_rep]
    exact p
/-! the lines of a text -/
abbrev fSplitLines : DSpec := fun ws P => ∃ zs, ws = [.str (lines zs)] ∧ Lns zs ∧ P (.tup [wl zs, .str ""])
theorem sc_split_lines : FnScope ["text", "lines", "tail"] ["text"] (C8.fnScope (top 19)) := C8.fnScope_by (by decide +kernel)
theorem ok_split_lines (G : GDef K mg "split_lines" (top 19)) (T : Txt K mg) : C8.Cal P w K mg base 1 "split_lines" (spD fSplitLines) [] := by
  have nd := sc_split_lines.nd
  refine cal_D G sc_split_lines (fun _ _ _ _ _ _ us hl => match us, hl with | [_], _ => rfl) (fun ws P ⟨zs, e, _⟩ => by rw [e]; rfl) fun f cdv A outer s H E ex T' ws P' hr h => ?_
  obtain ⟨zs, rfl, hz, p⟩ := h
  repeat walk_at "k"
  refine vs_star 1 2 rfl nd rfl rfl (by first | exact .inl rfl | exact .inr rfl) (by first | exact .inl rfl | exact .inr rfl) (by first | exact .inl rfl | exact .inr rfl) (by first | exact .inl rfl | exact .inr rfl) ?_
  repeat walk_at "k"
  refine ⟨line6 (by have := hz.fit; omega), ?_⟩
  refine ⟨zs.map W.str, .str "", by rw [split_lines_eq hz.nl, List.map_append]; rfl, ?_⟩
  repeat walk_at "k"
  exact p
abbrev fNeedLine : DSpec := fun ws P => ∃ z : Str, ws = [.str z] ∧ z ≠ "" ∧ P .non
theorem sc_need_line : FnScope ["text"] ["text"] (C8.fnScope (top 20)) := C8.fnScope_by (by decide +kernel)
theorem ok_need_line (G : GDef K mg "need_line" (top 20)) (T : Txt K mg) : C8.Cal P w K mg base 1 "need_line" (spD fNeedLine) [] := by
  have nd := sc_need_line.nd
  refine cal_D G sc_need_line (fun _ _ _ _ _ _ us hl => match us, hl with | [_], _ => rfl) (fun ws P ⟨zs, e, _⟩ => by rw [e]; rfl) fun f cdv A outer s H E ex T' ws P' hr h => ?_
  obtain ⟨z, rfl, hz, p⟩ := h
  repeat walk_at "k"
  refine ifDn hz ?_
  repeat walk_at "k"
  exact p
abbrev fCheckLine : DSpec := fun ws P => ∃ i : Int, ws = [.int i, .str ""] ∧ P .non
theorem sc_check_line : FnScope ["line", "why"] ["line", "why"] (C8.fnScope (top 21)) := C8.fnScope_by (by decide +kernel)
theorem ok_check_line (G : GDef K mg "check_line" (top 21)) (T : Txt K mg) : C8.Cal P w K mg base 1 "check_line" (spD fCheckLine) [] := by
  have nd := sc_check_line.nd
  refine cal_D G sc_check_line (fun _ _ _ _ _ _ us hl => match us, hl with | [_, _], _ => rfl) (fun ws P ⟨zs, e, _⟩ => by rw [e]; rfl) fun f cdv A outer s H E ex T' ws P' hr h => ?_
  obtain ⟨i, rfl, p⟩ := h
  repeat walk_at "k"
  exact p
abbrev fCheckTail : DSpec := fun ws P => ∃ u, ws = [u, .str ""] ∧ P .non
theorem sc_check_tail : FnScope ["lines", "tail"] ["lines", "tail"] (C8.fnScope (top 22)) := C8.fnScope_by (by decide +kernel)
theorem ok_check_tail (G : GDef K mg "check_tail" (top 22)) (T : Txt K mg) : C8.Cal P w K mg base 1 "check_tail" (spD fCheckTail) [] := by
  have nd := sc_check_tail.nd
  refine cal_D G sc_check_tail (fun _ _ _ _ _ _ us hl => match us, hl with | [_, _], _ => rfl) (fun ws P ⟨zs, e, _⟩ => by rw [e]; rfl) fun f cdv A outer s H E ex T' ws P' hr h => ?_
  obtain ⟨u, rfl, p⟩ := h
  repeat walk_at "k"
  exact p
abbrev fJoinedLines : DSpec := fun ws P => ∃ zs, ws = [wl zs] ∧ Lns zs ∧ P (.str (lines zs))
theorem sc_joined_lines : FnScope ["lines", "line"] ["lines"] (C8.fnScope (top 23)) := C8.fnScope_by (by decide +kernel)
theorem ok_joined_lines (G : GDef K mg "joined_lines" (top 23)) (T : Txt K mg) : C8.Cal P w K mg base 1 "joined_lines" (spD fJoinedLines) [] := by
  have nd := sc_joined_lines.nd
  refine cal_D G sc_joined_lines (fun _ _ _ _ _ _ us hl => match us, hl with | [_], _ => rfl) (fun ws P ⟨zs, e, _⟩ => by rw [e]; rfl) fun f cdv A outer s H E ex T' ws P' hr h => ?_
  obtain ⟨zs, rfl, hz, p⟩ := h
  have hlen := @strs_len zs
  repeat walk_at "k"
  refine we_lc [("line", 1)] rfl nd (blkOk_by (own := [("line", 1)]) (N := ["lines", "line"]) (sc := C8.fnScope (top 23)) (by decide +kernel)) (wlc_M (x_iterL ?_))
  repeat walk_at "k"
  refine ⟨by rw [hlen]; exact line_of hz.many, fun _ d => match d with | .str z => .str (z ++ nlS) | _ => .non, fun i d hd Dd => ?_, zs.map (fun z => z ++ nlS), ?_, ?_, p⟩
  · obtain ⟨z, hk, rfl⟩ := strs_get hd
    repeat walk_at "k"
    exact ⟨line6 (by have := hz.len z (List.mem_of_getElem? hk); have : (("\n" : Str)).length = 1 := rfl; omega), rfl⟩
  · refine List.ext_getElem? fun i => ?_
    rw [List.getElem?_mapIdx, List.getElem?_map, List.getElem?_map, List.getElem?_map]
    cases zs[i]? <;> rfl
  · have h1 : ∀ z ∈ zs.map (fun z => z ++ nlS), z.length ≤ 1001 := fun z hz' => by
      obtain ⟨y, hy, rfl⟩ := List.mem_map.mp hz'
      rw [app_len]
      have := hz.len y hy
      have : nlS.length = 1 := rfl
      omega
    have h2 := sum_le h1
    rw [List.length_map] at h2
    have h3 := hz.many
    have : zs.length * 1001 ≤ 100 * 1001 := Nat.mul_le_mul_right _ h3
    have e : ("" : Str).length = 0 := rfl
    rw [e]
    omega
end
end K11
/-! PD3 -/
namespace K11
open PySem PySem.Spec PyProof.Rows L2
local macro_rules | `(tactic| walk_at "n") => `(tactic| first
  | refine we_name 0 rfl (by first | exact .inl rfl | exact .inr (.inl rfl) | exact .inr (.inr rfl)) rfl ?_
  | refine we_name 1 rfl (by first | exact .inl rfl | exact .inr (.inl rfl) | exact .inr (.inr rfl)) rfl ?_
  | refine we_name 2 rfl (by first | exact .inl rfl | exact .inr (.inl rfl) | exact .inr (.inr rfl)) rfl ?_
  | refine we_name 3 rfl (by first | exact .inl rfl | exact .inr (.inl rfl) | exact .inr (.inr rfl)) rfl ?_
  | refine we_name 4 rfl (by first | exact .inl rfl | exact .inr (.inl rfl) | exact .inr (.inr rfl)) rfl ?_
  | refine we_name 5 rfl (by first | exact .inl rfl | exact .inr (.inl rfl) | exact .inr (.inr rfl)) rfl ?_
  | refine we_name 6 rfl (by first | exact .inl rfl | exact .inr (.inl rfl) | exact .inr (.inr rfl)) rfl ?_
  | refine we_name 7 rfl (by first | exact .inl rfl | exact .inr (.inl rfl) | exact .inr (.inr rfl)) rfl ?_
  | refine we_name 8 rfl (by first | exact .inl rfl | exact .inr (.inl rfl) | exact .inr (.inr rfl)) rfl ?_
  | refine we_name 9 rfl (by first | exact .inl rfl | exact .inr (.inl rfl) | exact .inr (.inr rfl)) rfl ?_
  | refine we_name 10 rfl (by first | exact .inl rfl | exact .inr (.inl rfl) | exact .inr (.inr rfl)) rfl ?_
  | refine we_name 11 rfl (by first | exact .inl rfl | exact .inr (.inl rfl) | exact .inr (.inr rfl)) rfl ?_
  | refine we_name 12 rfl (by first | exact .inl rfl | exact .inr (.inl rfl) | exact .inr (.inr rfl)) rfl ?_
  | refine we_name 13 rfl (by first | exact .inl rfl | exact .inr (.inl rfl) | exact .inr (.inr rfl)) rfl ?_
  | refine we_gint rfl (Txt.mLetters ‹_›) ?_
  | refine we_gstr rfl (Txt.letters ‹_›) ?_
  | refine we_gint rfl (Tx2.mFB ‹_›) ?_
  | refine we_gint rfl (Tx2.mW ‹_›) ?_
  | refine we_gint rfl (Tx2.mF ‹_›) ?_
  | refine we_gint rfl (Tx2.mFT ‹_›) ?_
  | refine we_gint rfl (Tx2.mK ‹_›) ?_)
local macro_rules | `(tactic| walk_at "cmp") => `(tactic| first
  | refine xt_eq ‹Room _ _› ?_
  | refine xt_ne ‹Room _ _› ?_
  | refine xt_lt ?_
  | refine xt_le ?_
  | refine xt_gt ?_
  | refine xt_ge ?_
  | refine wt_isN ?_
  | refine xt_in rfl ?_
  | refine xt_nin rfl ?_
  | refine x_chain (by with_unfolding_all rfl) ?_)
local macro_rules | `(tactic| walk_at "ecmp") => `(tactic| first
  | refine xe_eq ‹Room _ _› ?_
  | refine xe_ne ‹Room _ _› ?_
  | refine xe_lt ?_
  | refine xe_le ?_
  | refine xe_gt ?_
  | refine xe_ge ?_
  | refine we_isN ?_
  | refine xe_in rfl ?_
  | refine xe_nin rfl ?_)
local macro_rules | `(tactic| walk_at "t") => `(tactic| first
  | (show WT _ _ (.Compare _ _ _ _) _; walk_at "cmp")
  | refine wt_or ?_
  | refine wt_and ?_
  | refine wt_not ?_
  | refine x_val (by intro _; rfl) ?_)
local macro_rules | `(tactic| walk_at "b") => `(tactic| first
  | refine xe_len ‹Txt _ _› rfl rfl ?_
  | refine x_isi_str ‹Txt _ _› rfl rfl rfl rfl ?_
  | refine x_isi_tup ‹Txt _ _› rfl rfl rfl rfl ?_
  | refine x_isi_lst ‹Txt _ _› rfl rfl rfl rfl ?_
  | refine x_isi_bool ‹Txt _ _› rfl rfl rfl rfl ?_
  | refine x_isi_int ‹Txt _ _› rfl rfl rfl rfl ?_
  | refine x_isi_lt ‹Txt _ _› rfl rfl rfl rfl rfl ?_
  | refine x_all ‹Txt _ _› rfl rfl rfl ?_
  | refine x_tuple ‹Txt _ _› rfl rfl ?_
  | refine x_list ‹Txt _ _› rfl rfl ?_
  | refine x_sorted ‹Txt _ _› rfl rfl ?_
  | refine x_str ‹Txt _ _› rfl rfl ?_
  | refine x_int ‹Txt _ _› rfl rfl ?_
  | refine x_min ‹Txt _ _› rfl rfl rfl rfl rfl ?_)
local macro_rules | `(tactic| walk_at "e") => `(tactic| first
  | (show WE _ _ (.Name _ _) _; walk_at "n")
  | (show WE _ _ (.Constant _ _ _) _; first | refine we_int ?_ | refine we_str ?_ | refine we_bl ?_ | refine we_non ?_)
  | (show WE _ _ (.Call (.Name _ _) _ _ _) _; walk_at "b")
  | (show WE _ _ (.Compare _ _ _ _) _; walk_at "ecmp")
  | (show WE _ _ (.Subscript _ _ _) _; first | refine xe_sl ?_ | refine xe_ix (fun _ _ => rfl) ?_)
  | (show WE _ _ (.BinOp _ _ _ _) _; first | refine xe_add ?_ | refine xe_sub ?_ | refine xe_mul ?_ | refine xe_mod ?_ | refine xe_fdiv ?_)
  | (show WE _ _ (.Call (.Attribute _ _ _) _ _ _) _; first | refine x_split rfl rfl rfl ?_ | refine x_join rfl rfl rfl ?_)
  | refine we_lst (k := 0) ?_
  | refine we_tup (k := _) ?_
  | refine we_if ?_
  | refine x_and ?_
  | refine x_or ?_
  | refine we_one ?_
  | refine x_not ?_
  | refine x_fstr2 ?_)
local macro_rules | `(tactic| walk_at "ss") => `(tactic| first
  | refine vs_set 0 ‹List.Nodup _› rfl (by first | exact .inl rfl | exact .inr rfl) (by first | exact .inl rfl | exact .inr rfl) rfl ?_
  | refine vs_set 1 ‹List.Nodup _› rfl (by first | exact .inl rfl | exact .inr rfl) (by first | exact .inl rfl | exact .inr rfl) rfl ?_
  | refine vs_set 2 ‹List.Nodup _› rfl (by first | exact .inl rfl | exact .inr rfl) (by first | exact .inl rfl | exact .inr rfl) rfl ?_
  | refine vs_set 3 ‹List.Nodup _› rfl (by first | exact .inl rfl | exact .inr rfl) (by first | exact .inl rfl | exact .inr rfl) rfl ?_
  | refine vs_set 4 ‹List.Nodup _› rfl (by first | exact .inl rfl | exact .inr rfl) (by first | exact .inl rfl | exact .inr rfl) rfl ?_
  | refine vs_set 5 ‹List.Nodup _› rfl (by first | exact .inl rfl | exact .inr rfl) (by first | exact .inl rfl | exact .inr rfl) rfl ?_
  | refine vs_set 6 ‹List.Nodup _› rfl (by first | exact .inl rfl | exact .inr rfl) (by first | exact .inl rfl | exact .inr rfl) rfl ?_
  | refine vs_set 7 ‹List.Nodup _› rfl (by first | exact .inl rfl | exact .inr rfl) (by first | exact .inl rfl | exact .inr rfl) rfl ?_
  | refine vs_set 8 ‹List.Nodup _› rfl (by first | exact .inl rfl | exact .inr rfl) (by first | exact .inl rfl | exact .inr rfl) rfl ?_
  | refine vs_set 9 ‹List.Nodup _› rfl (by first | exact .inl rfl | exact .inr rfl) (by first | exact .inl rfl | exact .inr rfl) rfl ?_
  | refine vs_set 10 ‹List.Nodup _› rfl (by first | exact .inl rfl | exact .inr rfl) (by first | exact .inl rfl | exact .inr rfl) rfl ?_
  | refine vs_set 11 ‹List.Nodup _› rfl (by first | exact .inl rfl | exact .inr rfl) (by first | exact .inl rfl | exact .inr rfl) rfl ?_)
local macro_rules | `(tactic| walk_at "gn") => `(tactic| first
  | refine vg_name 0 ‹List.Nodup _› rfl (by first | exact .inl rfl | exact .inr rfl) (by first | exact .inl rfl | exact .inr rfl) (by decide) ?_
  | refine vg_name 1 ‹List.Nodup _› rfl (by first | exact .inl rfl | exact .inr rfl) (by first | exact .inl rfl | exact .inr rfl) (by decide) ?_
  | refine vg_name 2 ‹List.Nodup _› rfl (by first | exact .inl rfl | exact .inr rfl) (by first | exact .inl rfl | exact .inr rfl) (by decide) ?_
  | refine vg_name 3 ‹List.Nodup _› rfl (by first | exact .inl rfl | exact .inr rfl) (by first | exact .inl rfl | exact .inr rfl) (by decide) ?_
  | refine vg_name 4 ‹List.Nodup _› rfl (by first | exact .inl rfl | exact .inr rfl) (by first | exact .inl rfl | exact .inr rfl) (by decide) ?_
  | refine vg_name 5 ‹List.Nodup _› rfl (by first | exact .inl rfl | exact .inr rfl) (by first | exact .inl rfl | exact .inr rfl) (by decide) ?_
  | refine vg_name 6 ‹List.Nodup _› rfl (by first | exact .inl rfl | exact .inr rfl) (by first | exact .inl rfl | exact .inr rfl) (by decide) ?_
  | refine vg_name 7 ‹List.Nodup _› rfl (by first | exact .inl rfl | exact .inr rfl) (by first | exact .inl rfl | exact .inr rfl) (by decide) ?_
  | refine vg_name 8 ‹List.Nodup _› rfl (by first | exact .inl rfl | exact .inr rfl) (by first | exact .inl rfl | exact .inr rfl) (by decide) ?_
  | refine vg_name 9 ‹List.Nodup _› rfl (by first | exact .inl rfl | exact .inr rfl) (by first | exact .inl rfl | exact .inr rfl) (by decide) ?_
  | refine vg_name 10 ‹List.Nodup _› rfl (by first | exact .inl rfl | exact .inr rfl) (by first | exact .inl rfl | exact .inr rfl) (by decide) ?_
  | refine vg_name 11 ‹List.Nodup _› rfl (by first | exact .inl rfl | exact .inr rfl) (by first | exact .inl rfl | exact .inr rfl) (by decide) ?_)
local macro_rules | `(tactic| walk_at "k") => `(tactic| first
  | (with_reducible show IntW _ _; refine int_i ?_)
  | (with_reducible show StrW _ _; refine str_i ?_)
  | (with_reducible show LstW _ _; refine lst_i ?_)
  | (with_reducible show TupW _ _; refine tup_i ?_)
  | (with_reducible show BlW _ _; refine bl_i ?_)
  | (with_reducible show SeqW _ _; first | refine seqL_i ?_ | refine seqT_i ?_)
  | (with_reducible show LenW _ _; first | refine lenL_i ?_ | refine lenT_i ?_)
  | (with_reducible show IxW _ _ _; first | refine ixL_i 0 rfl rfl ?_ | refine ixL_i 1 rfl rfl ?_ | refine ixL_i 2 rfl rfl ?_ | refine ixT_i 0 rfl rfl ?_ | refine ixT_i 1 rfl rfl ?_)
  | (with_reducible show SlW _ _ _ _; first | refine slL_from 1 rfl ?_ | refine slL_from 2 rfl ?_ | refine slT_from 1 rfl ?_)
  | (show WE _ _ _ _; walk_at "e")
  | (show WT _ _ _ _; walk_at "t")
  | (show WSs _ _ _ _ _; first | refine wss_cons ?_ | refine wss_nil ?_)
  | (show WS _ _ _ _ _; first | refine ws_if ?_ | refine ws_ret ?_ | refine ws_retN ?_ | (show WS _ _ (.Assign [.Name _ _] _ _) _ _; walk_at "ss"))
  | (show WG _ _ _ _ _ _; first | refine xg_tup rfl rfl rfl ?_ | walk_at "gn")
  | (show WGs _ _ _ _ _ _; first | refine vgs_cons rfl ?_ | refine vgs_nil ?_)
  | (show WAs _ _ _ _; first | refine wa_nil ?_ | refine wa_star ?_ | refine wa_cons ?_)
  | (show WTw _ _ _ _; first | refine ww_or ?_ | refine ww_and ?_ | refine ww_or1 ?_ | refine ww_and1 ?_)
  | (show WO _ _ _ _; first | refine wo_none ?_ | refine wo_int ?_)
  | refine fam_i fun _ _ _ _ _ => ?_
  | refine iteT ?_
  | refine iteF ?_
  | refine ⟨rfl, ?_⟩
  | refine ⟨_, rfl, ?_⟩
  | refine ⟨lit_line rfl, ?_⟩)
/-- distinct names, at least one, at most twelve -/
structure IsFinds (fs : List Str) : Prop where
  nm : Nms fs
  nd : fs.Nodup
  ne : fs ≠ []
  len : fs.length ≤ 12
theorem not_before {zs : List Str} (nd : zs.Nodup) {i : Nat} {z : Str} (h : zs[i]? = some z) : z ∉ zs.take i := fun m => by
  obtain ⟨j, hj, e⟩ := List.mem_iff_getElem.mp m
  rw [List.length_take] at hj
  rw [List.getElem_take] at e
  obtain ⟨hi, e2⟩ := List.getElem?_eq_some_iff.mp h
  have := (List.nodup_iff_pairwise_ne.mp nd)
  have h2 := List.pairwise_iff_getElem.mp this j i (by omega) hi (by omega)
  exact h2 (e.trans e2.symm)
section
variable {P : Program} {w : World} {K : PySem.W.Frag} {mg : Str → Option Value} {base : Heap}
/-! check_finds -/
abbrev fCheckFinds : DSpec := fun ws P => ∃ fs u, ws = [u] ∧ (u = wl fs ∨ u = wt fs) ∧ IsFinds fs ∧ P .non
theorem sc_check_finds : FnScope ["finds", "at", "find"] ["finds"] (C8.fnScope (top 27)) := C8.fnScope_by (by decide +kernel)
theorem ok_check_finds (G : GDef K mg "check_finds" (top 27)) (T : Txt K mg) (T2 : Tx2 K mg) (c1 : C8.Cal P w K mg base 1 "is_name" (spD fIsName) []) : C8.Cal P w K mg base 2 "check_finds" (spD fCheckFinds) [] := by
  have nd := sc_check_finds.nd
  refine cal_D G sc_check_finds (fun _ _ _ _ _ _ us hl => match us, hl with | [_], _ => rfl) (fun ws P ⟨fs, u, e, _⟩ => by rw [e]; rfl) fun f cdv A outer s H E ex T' ws P' hr h => ?_
  obtain ⟨fs, u, rfl, hu, hf, p⟩ := h
  have hlen := @strs_len fs
  have h1 := List.length_pos_iff.mpr hf.ne
  have h12 := hf.len
  have turn : ∀ (i : Nat) (d : W), (enumW (fs.map W.str))[i]? = some d → ∃ z, fs[i]? = some z ∧ d = .tup [.int (i : Int), .str z] := fun i d h => by
    obtain ⟨x, hx, rfl⟩ := enumW_get h
    obtain ⟨z, hz, rfl⟩ := strs_get hx
    exact ⟨z, hz, rfl⟩
  rcases hu with rfl | rfl
  all_goals
    repeat walk_at "k"
    refine ifDn (by rw [hlen]; omega) ?_
    repeat walk_at "k"
    refine ifDn (by rw [hlen]; omega) ?_
    repeat walk_at "k"
  · refine ws_for [1, 2] PassesOwn.never rfl (x_enum ‹Txt _ _› rfl rfl ?_)
    repeat walk_at "k"
    refine ⟨fun _ c1 => ∃ r1 r2, c1 = { ρ := [some (.dat (wl fs)), r1, r2], ex := ex, T := T' }, ⟨_, _, rfl⟩, fun i c1' d hd ⟨r1, r2, e⟩ => ?_, fun c1 ⟨r1, r2, e⟩ => ?_⟩
    · subst e
      obtain ⟨z, hz, rfl⟩ := turn i d hd
      repeat walk_at "k"
      refine we_c c1 ‹Room _ _› (by decide) rfl ?_
      repeat walk_at "k"
      refine ⟨hf.nm z (List.mem_of_getElem? hz), ?_⟩
      repeat walk_at "k"
      refine slL_to i rfl ?_
      refine ⟨fs.take i, by rw [List.map_take], ?_⟩
      refine ifDn (not_before hf.nd hz) ?_
      repeat walk_at "k"
      exact ⟨_, _, rfl⟩
    · subst e
      repeat walk_at "k"
      exact p
  · refine ws_for [1, 2] PassesOwn.never rfl (x_enumT ‹Txt _ _› rfl rfl ?_)
    repeat walk_at "k"
    refine ⟨fun _ c1 => ∃ r1 r2, c1 = { ρ := [some (.dat (wt fs)), r1, r2], ex := ex, T := T' }, ⟨_, _, rfl⟩, fun i c1' d hd ⟨r1, r2, e⟩ => ?_, fun c1 ⟨r1, r2, e⟩ => ?_⟩
    · subst e
      obtain ⟨z, hz, rfl⟩ := turn i d hd
      repeat walk_at "k"
      refine we_c c1 ‹Room _ _› (by decide) rfl ?_
      repeat walk_at "k"
      refine ⟨hf.nm z (List.mem_of_getElem? hz), ?_⟩
      repeat walk_at "k"
      refine slT_to i rfl ?_
      refine ⟨fs.take i, by rw [List.map_take], ?_⟩
      refine ifDn (not_before hf.nd hz) ?_
      repeat walk_at "k"
      exact ⟨_, _, rfl⟩
    · subst e
      repeat walk_at "k"
      exact p
/-! words -/
abbrev wWord (p : Str × List Str) : W := .tup [.str p.1, wt p.2]
structure IsWord (fs : List Str) (p : Str × List Str) : Prop where
  nm : IsNm p.1
  lot : IsLot p.2
  sub : ∀ z ∈ p.2, z ∈ fs
abbrev fIsWord : DSpec := fun ws P => ∃ fs u q, ws = [u, wWord q] ∧ (u = wl fs ∨ u = wt fs) ∧ IsWord fs q ∧ P (.bl true)
theorem sc_is_word : FnScope ["finds", "value"] ["finds", "value"] (C8.fnScope (top 28)) := C8.fnScope_by (by decide +kernel)
theorem ok_is_word (G : GDef K mg "is_word" (top 28)) (T : Txt K mg) (c1 : C8.Cal P w K mg base 1 "is_name" (spD fIsName) []) (c2 : C8.Cal P w K mg base 3 "is_lot_of" (spD fIsLotOf) []) : C8.Cal P w K mg base 4 "is_word" (spD fIsWord) [] := by
  have nd := sc_is_word.nd
  refine cal_D G sc_is_word (fun _ _ _ _ _ _ us hl => match us, hl with | [_, _], _ => rfl) (fun ws P ⟨fs, u, q, e, _⟩ => by rw [e]; rfl) fun f cdv A outer s H E ex T' ws P' hr h => ?_
  obtain ⟨fs, u, q, rfl, hu, hq, p⟩ := h
  repeat walk_at "k"
  refine we_c c1 ‹Room _ _› (by decide) rfl ?_
  repeat walk_at "k"
  refine ⟨hq.nm, ?_⟩
  repeat walk_at "k"
  refine we_c c2 ‹Room _ _› (by decide) rfl ?_
  repeat walk_at "k"
  exact ⟨fs, _, u, rfl, hu, hq.lot, hq.sub, p⟩
structure IsWords (fs : List Str) (qs : List (Str × List Str)) : Prop where
  wd : ∀ q ∈ qs, IsWord fs q
  nd : (qs.map (·.1)).Nodup
  len : qs.length ≤ 40
abbrev fCheckWords : DSpec := fun ws P => ∃ fs u qs, ws = [u, .lst (qs.map wWord)] ∧ (u = wl fs ∨ u = wt fs) ∧ IsWords fs qs ∧ P .non
theorem sc_check_words : FnScope ["finds", "words", "at", "word", "marks", "mark", "lot"] ["finds", "words"] (C8.fnScope (top 29)) := C8.fnScope_by (by decide +kernel)
theorem words_get {qs : List (Str × List Str)} {i : Nat} {d : W} (h : (qs.map wWord)[i]? = some d) : ∃ q, qs[i]? = some q ∧ d = wWord q := by
  rw [List.getElem?_map] at h
  cases e : qs[i]? with
  | none => rw [e] at h; cases h
  | some z => rw [e] at h; cases h; exact ⟨z, rfl, rfl⟩
theorem enumS_get {zs : List Str} {i : Nat} {d : W} (h : (enumW (zs.map W.str))[i]? = some d) : ∃ z, zs[i]? = some z ∧ d = .tup [.int (i : Int), .str z] := by
  obtain ⟨x, hx, rfl⟩ := enumW_get h
  obtain ⟨z, hz, rfl⟩ := strs_get hx
  exact ⟨z, hz, rfl⟩
theorem map_idx_eq {α : Type} {zs : List α} {g : α → W} {f : Nat → W → W} {h : α → W} (e : ∀ i a, zs[i]? = some a → f i (g a) = h a) : (zs.map g).mapIdx f = zs.map h := by
  refine List.ext_getElem? fun i => ?_
  rw [List.getElem?_mapIdx, List.getElem?_map, List.getElem?_map]
  cases q : zs[i]? with
  | none => rfl
  | some a => show some (f i (g a)) = some (h a); rw [e i a q]
theorem ok_check_words (G : GDef K mg "check_words" (top 29)) (T : Txt K mg) (T2 : Tx2 K mg) (c1 : C8.Cal P w K mg base 4 "is_word" (spD fIsWord) []) : C8.Cal P w K mg base 5 "check_words" (spD fCheckWords) [] := by
  have nd := sc_check_words.nd
  refine cal_D G sc_check_words (fun _ _ _ _ _ _ us hl => match us, hl with | [_, _], _ => rfl) (fun ws P ⟨fs, u, q, e, _⟩ => by rw [e]; rfl) fun f cdv A outer s H E ex T' ws P' hr h => ?_
  obtain ⟨fs, u, qs, rfl, hu, hq, p⟩ := h
  have hlen : (qs.map wWord).length = qs.length := by simp
  have h40 := hq.len
  repeat walk_at "k"
  refine ifDn (by rw [hlen]; omega) ?_
  repeat walk_at "k"
  refine ws_for [2, 3] PassesOwn.never rfl (x_enum ‹Txt _ _› rfl rfl ?_)
  repeat walk_at "k"
  refine ⟨fun _ c1 => ∃ r1 r2, c1 = { ρ := [some (.dat u), some (.dat (.lst (qs.map wWord))), r1, r2, none, none, none], ex := ex, T := T' }, ⟨_, _, rfl⟩, fun i c1' d hd ⟨r1, r2, e⟩ => ?_, fun c1' ⟨r1, r2, e⟩ => ?_⟩
  · subst e
    obtain ⟨x, hx, rfl⟩ := enumW_get hd
    obtain ⟨q, hq', rfl⟩ := words_get hx
    repeat walk_at "k"
    refine we_c c1 ‹Room _ _› (by decide) rfl ?_
    repeat walk_at "k"
    refine ⟨fs, u, q, rfl, hu, hq.wd q (List.mem_of_getElem? hq'), ?_⟩
    repeat walk_at "k"
    exact ⟨_, _, rfl⟩
  subst e
  repeat walk_at "k"
  refine vs_setLc 4 [("mark", 5), ("lot", 6)] rfl nd rfl rfl (sw_true rfl rfl rfl (by decide +kernel)) (blkOk_by (own := [("mark", 5), ("lot", 6)]) (N := ["finds", "words", "at", "word", "marks", "mark", "lot"]) (sc := C8.fnScope (top 29)) (by decide +kernel)) (wlc_M (x_iterL ?_))
  repeat walk_at "k"
  refine ⟨by rw [hlen]; exact line_of (by omega), fun _ d => match d with | .tup [x, _] => x | _ => .non, fun i d hd Dd => ?_, ?_⟩
  · obtain ⟨q, hq', rfl⟩ := words_get hd
    repeat walk_at "k"
    rfl
  rw [map_idx_eq (h := fun q => W.str q.1) (fun _ _ _ => rfl), show qs.map (fun q => W.str q.1) = (qs.map (·.1)).map W.str by rw [List.map_map]; rfl]
  repeat walk_at "k"
  refine ws_for [2, 5] PassesOwn.never rfl (x_enum ‹Txt _ _› rfl rfl ?_)
  repeat walk_at "k"
  refine ⟨fun _ c1 => ∃ r1 r2 r3 r4, c1 = { ρ := [some (.dat u), some (.dat (.lst (qs.map wWord))), r1, r2, some (.dat (wl (qs.map (·.1)))), r3, r4], ex := ex, T := T' }, ⟨_, _, _, _, rfl⟩, fun i c1' d hd ⟨r1, r2, r3, r4, e⟩ => ?_, fun c1' ⟨r1, r2, r3, r4, e⟩ => ?_⟩
  · subst e
    obtain ⟨z, hz, rfl⟩ := enumS_get hd
    repeat walk_at "k"
    refine slL_to i rfl ?_
    refine ⟨(qs.map (·.1)).take i, by rw [List.map_take], ?_⟩
    refine ifDn (not_before hq.nd hz) ?_
    repeat walk_at "k"
    exact ⟨_, _, _, _, rfl⟩
  · subst e
    repeat walk_at "k"
    exact p
end
end K11
/-! PD4 -/
namespace K11
open PySem PySem.Spec PyProof.Rows L2
local macro_rules | `(tactic| walk_at "n") => `(tactic| first
  | refine we_name 0 rfl (by first | exact .inl rfl | exact .inr (.inl rfl) | exact .inr (.inr rfl)) rfl ?_
  | refine we_name 1 rfl (by first | exact .inl rfl | exact .inr (.inl rfl) | exact .inr (.inr rfl)) rfl ?_
  | refine we_name 2 rfl (by first | exact .inl rfl | exact .inr (.inl rfl) | exact .inr (.inr rfl)) rfl ?_
  | refine we_name 3 rfl (by first | exact .inl rfl | exact .inr (.inl rfl) | exact .inr (.inr rfl)) rfl ?_
  | refine we_name 4 rfl (by first | exact .inl rfl | exact .inr (.inl rfl) | exact .inr (.inr rfl)) rfl ?_
  | refine we_name 5 rfl (by first | exact .inl rfl | exact .inr (.inl rfl) | exact .inr (.inr rfl)) rfl ?_
  | refine we_name 6 rfl (by first | exact .inl rfl | exact .inr (.inl rfl) | exact .inr (.inr rfl)) rfl ?_
  | refine we_name 7 rfl (by first | exact .inl rfl | exact .inr (.inl rfl) | exact .inr (.inr rfl)) rfl ?_
  | refine we_name 8 rfl (by first | exact .inl rfl | exact .inr (.inl rfl) | exact .inr (.inr rfl)) rfl ?_
  | refine we_name 9 rfl (by first | exact .inl rfl | exact .inr (.inl rfl) | exact .inr (.inr rfl)) rfl ?_
  | refine we_name 10 rfl (by first | exact .inl rfl | exact .inr (.inl rfl) | exact .inr (.inr rfl)) rfl ?_
  | refine we_name 11 rfl (by first | exact .inl rfl | exact .inr (.inl rfl) | exact .inr (.inr rfl)) rfl ?_
  | refine we_name 12 rfl (by first | exact .inl rfl | exact .inr (.inl rfl) | exact .inr (.inr rfl)) rfl ?_
  | refine we_name 13 rfl (by first | exact .inl rfl | exact .inr (.inl rfl) | exact .inr (.inr rfl)) rfl ?_
  | refine we_gint rfl (Txt.mLetters ‹_›) ?_
  | refine we_gstr rfl (Txt.letters ‹_›) ?_
  | refine we_gint rfl (Tx2.mFB ‹_›) ?_
  | refine we_gint rfl (Tx2.mW ‹_›) ?_
  | refine we_gint rfl (Tx2.mF ‹_›) ?_
  | refine we_gint rfl (Tx2.mFT ‹_›) ?_
  | refine we_gint rfl (Tx2.mK ‹_›) ?_)
local macro_rules | `(tactic| walk_at "cmp") => `(tactic| first
  | refine xt_eq ‹Room _ _› ?_
  | refine xt_ne ‹Room _ _› ?_
  | refine xt_lt ?_
  | refine xt_le ?_
  | refine xt_gt ?_
  | refine xt_ge ?_
  | refine wt_isN ?_
  | refine xt_in rfl ?_
  | refine xt_nin rfl ?_
  | refine x_chain (by with_unfolding_all rfl) ?_)
local macro_rules | `(tactic| walk_at "ecmp") => `(tactic| first
  | refine xe_eq ‹Room _ _› ?_
  | refine xe_ne ‹Room _ _› ?_
  | refine xe_lt ?_
  | refine xe_le ?_
  | refine xe_gt ?_
  | refine xe_ge ?_
  | refine we_isN ?_
  | refine xe_in rfl ?_
  | refine xe_nin rfl ?_)
local macro_rules | `(tactic| walk_at "t") => `(tactic| first
  | (show WT _ _ (.Compare _ _ _ _) _; walk_at "cmp")
  | refine wt_or ?_
  | refine wt_and ?_
  | refine wt_not ?_
  | refine x_val (by intro _; rfl) ?_)
local macro_rules | `(tactic| walk_at "b") => `(tactic| first
  | refine xe_len ‹Txt _ _› rfl rfl ?_
  | refine x_isi_str ‹Txt _ _› rfl rfl rfl rfl ?_
  | refine x_isi_tup ‹Txt _ _› rfl rfl rfl rfl ?_
  | refine x_isi_lst ‹Txt _ _› rfl rfl rfl rfl ?_
  | refine x_isi_bool ‹Txt _ _› rfl rfl rfl rfl ?_
  | refine x_isi_int ‹Txt _ _› rfl rfl rfl rfl ?_
  | refine x_isi_lt ‹Txt _ _› rfl rfl rfl rfl rfl ?_
  | refine x_all ‹Txt _ _› rfl rfl rfl ?_
  | refine x_tuple ‹Txt _ _› rfl rfl ?_
  | refine x_list ‹Txt _ _› rfl rfl ?_
  | refine x_sorted ‹Txt _ _› rfl rfl ?_
  | refine x_str ‹Txt _ _› rfl rfl ?_
  | refine x_int ‹Txt _ _› rfl rfl ?_
  | refine x_min ‹Txt _ _› rfl rfl rfl rfl rfl ?_)
local macro_rules | `(tactic| walk_at "e") => `(tactic| first
  | (show WE _ _ (.Name _ _) _; walk_at "n")
  | (show WE _ _ (.Constant _ _ _) _; first | refine we_int ?_ | refine we_str ?_ | refine we_bl ?_ | refine we_non ?_)
  | (show WE _ _ (.Call (.Name _ _) _ _ _) _; walk_at "b")
  | (show WE _ _ (.Compare _ _ _ _) _; walk_at "ecmp")
  | (show WE _ _ (.Subscript _ _ _) _; first | refine xe_sl ?_ | refine xe_ix (fun _ _ => rfl) ?_)
  | (show WE _ _ (.BinOp _ _ _ _) _; first | refine xe_add ?_ | refine xe_sub ?_ | refine xe_mul ?_ | refine xe_mod ?_ | refine xe_fdiv ?_)
  | (show WE _ _ (.Call (.Attribute _ _ _) _ _ _) _; first | refine x_split rfl rfl rfl ?_ | refine x_join rfl rfl rfl ?_)
  | refine we_lst (k := 0) ?_
  | refine we_tup (k := _) ?_
  | refine we_if ?_
  | refine x_and ?_
  | refine x_or ?_
  | refine we_one ?_
  | refine x_not ?_
  | refine x_fstr2 ?_)
local macro_rules | `(tactic| walk_at "ss") => `(tactic| first
  | refine vs_set 0 ‹List.Nodup _› rfl (by first | exact .inl rfl | exact .inr rfl) (by first | exact .inl rfl | exact .inr rfl) rfl ?_
  | refine vs_set 1 ‹List.Nodup _› rfl (by first | exact .inl rfl | exact .inr rfl) (by first | exact .inl rfl | exact .inr rfl) rfl ?_
  | refine vs_set 2 ‹List.Nodup _› rfl (by first | exact .inl rfl | exact .inr rfl) (by first | exact .inl rfl | exact .inr rfl) rfl ?_
  | refine vs_set 3 ‹List.Nodup _› rfl (by first | exact .inl rfl | exact .inr rfl) (by first | exact .inl rfl | exact .inr rfl) rfl ?_
  | refine vs_set 4 ‹List.Nodup _› rfl (by first | exact .inl rfl | exact .inr rfl) (by first | exact .inl rfl | exact .inr rfl) rfl ?_
  | refine vs_set 5 ‹List.Nodup _› rfl (by first | exact .inl rfl | exact .inr rfl) (by first | exact .inl rfl | exact .inr rfl) rfl ?_
  | refine vs_set 6 ‹List.Nodup _› rfl (by first | exact .inl rfl | exact .inr rfl) (by first | exact .inl rfl | exact .inr rfl) rfl ?_
  | refine vs_set 7 ‹List.Nodup _› rfl (by first | exact .inl rfl | exact .inr rfl) (by first | exact .inl rfl | exact .inr rfl) rfl ?_
  | refine vs_set 8 ‹List.Nodup _› rfl (by first | exact .inl rfl | exact .inr rfl) (by first | exact .inl rfl | exact .inr rfl) rfl ?_
  | refine vs_set 9 ‹List.Nodup _› rfl (by first | exact .inl rfl | exact .inr rfl) (by first | exact .inl rfl | exact .inr rfl) rfl ?_
  | refine vs_set 10 ‹List.Nodup _› rfl (by first | exact .inl rfl | exact .inr rfl) (by first | exact .inl rfl | exact .inr rfl) rfl ?_
  | refine vs_set 11 ‹List.Nodup _› rfl (by first | exact .inl rfl | exact .inr rfl) (by first | exact .inl rfl | exact .inr rfl) rfl ?_)
local macro_rules | `(tactic| walk_at "gn") => `(tactic| first
  | refine vg_name 0 ‹List.Nodup _› rfl (by first | exact .inl rfl | exact .inr rfl) (by first | exact .inl rfl | exact .inr rfl) (by decide) ?_
  | refine vg_name 1 ‹List.Nodup _› rfl (by first | exact .inl rfl | exact .inr rfl) (by first | exact .inl rfl | exact .inr rfl) (by decide) ?_
  | refine vg_name 2 ‹List.Nodup _› rfl (by first | exact .inl rfl | exact .inr rfl) (by first | exact .inl rfl | exact .inr rfl) (by decide) ?_
  | refine vg_name 3 ‹List.Nodup _› rfl (by first | exact .inl rfl | exact .inr rfl) (by first | exact .inl rfl | exact .inr rfl) (by decide) ?_
  | refine vg_name 4 ‹List.Nodup _› rfl (by first | exact .inl rfl | exact .inr rfl) (by first | exact .inl rfl | exact .inr rfl) (by decide) ?_
  | refine vg_name 5 ‹List.Nodup _› rfl (by first | exact .inl rfl | exact .inr rfl) (by first | exact .inl rfl | exact .inr rfl) (by decide) ?_
  | refine vg_name 6 ‹List.Nodup _› rfl (by first | exact .inl rfl | exact .inr rfl) (by first | exact .inl rfl | exact .inr rfl) (by decide) ?_
  | refine vg_name 7 ‹List.Nodup _› rfl (by first | exact .inl rfl | exact .inr rfl) (by first | exact .inl rfl | exact .inr rfl) (by decide) ?_
  | refine vg_name 8 ‹List.Nodup _› rfl (by first | exact .inl rfl | exact .inr rfl) (by first | exact .inl rfl | exact .inr rfl) (by decide) ?_
  | refine vg_name 9 ‹List.Nodup _› rfl (by first | exact .inl rfl | exact .inr rfl) (by first | exact .inl rfl | exact .inr rfl) (by decide) ?_
  | refine vg_name 10 ‹List.Nodup _› rfl (by first | exact .inl rfl | exact .inr rfl) (by first | exact .inl rfl | exact .inr rfl) (by decide) ?_
  | refine vg_name 11 ‹List.Nodup _› rfl (by first | exact .inl rfl | exact .inr rfl) (by first | exact .inl rfl | exact .inr rfl) (by decide) ?_)
local macro_rules | `(tactic| walk_at "k") => `(tactic| first
  | (with_reducible show IntW _ _; refine int_i ?_)
  | (with_reducible show StrW _ _; refine str_i ?_)
  | (with_reducible show LstW _ _; refine lst_i ?_)
  | (with_reducible show TupW _ _; refine tup_i ?_)
  | (with_reducible show BlW _ _; refine bl_i ?_)
  | (with_reducible show SeqW _ _; first | refine seqL_i ?_ | refine seqT_i ?_)
  | (with_reducible show LenW _ _; first | refine lenL_i ?_ | refine lenT_i ?_)
  | (with_reducible show IxW _ _ _; first | refine ixL_i 0 rfl rfl ?_ | refine ixL_i 1 rfl rfl ?_ | refine ixL_i 2 rfl rfl ?_ | refine ixT_i 0 rfl rfl ?_ | refine ixT_i 1 rfl rfl ?_)
  | (with_reducible show SlW _ _ _ _; first | refine slL_from 1 rfl ?_ | refine slL_from 2 rfl ?_ | refine slT_from 1 rfl ?_)
  | (show WE _ _ _ _; walk_at "e")
  | (show WT _ _ _ _; walk_at "t")
  | (show WSs _ _ _ _ _; first | refine wss_cons ?_ | refine wss_nil ?_)
  | (show WS _ _ _ _ _; first | refine ws_if ?_ | refine ws_ret ?_ | refine ws_retN ?_ | (show WS _ _ (.Assign [.Name _ _] _ _) _ _; walk_at "ss"))
  | (show WG _ _ _ _ _ _; first | refine xg_tup rfl rfl rfl ?_ | walk_at "gn")
  | (show WGs _ _ _ _ _ _; first | refine vgs_cons rfl ?_ | refine vgs_nil ?_)
  | (show WAs _ _ _ _; first | refine wa_nil ?_ | refine wa_star ?_ | refine wa_cons ?_)
  | (show WTw _ _ _ _; first | refine ww_or ?_ | refine ww_and ?_ | refine ww_or1 ?_ | refine ww_and1 ?_)
  | (show WO _ _ _ _; first | refine wo_none ?_ | refine wo_int ?_)
  | refine fam_i fun _ _ _ _ _ => ?_
  | refine iteT ?_
  | refine iteF ?_
  | refine ⟨rfl, ?_⟩
  | refine ⟨_, rfl, ?_⟩
  | refine ⟨lit_line rfl, ?_⟩)
/-! ### rows of a text -/
def rowT (r : List Str) : Str := Txt.join " " r
structure IsRow (r : List Str) : Prop where
  nm : Nms r
  ne : r ≠ []
  len : r.length ≤ 20
theorem nm_out {z : Str} (h : IsNm z) {k : Nat} (hk : k < 97) : k ∉ TL.tl z := fun m => by
  have := h.2.2 k m
  omega
theorem row_split {r : List Str} (h : IsRow r) : Txt.split (rowT r) " " = r :=
  TL.split_join (s := 32) (S := []) rfl (by decide +kernel) h.ne fun p hp => nm_out (h.nm p hp) (by decide)
theorem joinL_mem {S : List Nat} {c : Nat} : ∀ {ps : List (List Nat)}, c ∈ TL.joinL S ps → c ∈ S ∨ ∃ p ∈ ps, c ∈ p
  | [], h => by cases h
  | [p], h => .inr ⟨p, List.mem_singleton.mpr rfl, h⟩
  | p :: q :: r, h => by
    have h : c ∈ p ++ (S ++ TL.joinL S (q :: r)) := h
    rcases List.mem_append.mp h with h | h
    · exact .inr ⟨p, List.mem_cons_self, h⟩
    · rcases List.mem_append.mp h with h | h
      · exact .inl h
      · rcases joinL_mem h with h | ⟨y, hy, h⟩
        · exact .inl h
        · exact .inr ⟨y, List.mem_cons_of_mem _ hy, h⟩
theorem row_nl {r : List Str} (h : IsRow r) : 10 ∉ TL.tl (rowT r) := fun m => by
  unfold rowT at m
  rw [TL.join_eq, TL.tl_join] at m
  rcases joinL_mem m with m | ⟨p, hp, m⟩
  · revert m; decide
  · obtain ⟨z, hz, rfl⟩ := List.mem_map.mp hp
    exact nm_out (h.nm z hz) (by decide) m
theorem joinL_len {S : List Nat} : ∀ {ps : List (List Nat)}, (TL.joinL S ps).length ≤ (ps.map (·.length)).sum + ps.length * S.length
  | [] => by simp [TL.joinL]
  | [p] => by simp [TL.joinL]
  | p :: q :: r => by
    have ih := joinL_len (S := S) (ps := q :: r)
    show (p ++ (S ++ TL.joinL S (q :: r))).length ≤ _
    rw [List.length_append, List.length_append]
    simp only [List.map_cons, List.sum_cons, List.length_cons, Nat.succ_mul] at ih ⊢
    omega
theorem sum6 {r : List Str} (h : Nms r) : (r.map (·.length)).sum ≤ r.length * 6 := sum_le fun z hz => (h z hz).2.1
theorem row_len {r : List Str} (h : IsRow r) : (rowT r).length ≤ 1000 := by
  unfold rowT
  rw [TL.join_eq, TL.len_tl, TL.tl_join]
  have h1 := joinL_len (S := TL.tl " ") (ps := r.map TL.tl)
  have h2 := sum6 h.nm
  have h3 := h.len
  have e : (r.map TL.tl).map (·.length) = r.map (·.length) := by rw [List.map_map]; exact List.map_congr_left fun z _ => (TL.len_tl z).symm
  rw [e, List.length_map, show (TL.tl " ").length = 1 from rfl] at h1
  omega
theorem rows_lns {rs : List (List Str)} (h : ∀ r ∈ rs, IsRow r) (hl : rs.length ≤ 100) : Lns (rs.map rowT) where
  nl := fun z hz => by obtain ⟨r, hr, rfl⟩ := List.mem_map.mp hz; exact row_nl (h r hr)
  len := fun z hz => by obtain ⟨r, hr, rfl⟩ := List.mem_map.mp hz; exact row_len (h r hr)
  many := by rw [List.length_map]; exact hl
/-- the text of rows -/
abbrev rowsT (rs : List (List Str)) : Str := lines (rs.map rowT)
theorem nm_of {z : Str} (h : (1 ≤ z.length ∧ z.length ≤ 6 ∧ ∀ c ∈ z.cps.toList, 97 ≤ c ∧ c ≤ 122)) : IsNm z := h
theorem nm_finds : IsNm "finds" := nm_of (by decide +kernel)
theorem nm_word : IsNm "word" := nm_of (by decide +kernel)
theorem nm_find : IsNm "find" := nm_of (by decide +kernel)
theorem nm_fact : IsNm "fact" := nm_of (by decide +kernel)
theorem nms_cons {z : Str} {r : List Str} (a : IsNm z) (b : Nms r) : Nms (z :: r) := fun y hy => by
  rcases List.mem_cons.mp hy with rfl | hy
  · exact a
  · exact b y hy
theorem lines_ne {zs : List Str} (h : zs ≠ []) : lines zs ≠ "" := fun e => by
  have h1 := congrArg Str.length e
  cases zs with
  | nil => exact h rfl
  | cons z zs =>
    unfold lines at h1
    rw [TL.join_eq, TL.len_tl, TL.tl_join] at h1
    have e0 : ("" : Str).length = 0 := rfl
    rw [e0] at h1
    cases zs with
    | nil =>
      have h1 : (TL.tl (z ++ nlS)).length = 0 := h1
      rw [← TL.len_tl, app_len, show nlS.length = 1 from rfl] at h1
      omega
    | cons y ys =>
      have h1 : (TL.tl (z ++ nlS) ++ (TL.tl "" ++ TL.joinL (TL.tl "") ((List.map (fun z => z ++ nlS) (y :: ys)).map TL.tl))).length = 0 := h1
      rw [List.length_append, ← TL.len_tl, app_len, show nlS.length = 1 from rfl] at h1
      omega
section
variable {P : Program} {w : World} {K : PySem.W.Frag} {mg : Str → Option Value} {base : Heap}
/-! fault_of_finds -/
abbrev fFaultFinds : DSpec := fun ws P => ∃ fs, ws = [wl ("finds" :: fs)] ∧ IsLot fs ∧ fs.length ≤ 12 ∧ P (.str "")
theorem sc_fault_of_finds : FnScope ["row"] ["row"] (C8.fnScope (top 30)) := C8.fnScope_by (by decide +kernel)
theorem ok_fault_of_finds (G : GDef K mg "fault_of_finds" (top 30)) (T : Txt K mg) (T2 : Tx2 K mg) (c1 : C8.Cal P w K mg base 2 "is_lot" (spD fIsLot) []) : C8.Cal P w K mg base 3 "fault_of_finds" (spD fFaultFinds) [] := by
  have nd := sc_fault_of_finds.nd
  refine cal_D G sc_fault_of_finds (fun _ _ _ _ _ _ us hl => match us, hl with | [_], _ => rfl) (fun ws P ⟨fs, e, _⟩ => by rw [e]; rfl) fun f cdv A outer s H E ex T' ws P' hr h => ?_
  obtain ⟨fs, rfl, hf, h12, p⟩ := h
  repeat walk_at "k"
  refine we_c c1 ‹Room _ _› (by decide) rfl ?_
  repeat walk_at "k"
  refine ⟨hf, ?_⟩
  repeat walk_at "k"
  refine ifDn (by rw [strs_len, List.length_cons]; omega) ?_
  repeat walk_at "k"
  exact p
/-! fault_of_word -/
abbrev wRow (q : Str × List Str) : List Str := "word" :: q.1 :: q.2
abbrev fFaultWord : DSpec := fun ws P => ∃ (fs : List Str) (q : Str × List Str) (qs : List (Str × List Str)), ws = [wl (wRow q), wl fs, .lst (qs.map wWord)] ∧ IsWord fs q ∧ q.1 ∉ qs.map (·.1) ∧ qs.length < 40 ∧ P (.str "")
theorem sc_fault_of_word : FnScope ["row", "finds", "earlier", "mark", "lot"] ["row", "finds", "earlier"] (C8.fnScope (top 31)) := C8.fnScope_by (by decide +kernel)
theorem ok_fault_of_word (G : GDef K mg "fault_of_word" (top 31)) (T : Txt K mg) (T2 : Tx2 K mg) (c0 : C8.Cal P w K mg base 1 "is_name" (spD fIsName) []) (c1 : C8.Cal P w K mg base 2 "is_lot" (spD fIsLot) []) (c2 : C8.Cal P w K mg base 3 "is_lot_of" (spD fIsLotOf) []) : C8.Cal P w K mg base 4 "fault_of_word" (spD fFaultWord) [] := by
  have nd := sc_fault_of_word.nd
  refine cal_D G sc_fault_of_word (fun _ _ _ _ _ _ us hl => match us, hl with | [_, _, _], _ => rfl) (fun ws P ⟨fs, q, qs, e, _⟩ => by rw [e]; rfl) fun f cdv A outer s H E ex T' ws P' hr h => ?_
  obtain ⟨fs, q, qs, rfl, hq, hm, h40, p⟩ := h
  have hlen : (qs.map wWord).length = qs.length := by simp
  have hl := List.length_pos_iff.mpr hq.lot.ne
  repeat walk_at "k"
  refine ifDn (by rw [strs_len, List.length_cons, List.length_cons]; omega) ?_
  repeat walk_at "k"
  refine we_c c0 ‹Room _ _› (by decide) rfl ?_
  repeat walk_at "k"
  refine ⟨hq.nm, ?_⟩
  repeat walk_at "k"
  refine we_c c1 ‹Room _ _› (by decide) rfl ?_
  repeat walk_at "k"
  refine ⟨hq.lot, ?_⟩
  repeat walk_at "k"
  refine ifDn (by rw [hlen]; omega) ?_
  repeat walk_at "k"
  refine we_lc [("mark", 3), ("lot", 4)] rfl nd (blkOk_by (own := [("mark", 3), ("lot", 4)]) (N := ["row", "finds", "earlier", "mark", "lot"]) (sc := C8.fnScope (top 31)) (by decide +kernel)) (wlc_M (x_iterL ?_))
  repeat walk_at "k"
  refine ⟨by rw [hlen]; exact line_of (by omega), fun _ d => match d with | .tup [x, _] => x | _ => .non, fun i d hd Dd => ?_, ?_⟩
  · obtain ⟨q, hq', rfl⟩ := words_get hd
    repeat walk_at "k"
    rfl
  rw [map_idx_eq (h := fun q => W.str q.1) (fun _ _ _ => rfl), show qs.map (fun q => W.str q.1) = (qs.map (·.1)).map W.str by rw [List.map_map]; rfl]
  refine ⟨_, rfl, ?_⟩
  refine ifDn hm ?_
  repeat walk_at "k"
  refine we_c c2 ‹Room _ _› (by decide) rfl ?_
  repeat walk_at "k"
  refine ⟨fs, q.2, wl fs, rfl, .inl rfl, hq.lot, hq.sub, ?_⟩
  repeat walk_at "k"
  exact p
/-! read_rows -/
abbrev bookRows (fs : List Str) (qs : List (Str × List Str)) : List (List Str) := ("finds" :: fs) :: qs.map wRow
theorem book_rows {fs : List Str} {qs : List (Str × List Str)} (hf : IsLot fs) (h12 : fs.length ≤ 12) (hq : IsWords fs qs) : ∀ r ∈ bookRows fs qs, IsRow r := fun r hr => by
  rcases List.mem_cons.mp hr with rfl | hr
  · exact ⟨nms_cons nm_finds hf.nm, by simp, by rw [List.length_cons]; omega⟩
  · obtain ⟨q, hq', rfl⟩ := List.mem_map.mp hr
    have hw := hq.wd q hq'
    have : q.2.length ≤ fs.length := by
      have : q.2.Nodup := hw.lot.asc.imp fun h e => by rw [e] at h; exact absurd h (List.lt_irrefl _)
      exact List.Nodup.length_le_of_subset this hw.sub
    exact ⟨nms_cons nm_word (nms_cons hw.nm hw.lot.nm), by simp, by rw [List.length_cons, List.length_cons]; omega⟩
abbrev fReadRows : DSpec := fun ws P => ∃ fs qs, ws = [.str (rowsT (bookRows fs qs))] ∧ IsLot fs ∧ fs.length ≤ 12 ∧ IsWords fs qs ∧ P (.tup [wl fs, .lst (qs.map wWord)])
theorem sc_read_rows : FnScope ["text", "lines", "tail", "finds", "words", "at", "line", "row"] ["text"] (C8.fnScope (top 32)) := C8.fnScope_by (by decide +kernel)
theorem ok_read_rows (G : GDef K mg "read_rows" (top 32)) (T : Txt K mg) (c1 : C8.Cal P w K mg base 1 "split_lines" (spD fSplitLines) []) (c2 : C8.Cal P w K mg base 1 "need_line" (spD fNeedLine) []) (c3 : C8.Cal P w K mg base 1 "check_line" (spD fCheckLine) [])
    (c4 : C8.Cal P w K mg base 1 "check_tail" (spD fCheckTail) []) (c5 : C8.Cal P w K mg base 3 "fault_of_finds" (spD fFaultFinds) []) (c6 : C8.Cal P w K mg base 4 "fault_of_word" (spD fFaultWord) []) : C8.Cal P w K mg base 5 "read_rows" (spD fReadRows) [] := by
  have nd := sc_read_rows.nd
  refine cal_D G sc_read_rows (fun _ _ _ _ _ _ us hl => match us, hl with | [_], _ => rfl) (fun ws P ⟨fs, qs, e, _⟩ => by rw [e]; rfl) fun f cdv A outer s H E ex T' ws P' hr h => ?_
  obtain ⟨fs, qs, rfl, hf, h12, hq, p⟩ := h
  have hrows := book_rows hf h12 hq
  have hln : Lns ((bookRows fs qs).map rowT) := rows_lns hrows (by rw [List.length_cons, List.length_map]; have := hq.len; omega)
  repeat walk_at "k"
  refine vs_asg [1, 2] rfl rfl rfl ?_
  refine we_c c1 ‹Room _ _› (by decide) rfl ?_
  repeat walk_at "k"
  refine ⟨hln, ?_⟩
  repeat walk_at "k"
  refine ws_expr (we_c c2 ‹Room _ _› (by decide) rfl ?_) rfl
  repeat walk_at "k"
  refine ⟨lines_ne (by simp), ?_⟩
  repeat walk_at "k"
  refine vs_par0 3 4 rfl nd rfl rfl (by decide) rfl rfl (by rfl) fun l => ?_
  repeat walk_at "k"
  refine ws_for [5, 6] PassesOwn.never rfl (x_enum ‹Txt _ _› rfl rfl ?_)
  repeat walk_at "k"
  refine ⟨fun i c1 => ∃ r5 r6 r7 : Option Th, c1 = ⟨[some (.dat (.str (rowsT (bookRows fs qs)))), some (.dat (wl ((bookRows fs qs).map rowT))), some (.dat (.str "")), some (.dat (if i = 0 then .lst [] else wl fs)), some (.adr l), r5, r6, r7], [(l, .lst ((qs.take (i - 1)).map wWord))], none, ex, T'⟩, ⟨_, _, _, rfl⟩, fun i c1' d hd ⟨r5, r6, r7, e⟩ => ?_, fun c1' ⟨r5, r6, r7, e⟩ => ?_⟩
  · subst e
    obtain ⟨z, hz, rfl⟩ := enumS_get hd
    rw [List.getElem?_map] at hz
    obtain ⟨r, hr', rfl⟩ : ∃ r, (bookRows fs qs)[i]? = some r ∧ z = rowT r := by
      cases q : (bookRows fs qs)[i]? with
      | none => rw [q] at hz; cases hz
      | some r => rw [q] at hz; cases hz; exact ⟨r, rfl, rfl⟩
    have hrow := hrows r (List.mem_of_getElem? hr')
    repeat walk_at "k"
    refine ⟨line6 (by have := row_len hrow; omega), ?_⟩
    rw [row_split hrow]
    repeat walk_at "k"
    cases i with
    | zero =>
      have e : r = (("finds" : Str) :: fs) := by simpa using hr'.symm
      subst e
      refine ws_expr (we_c c3 ‹Room _ _› (by decide) rfl ?_) rfl
      repeat walk_at "k"
      refine we_c c5 ‹Room _ _› (by decide) rfl ?_
      repeat walk_at "k"
      refine ⟨hf, h12, ?_⟩
      repeat walk_at "k"
      repeat walk_at "k"
      exact ⟨_, _, _, rfl⟩
    | succ i =>
      have hr2 : (qs.map wRow)[i]? = some r := by simpa using hr'
      rw [List.getElem?_map] at hr2
      obtain ⟨q, hq', rfl⟩ : ∃ q, qs[i]? = some q ∧ r = wRow q := by
        cases z : qs[i]? with
        | none => rw [z] at hr2; cases hr2
        | some q => rw [z] at hr2; cases hr2; exact ⟨q, rfl, rfl⟩
      have hlt : i < qs.length := (List.getElem?_eq_some_iff.mp hq').1
      have h40 := hq.len
      have hnot : q.1 ∉ (qs.take i).map (·.1) := by
        rw [List.map_take]
        exact not_before hq.nd (by rw [List.getElem?_map, hq']; rfl)
      refine ws_expr (v_borrow 4 rfl (we_c c3 ‹Room _ _› (by decide) rfl ?_)) rfl
      repeat walk_at "k"
      refine we_c c6 ‹Room _ _› (by decide) rfl ?_
      repeat walk_at "k"
      refine ⟨fs, q, qs.take i, rfl, hq.wd q (List.mem_of_getElem? hq'), hnot, by rw [List.length_take]; omega, ?_⟩
      repeat walk_at "k"
      refine ⟨⟨_, rfl⟩, ?_⟩
      repeat walk_at "k"
      refine vs_append 4 rfl (.inl rfl) rfl ?_ (fun a b => ps_expr (pe_bm PySem.F.plainAttrs_list PySem.F.slot_list_append PySem.F.type_list_append mt_append a (pa_cons b pa_nil)))
      repeat walk_at "k"
      refine ⟨line6 (by rw [List.length_map, List.length_take]; omega), ?_⟩
      repeat walk_at "k"
      have e : (qs.take (i + 1 + 1 - 1)).map wWord = (qs.take (i + 1 - 1)).map wWord ++ [wWord q] := by
        rw [show i + 1 + 1 - 1 = i + 1 from rfl, show i + 1 - 1 = i from rfl, List.take_add_one, hq', List.map_append]
        rfl
      dsimp only
      rw [e]
      exact ⟨_, _, _, rfl⟩
  · subst e
    have hn : (enumW (((bookRows fs qs).map rowT).map W.str)).length = qs.length + 1 := by rw [enumW_len, List.length_map, List.length_map, List.length_cons, List.length_map]
    rw [hn, show qs.length + 1 - 1 = qs.length from rfl, List.take_length, if_neg (by omega)]
    refine v_freeze 4 rfl ?_
    repeat walk_at "k"
    refine ws_expr (we_c c4 ‹Room _ _› (by decide) rfl ?_) rfl
    repeat walk_at "k"
    exact p
end
end K11
/-! PD5 -/
namespace K11
open PySem PySem.Spec PyProof.Rows L2
local macro_rules | `(tactic| walk_at "n") => `(tactic| first
  | refine we_name 0 rfl (by first | exact .inl rfl | exact .inr (.inl rfl) | exact .inr (.inr rfl)) rfl ?_
  | refine we_name 1 rfl (by first | exact .inl rfl | exact .inr (.inl rfl) | exact .inr (.inr rfl)) rfl ?_
  | refine we_name 2 rfl (by first | exact .inl rfl | exact .inr (.inl rfl) | exact .inr (.inr rfl)) rfl ?_
  | refine we_name 3 rfl (by first | exact .inl rfl | exact .inr (.inl rfl) | exact .inr (.inr rfl)) rfl ?_
  | refine we_name 4 rfl (by first | exact .inl rfl | exact .inr (.inl rfl) | exact .inr (.inr rfl)) rfl ?_
  | refine we_name 5 rfl (by first | exact .inl rfl | exact .inr (.inl rfl) | exact .inr (.inr rfl)) rfl ?_
  | refine we_name 6 rfl (by first | exact .inl rfl | exact .inr (.inl rfl) | exact .inr (.inr rfl)) rfl ?_
  | refine we_name 7 rfl (by first | exact .inl rfl | exact .inr (.inl rfl) | exact .inr (.inr rfl)) rfl ?_
  | refine we_name 8 rfl (by first | exact .inl rfl | exact .inr (.inl rfl) | exact .inr (.inr rfl)) rfl ?_
  | refine we_name 9 rfl (by first | exact .inl rfl | exact .inr (.inl rfl) | exact .inr (.inr rfl)) rfl ?_
  | refine we_name 10 rfl (by first | exact .inl rfl | exact .inr (.inl rfl) | exact .inr (.inr rfl)) rfl ?_
  | refine we_name 11 rfl (by first | exact .inl rfl | exact .inr (.inl rfl) | exact .inr (.inr rfl)) rfl ?_
  | refine we_name 12 rfl (by first | exact .inl rfl | exact .inr (.inl rfl) | exact .inr (.inr rfl)) rfl ?_
  | refine we_name 13 rfl (by first | exact .inl rfl | exact .inr (.inl rfl) | exact .inr (.inr rfl)) rfl ?_
  | refine we_gint rfl (Txt.mLetters ‹_›) ?_
  | refine we_gstr rfl (Txt.letters ‹_›) ?_
  | refine we_gint rfl (Tx2.mFB ‹_›) ?_
  | refine we_gint rfl (Tx2.mW ‹_›) ?_
  | refine we_gint rfl (Tx2.mF ‹_›) ?_
  | refine we_gint rfl (Tx2.mFT ‹_›) ?_
  | refine we_gint rfl (Tx2.mK ‹_›) ?_)
local macro_rules | `(tactic| walk_at "cmp") => `(tactic| first
  | refine xt_eq ‹Room _ _› ?_
  | refine xt_ne ‹Room _ _› ?_
  | refine xt_lt ?_
  | refine xt_le ?_
  | refine xt_gt ?_
  | refine xt_ge ?_
  | refine wt_isN ?_
  | refine xt_in rfl ?_
  | refine xt_nin rfl ?_
  | refine x_chain (by with_unfolding_all rfl) ?_)
local macro_rules | `(tactic| walk_at "ecmp") => `(tactic| first
  | refine xe_eq ‹Room _ _› ?_
  | refine xe_ne ‹Room _ _› ?_
  | refine xe_lt ?_
  | refine xe_le ?_
  | refine xe_gt ?_
  | refine xe_ge ?_
  | refine we_isN ?_
  | refine xe_in rfl ?_
  | refine xe_nin rfl ?_)
local macro_rules | `(tactic| walk_at "t") => `(tactic| first
  | (show WT _ _ (.Compare _ _ _ _) _; walk_at "cmp")
  | refine wt_or ?_
  | refine wt_and ?_
  | refine wt_not ?_
  | refine x_val (by intro _; rfl) ?_)
local macro_rules | `(tactic| walk_at "b") => `(tactic| first
  | refine xe_len ‹Txt _ _› rfl rfl ?_
  | refine x_isi_str ‹Txt _ _› rfl rfl rfl rfl ?_
  | refine x_isi_tup ‹Txt _ _› rfl rfl rfl rfl ?_
  | refine x_isi_lst ‹Txt _ _› rfl rfl rfl rfl ?_
  | refine x_isi_bool ‹Txt _ _› rfl rfl rfl rfl ?_
  | refine x_isi_int ‹Txt _ _› rfl rfl rfl rfl ?_
  | refine x_isi_lt ‹Txt _ _› rfl rfl rfl rfl rfl ?_
  | refine x_all ‹Txt _ _› rfl rfl rfl ?_
  | refine x_tuple ‹Txt _ _› rfl rfl ?_
  | refine x_list ‹Txt _ _› rfl rfl ?_
  | refine x_sorted ‹Txt _ _› rfl rfl ?_
  | refine x_str ‹Txt _ _› rfl rfl ?_
  | refine x_int ‹Txt _ _› rfl rfl ?_
  | refine x_min ‹Txt _ _› rfl rfl rfl rfl rfl ?_)
local macro_rules | `(tactic| walk_at "e") => `(tactic| first
  | (show WE _ _ (.Name _ _) _; walk_at "n")
  | (show WE _ _ (.Constant _ _ _) _; first | refine we_int ?_ | refine we_str ?_ | refine we_bl ?_ | refine we_non ?_)
  | (show WE _ _ (.Call (.Name _ _) _ _ _) _; walk_at "b")
  | (show WE _ _ (.Compare _ _ _ _) _; walk_at "ecmp")
  | (show WE _ _ (.Subscript _ _ _) _; first | refine xe_sl ?_ | refine xe_ix (fun _ _ => rfl) ?_)
  | (show WE _ _ (.BinOp _ _ _ _) _; first | refine xe_add ?_ | refine xe_sub ?_ | refine xe_mul ?_ | refine xe_mod ?_ | refine xe_fdiv ?_)
  | (show WE _ _ (.Call (.Attribute _ _ _) _ _ _) _; first | refine x_split rfl rfl rfl ?_ | refine x_join rfl rfl rfl ?_)
  | refine we_lst (k := 0) ?_
  | refine we_tup (k := _) ?_
  | refine we_if ?_
  | refine x_and ?_
  | refine x_or ?_
  | refine we_one ?_
  | refine x_not ?_
  | refine x_fstr2 ?_)
local macro_rules | `(tactic| walk_at "ss") => `(tactic| first
  | refine vs_set 0 ‹List.Nodup _› rfl (by first | exact .inl rfl | exact .inr rfl) (by first | exact .inl rfl | exact .inr rfl) rfl ?_
  | refine vs_set 1 ‹List.Nodup _› rfl (by first | exact .inl rfl | exact .inr rfl) (by first | exact .inl rfl | exact .inr rfl) rfl ?_
  | refine vs_set 2 ‹List.Nodup _› rfl (by first | exact .inl rfl | exact .inr rfl) (by first | exact .inl rfl | exact .inr rfl) rfl ?_
  | refine vs_set 3 ‹List.Nodup _› rfl (by first | exact .inl rfl | exact .inr rfl) (by first | exact .inl rfl | exact .inr rfl) rfl ?_
  | refine vs_set 4 ‹List.Nodup _› rfl (by first | exact .inl rfl | exact .inr rfl) (by first | exact .inl rfl | exact .inr rfl) rfl ?_
  | refine vs_set 5 ‹List.Nodup _› rfl (by first | exact .inl rfl | exact .inr rfl) (by first | exact .inl rfl | exact .inr rfl) rfl ?_
  | refine vs_set 6 ‹List.Nodup _› rfl (by first | exact .inl rfl | exact .inr rfl) (by first | exact .inl rfl | exact .inr rfl) rfl ?_
  | refine vs_set 7 ‹List.Nodup _› rfl (by first | exact .inl rfl | exact .inr rfl) (by first | exact .inl rfl | exact .inr rfl) rfl ?_
  | refine vs_set 8 ‹List.Nodup _› rfl (by first | exact .inl rfl | exact .inr rfl) (by first | exact .inl rfl | exact .inr rfl) rfl ?_
  | refine vs_set 9 ‹List.Nodup _› rfl (by first | exact .inl rfl | exact .inr rfl) (by first | exact .inl rfl | exact .inr rfl) rfl ?_
  | refine vs_set 10 ‹List.Nodup _› rfl (by first | exact .inl rfl | exact .inr rfl) (by first | exact .inl rfl | exact .inr rfl) rfl ?_
  | refine vs_set 11 ‹List.Nodup _› rfl (by first | exact .inl rfl | exact .inr rfl) (by first | exact .inl rfl | exact .inr rfl) rfl ?_)
local macro_rules | `(tactic| walk_at "gn") => `(tactic| first
  | refine vg_name 0 ‹List.Nodup _› rfl (by first | exact .inl rfl | exact .inr rfl) (by first | exact .inl rfl | exact .inr rfl) (by decide) ?_
  | refine vg_name 1 ‹List.Nodup _› rfl (by first | exact .inl rfl | exact .inr rfl) (by first | exact .inl rfl | exact .inr rfl) (by decide) ?_
  | refine vg_name 2 ‹List.Nodup _› rfl (by first | exact .inl rfl | exact .inr rfl) (by first | exact .inl rfl | exact .inr rfl) (by decide) ?_
  | refine vg_name 3 ‹List.Nodup _› rfl (by first | exact .inl rfl | exact .inr rfl) (by first | exact .inl rfl | exact .inr rfl) (by decide) ?_
  | refine vg_name 4 ‹List.Nodup _› rfl (by first | exact .inl rfl | exact .inr rfl) (by first | exact .inl rfl | exact .inr rfl) (by decide) ?_
  | refine vg_name 5 ‹List.Nodup _› rfl (by first | exact .inl rfl | exact .inr rfl) (by first | exact .inl rfl | exact .inr rfl) (by decide) ?_
  | refine vg_name 6 ‹List.Nodup _› rfl (by first | exact .inl rfl | exact .inr rfl) (by first | exact .inl rfl | exact .inr rfl) (by decide) ?_
  | refine vg_name 7 ‹List.Nodup _› rfl (by first | exact .inl rfl | exact .inr rfl) (by first | exact .inl rfl | exact .inr rfl) (by decide) ?_
  | refine vg_name 8 ‹List.Nodup _› rfl (by first | exact .inl rfl | exact .inr rfl) (by first | exact .inl rfl | exact .inr rfl) (by decide) ?_
  | refine vg_name 9 ‹List.Nodup _› rfl (by first | exact .inl rfl | exact .inr rfl) (by first | exact .inl rfl | exact .inr rfl) (by decide) ?_
  | refine vg_name 10 ‹List.Nodup _› rfl (by first | exact .inl rfl | exact .inr rfl) (by first | exact .inl rfl | exact .inr rfl) (by decide) ?_
  | refine vg_name 11 ‹List.Nodup _› rfl (by first | exact .inl rfl | exact .inr rfl) (by first | exact .inl rfl | exact .inr rfl) (by decide) ?_)
local macro_rules | `(tactic| walk_at "k") => `(tactic| first
  | (with_reducible show IntW _ _; refine int_i ?_)
  | (with_reducible show StrW _ _; refine str_i ?_)
  | (with_reducible show LstW _ _; refine lst_i ?_)
  | (with_reducible show TupW _ _; refine tup_i ?_)
  | (with_reducible show BlW _ _; refine bl_i ?_)
  | (with_reducible show SeqW _ _; first | refine seqL_i ?_ | refine seqT_i ?_)
  | (with_reducible show LenW _ _; first | refine lenL_i ?_ | refine lenT_i ?_)
  | (with_reducible show IxW _ _ _; first | refine ixL_i 0 rfl rfl ?_ | refine ixL_i 1 rfl rfl ?_ | refine ixL_i 2 rfl rfl ?_ | refine ixT_i 0 rfl rfl ?_ | refine ixT_i 1 rfl rfl ?_)
  | (with_reducible show SlW _ _ _ _; first | refine slL_from 1 rfl ?_ | refine slL_from 2 rfl ?_ | refine slT_from 1 rfl ?_)
  | (show WE _ _ _ _; walk_at "e")
  | (show WT _ _ _ _; walk_at "t")
  | (show WSs _ _ _ _ _; first | refine wss_cons ?_ | refine wss_nil ?_)
  | (show WS _ _ _ _ _; first | refine ws_if ?_ | refine ws_ret ?_ | refine ws_retN ?_ | (show WS _ _ (.Assign [.Name _ _] _ _) _ _; walk_at "ss"))
  | (show WG _ _ _ _ _ _; first | refine xg_tup rfl rfl rfl ?_ | walk_at "gn")
  | (show WGs _ _ _ _ _ _; first | refine vgs_cons rfl ?_ | refine vgs_nil ?_)
  | (show WAs _ _ _ _; first | refine wa_nil ?_ | refine wa_star ?_ | refine wa_cons ?_)
  | (show WTw _ _ _ _; first | refine ww_or ?_ | refine ww_and ?_ | refine ww_or1 ?_ | refine ww_and1 ?_)
  | (show WO _ _ _ _; first | refine wo_none ?_ | refine wo_int ?_)
  | refine fam_i fun _ _ _ _ _ => ?_
  | refine iteT ?_
  | refine iteF ?_
  | refine ⟨rfl, ?_⟩
  | refine ⟨_, rfl, ?_⟩
  | refine ⟨lit_line rfl, ?_⟩)
/-! ### data that are equal -/
theorem pys_map {α : Type} (g : α → W) : ∀ l : List α, W.pys (l.map g) = l.map fun a => (g a).py
  | [] => by rw [List.map_nil, W.pys]; rfl
  | a :: l => by rw [List.map_cons, W.pys, pys_map g l]; rfl
theorem oks_map {α : Type} (g : α → W) (h : ∀ a, (g a).ok = true) : ∀ l : List α, W.oks (l.map g) = true
  | [] => by rw [List.map_nil, W.oks]
  | a :: l => by rw [List.map_cons, W.oks, oks_map g h l, h a]; rfl
theorem lay_map {α : Type} (g : α → PyData) (l : List α) (h : ∀ a ∈ l, (g a).canLay0 = true) : PyData.canLayAll0 (l.map g) = true := by
  induction l with
  | nil => rw [List.map_nil, PyData.canLayAll0]
  | cons a l ih =>
    rw [List.map_cons, PyData.canLayAll0, h a List.mem_cons_self, ih fun b hb => h b (List.mem_cons_of_mem _ hb)]
    rfl
theorem dep_map {α : Type} (g : α → PyData) (n : Nat) (l : List α) (h : ∀ a ∈ l, (g a).depth ≤ n) : PyData.depthAll (l.map g) ≤ n := by
  induction l with
  | nil => rw [List.map_nil, PyData.depthAll]; exact Nat.zero_le _
  | cons a l ih =>
    rw [List.map_cons, PyData.depthAll]
    exact Nat.max_le.mpr ⟨h a List.mem_cons_self, ih fun b hb => h b (List.mem_cons_of_mem _ hb)⟩
theorem nm_ok {z : Str} (h : IsNm z) : PyData.strOk z = true := by
  unfold PyData.strOk
  rw [Array.all_eq_true]
  intro i hi
  have := h.2.2 z.cps[i] (by rw [Array.mem_toList_iff]; exact Array.getElem_mem hi)
  simp
  omega
section
variable {zs : List Str} {qs : List (Str × List Str)}
theorem str_ok (z : Str) : (W.str z).ok = true := by rw [W.ok] <;> simp
theorem ok_wt : (wt zs).ok = true := by rw [W.ok]; exact oks_map _ str_ok zs
theorem py_wt : (wt zs).py = .tuple (zs.map PyData.str) := by rw [W.py, pys_map]; congr 1
theorem lay_wt (h : Nms zs) : (wt zs).py.canLay0 = true := by
  rw [py_wt, PyData.canLay0]
  exact lay_map _ _ fun z hz => by rw [PyData.canLay0]; exact nm_ok (h z hz)
theorem dep_wt : (wt zs).py.depth ≤ 1 := by
  rw [py_wt, PyData.depth]
  have := dep_map PyData.str 0 zs fun z _ => by rw [PyData.depth]; exact Nat.le_refl _
  omega
theorem ok_word (q : Str × List Str) : (wWord q).ok = true := by
  rw [W.ok, W.oks, W.oks, W.oks, str_ok, ok_wt]
  rfl
theorem lay_word {q : Str × List Str} (h1 : IsNm q.1) (h2 : Nms q.2) : (wWord q).py.canLay0 = true := by
  rw [W.py, W.pys, W.pys, W.pys, PyData.canLay0, PyData.canLayAll0, PyData.canLayAll0, PyData.canLayAll0, lay_wt h2, W.py, PyData.canLay0, nm_ok h1]
  rfl
theorem dep_word {q : Str × List Str} : (wWord q).py.depth ≤ 2 := by
  rw [W.py, W.pys, W.pys, W.pys, PyData.depth, PyData.depthAll, PyData.depthAll, PyData.depthAll, W.py, PyData.depth]
  have := @dep_wt q.2
  omega
theorem shp_of {d : PyData} (h : d.canLay0 = true) (h2 : d.depth ≤ 10) : SeqAt.shaped d = true := by
  unfold SeqAt.shaped
  rw [h]
  simp
  omega
theorem eqv_wt (h : Nms zs) : PyData.eqv (wt zs).py (wt zs).py = true := SeqAt.eqv_refl _ (lay_wt h)
theorem shp_wt (h : Nms zs) : SeqAt.shaped (wt zs).py = true := shp_of (lay_wt h) (by have := @dep_wt zs; omega)
abbrev wWords (qs : List (Str × List Str)) : W := .tup (qs.map wWord)
theorem lay_words {fs : List Str} (h : IsWords fs qs) : (wWords qs).py.canLay0 = true := by
  rw [W.py, pys_map, PyData.canLay0]
  exact lay_map _ _ fun q hq => lay_word (h.wd q hq).nm (h.wd q hq).lot.nm
theorem dep_words : (wWords qs).py.depth ≤ 3 := by
  rw [W.py, pys_map, PyData.depth]
  have := dep_map (fun q => (wWord q).py) 2 qs fun q _ => dep_word
  omega
end
/-- (wt zs) == (wt zs) -/
theorem eqW_wt {zs : List Str} (h : Nms zs) {P : Bool → Prop} (p : P true) : EqW (wt zs) (wt zs) P := ⟨oks_map _ str_ok zs, oks_map _ str_ok zs, shp_wt h, shp_wt h, by rw [eqv_wt h]; exact p⟩
theorem eqW_words {fs : List Str} {qs : List (Str × List Str)} (h : IsWords fs qs) {P : Bool → Prop} (p : P true) : EqW (wWords qs) (wWords qs) P :=
  have s := shp_of (lay_words h) (by have := @dep_words qs; omega)
  ⟨oks_map _ ok_word qs, oks_map _ ok_word qs, s, s, by rw [show PyData.eqv (wWords qs).py (wWords qs).py = true from SeqAt.eqv_refl _ (lay_words h)]; exact p⟩
/-! ### class Book -/
structure BkF (K : PySem.W.Frag) (mg : Str → Option Value) (CB : Addr) : Prop where
  cl : Cls K CB
  ic : C8.InsC K CB
  nf : NoAttr K CB "own_finds"
  nw : NoAttr K CB "own_words"
  g : mg "Book" = some (.ref CB)
abbrev wBook (CB : Addr) (fs : List Str) (qs : List (Str × List Str)) : W := .ins CB [("own_finds", wt fs), ("own_words", wWords qs)]
theorem vs_self {X : Cx} {ρ : List (Option Th)} {st : Option (Addr × Addr)} {ex : List Addr} {T : List (Addr × Str)} {N : Cn → Prop} {R : W → Prop} {e : Expr} {pos : Pos} (i : Nat) {x f : Str} {px apos : Pos} {l C dx : Addr} {fs : List (Str × W)} (hN : X.N[i]? = some x) (hv : Vis X.env.scope x) (g : ρ[i]? = some (some (.adr l)))
    (cl : Cls X.K C) (na : NoAttr X.K C f) (hnew : fs.lookup f = none) (hlen : fs.length < 1000) (hs : swapsWith e (some (.Attribute (.Name x px) f apos)) pos.line X.env = pure false)
    (h : WE X ⟨ρ, [(l, .ins C dx fs)], st, ex, T⟩ e (fun w => N ⟨ρ, [(l, .ins C dx (fs ++ [(f, w)]))], st, ex, T⟩)) 
    (hd : (x == ("__debug__" : Str)) = false := by decide) (hcd : (x == ("__classdict__" : Str)) = false := by decide) : WS X ⟨ρ, [(l, .ins C dx fs)], st, ex, T⟩ (.Assign [.Attribute (.Name x px) f apos] e pos) N R :=
  ws_self (c := ⟨ρ, [(l, .ins C dx fs)], st, ex, T⟩) i hN hv g (μ1 := []) (μ2 := []) rfl cl na hnew hlen h hs hd hcd
section
variable {P : Program} {w : World} {K : PySem.W.Frag} {mg : Str → Option Value} {base : Heap} {CB : Addr}
abbrev fBookInit : ISpec := fun ws PF => ∃ (fs fs' : List Str) (u : W) (qs : List (Str × List Str)), ws = [u, .lst (qs.map wWord)] ∧ (u = wl fs ∨ u = wt fs) ∧ IsFinds fs ∧ Asc fs' ∧ (∀ z, z ∈ fs' ↔ z ∈ fs) ∧ IsWords fs qs ∧ PF [("own_finds", wt fs'), ("own_words", wWords qs)]
theorem sc_book_init : FnScope ["self", "finds", "words"] ["self", "finds", "words"] (C8.fnScope (mth 33 0)) := C8.fnScope_by (by decide +kernel)
theorem ok_book_init (G : IDef K mg "Book" CB "Book.__init__" (mth 33 0) ["self", "finds", "words"]) (B : BkF K mg CB) (T : Txt K mg) (c1 : C8.Cal P w K mg base 2 "check_finds" (spD fCheckFinds) []) (c2 : C8.Cal P w K mg base 5 "check_words" (spD fCheckWords) []) : C8.Mak P w K mg base 6 "Book" CB (spI CB fBookInit) [] := by
  have nd := sc_book_init.nd
  refine mak_D G sc_book_init (fun ws P ⟨fs, fs', u, qs, e, _⟩ => by rw [e]; rfl) (by simp) fun f cdv A outer s H E l dx ex T' ws P' hr h => ?_
  obtain ⟨fs, fs', u, qs, rfl, hu, hf, hasc, hm, hq, p⟩ := h
  have hsort : ∀ ys : List Str, Asc ys → (∀ z, z ∈ ys ↔ z ∈ fs) → ys = fs' := fun ys h1 h2 => asc_uniq h1 hasc fun z => (h2 z).trans (hm z).symm
  refine wss_cons (ws_expr (we_c c1 ‹Room _ _› (by decide) rfl ?_) rfl)
  repeat walk_at "k"
  refine ⟨fs, u, rfl, hu, hf, ?_⟩
  refine wss_cons (ws_expr (we_c c2 ‹Room _ _› (by decide) rfl ?_) rfl)
  repeat walk_at "k"
  refine ⟨fs, u, qs, rfl, hu, hq, ?_⟩
  refine wss_cons (vs_self 0 rfl (.inl rfl) rfl B.cl B.nf rfl (by decide) rfl ?_)
  refine x_tuple ‹Txt _ _› rfl rfl (x_sortSet ‹Txt _ _› rfl rfl rfl rfl rfl ?_)
  repeat walk_at "n"
  refine ⟨fs, hu, by have := hf.len; omega, fun ys h1 h2 => ?_⟩
  rw [hsort ys h1 h2]
  refine wss_cons (vs_self 0 rfl (.inl rfl) rfl B.cl B.nw rfl (by show 1 < 1000; decide) rfl ?_)
  repeat walk_at "k"
  exact p
end
end K11
/-! PD6 -/
namespace K11
open PySem PySem.Spec PyProof.Rows L2
local macro_rules | `(tactic| walk_at "n") => `(tactic| first
  | refine we_name 0 rfl (by first | exact .inl rfl | exact .inr (.inl rfl) | exact .inr (.inr rfl)) rfl ?_
  | refine we_name 1 rfl (by first | exact .inl rfl | exact .inr (.inl rfl) | exact .inr (.inr rfl)) rfl ?_
  | refine we_name 2 rfl (by first | exact .inl rfl | exact .inr (.inl rfl) | exact .inr (.inr rfl)) rfl ?_
  | refine we_name 3 rfl (by first | exact .inl rfl | exact .inr (.inl rfl) | exact .inr (.inr rfl)) rfl ?_
  | refine we_name 4 rfl (by first | exact .inl rfl | exact .inr (.inl rfl) | exact .inr (.inr rfl)) rfl ?_
  | refine we_name 5 rfl (by first | exact .inl rfl | exact .inr (.inl rfl) | exact .inr (.inr rfl)) rfl ?_
  | refine we_name 6 rfl (by first | exact .inl rfl | exact .inr (.inl rfl) | exact .inr (.inr rfl)) rfl ?_
  | refine we_name 7 rfl (by first | exact .inl rfl | exact .inr (.inl rfl) | exact .inr (.inr rfl)) rfl ?_
  | refine we_name 8 rfl (by first | exact .inl rfl | exact .inr (.inl rfl) | exact .inr (.inr rfl)) rfl ?_
  | refine we_name 9 rfl (by first | exact .inl rfl | exact .inr (.inl rfl) | exact .inr (.inr rfl)) rfl ?_
  | refine we_name 10 rfl (by first | exact .inl rfl | exact .inr (.inl rfl) | exact .inr (.inr rfl)) rfl ?_
  | refine we_name 11 rfl (by first | exact .inl rfl | exact .inr (.inl rfl) | exact .inr (.inr rfl)) rfl ?_
  | refine we_name 12 rfl (by first | exact .inl rfl | exact .inr (.inl rfl) | exact .inr (.inr rfl)) rfl ?_
  | refine we_name 13 rfl (by first | exact .inl rfl | exact .inr (.inl rfl) | exact .inr (.inr rfl)) rfl ?_
  | refine we_gint rfl (Txt.mLetters ‹_›) ?_
  | refine we_gstr rfl (Txt.letters ‹_›) ?_
  | refine we_gint rfl (Tx2.mFB ‹_›) ?_
  | refine we_gint rfl (Tx2.mW ‹_›) ?_
  | refine we_gint rfl (Tx2.mF ‹_›) ?_
  | refine we_gint rfl (Tx2.mFT ‹_›) ?_
  | refine we_gint rfl (Tx2.mK ‹_›) ?_)
local macro_rules | `(tactic| walk_at "cmp") => `(tactic| first
  | refine xt_eq ‹Room _ _› ?_
  | refine xt_ne ‹Room _ _› ?_
  | refine xt_lt ?_
  | refine xt_le ?_
  | refine xt_gt ?_
  | refine xt_ge ?_
  | refine wt_isN ?_
  | refine xt_in rfl ?_
  | refine xt_nin rfl ?_
  | refine x_chain (by with_unfolding_all rfl) ?_)
local macro_rules | `(tactic| walk_at "ecmp") => `(tactic| first
  | refine xe_eq ‹Room _ _› ?_
  | refine xe_ne ‹Room _ _› ?_
  | refine xe_lt ?_
  | refine xe_le ?_
  | refine xe_gt ?_
  | refine xe_ge ?_
  | refine we_isN ?_
  | refine xe_in rfl ?_
  | refine xe_nin rfl ?_)
local macro_rules | `(tactic| walk_at "t") => `(tactic| first
  | (show WT _ _ (.Compare _ _ _ _) _; walk_at "cmp")
  | refine wt_or ?_
  | refine wt_and ?_
  | refine wt_not ?_
  | refine x_val (by intro _; rfl) ?_)
local macro_rules | `(tactic| walk_at "b") => `(tactic| first
  | refine xe_len ‹Txt _ _› rfl rfl ?_
  | refine x_isi_str ‹Txt _ _› rfl rfl rfl rfl ?_
  | refine x_isi_tup ‹Txt _ _› rfl rfl rfl rfl ?_
  | refine x_isi_lst ‹Txt _ _› rfl rfl rfl rfl ?_
  | refine x_isi_bool ‹Txt _ _› rfl rfl rfl rfl ?_
  | refine x_isi_int ‹Txt _ _› rfl rfl rfl rfl ?_
  | refine x_isi_lt ‹Txt _ _› rfl rfl rfl rfl rfl ?_
  | refine x_all ‹Txt _ _› rfl rfl rfl ?_
  | refine x_tuple ‹Txt _ _› rfl rfl ?_
  | refine x_list ‹Txt _ _› rfl rfl ?_
  | refine x_sorted ‹Txt _ _› rfl rfl ?_
  | refine x_str ‹Txt _ _› rfl rfl ?_
  | refine x_int ‹Txt _ _› rfl rfl ?_
  | refine x_min ‹Txt _ _› rfl rfl rfl rfl rfl ?_)
local macro_rules | `(tactic| walk_at "e") => `(tactic| first
  | (show WE _ _ (.Name _ _) _; walk_at "n")
  | (show WE _ _ (.Constant _ _ _) _; first | refine we_int ?_ | refine we_str ?_ | refine we_bl ?_ | refine we_non ?_)
  | (show WE _ _ (.Call (.Name _ _) _ _ _) _; walk_at "b")
  | (show WE _ _ (.Compare _ _ _ _) _; walk_at "ecmp")
  | (show WE _ _ (.Subscript _ _ _) _; first | refine xe_sl ?_ | refine xe_ix (fun _ _ => rfl) ?_)
  | (show WE _ _ (.BinOp _ _ _ _) _; first | refine xe_add ?_ | refine xe_sub ?_ | refine xe_mul ?_ | refine xe_mod ?_ | refine xe_fdiv ?_)
  | (show WE _ _ (.Call (.Attribute _ _ _) _ _ _) _; first | refine x_split rfl rfl rfl ?_ | refine x_join rfl rfl rfl ?_)
  | (show WE _ _ (.Attribute _ _ _) _; refine we_fld ?_ rfl)
  | refine we_lst (k := 0) ?_
  | refine we_tup (k := _) ?_
  | refine we_if ?_
  | refine x_and ?_
  | refine x_or ?_
  | refine we_one ?_
  | refine x_not ?_
  | refine x_fstr2 ?_)
local macro_rules | `(tactic| walk_at "ss") => `(tactic| first
  | refine vs_set 0 ‹List.Nodup _› rfl (by first | exact .inl rfl | exact .inr rfl) (by first | exact .inl rfl | exact .inr rfl) rfl ?_
  | refine vs_set 1 ‹List.Nodup _› rfl (by first | exact .inl rfl | exact .inr rfl) (by first | exact .inl rfl | exact .inr rfl) rfl ?_
  | refine vs_set 2 ‹List.Nodup _› rfl (by first | exact .inl rfl | exact .inr rfl) (by first | exact .inl rfl | exact .inr rfl) rfl ?_
  | refine vs_set 3 ‹List.Nodup _› rfl (by first | exact .inl rfl | exact .inr rfl) (by first | exact .inl rfl | exact .inr rfl) rfl ?_
  | refine vs_set 4 ‹List.Nodup _› rfl (by first | exact .inl rfl | exact .inr rfl) (by first | exact .inl rfl | exact .inr rfl) rfl ?_
  | refine vs_set 5 ‹List.Nodup _› rfl (by first | exact .inl rfl | exact .inr rfl) (by first | exact .inl rfl | exact .inr rfl) rfl ?_
  | refine vs_set 6 ‹List.Nodup _› rfl (by first | exact .inl rfl | exact .inr rfl) (by first | exact .inl rfl | exact .inr rfl) rfl ?_
  | refine vs_set 7 ‹List.Nodup _› rfl (by first | exact .inl rfl | exact .inr rfl) (by first | exact .inl rfl | exact .inr rfl) rfl ?_
  | refine vs_set 8 ‹List.Nodup _› rfl (by first | exact .inl rfl | exact .inr rfl) (by first | exact .inl rfl | exact .inr rfl) rfl ?_
  | refine vs_set 9 ‹List.Nodup _› rfl (by first | exact .inl rfl | exact .inr rfl) (by first | exact .inl rfl | exact .inr rfl) rfl ?_
  | refine vs_set 10 ‹List.Nodup _› rfl (by first | exact .inl rfl | exact .inr rfl) (by first | exact .inl rfl | exact .inr rfl) rfl ?_
  | refine vs_set 11 ‹List.Nodup _› rfl (by first | exact .inl rfl | exact .inr rfl) (by first | exact .inl rfl | exact .inr rfl) rfl ?_)
local macro_rules | `(tactic| walk_at "gn") => `(tactic| first
  | refine vg_name 0 ‹List.Nodup _› rfl (by first | exact .inl rfl | exact .inr rfl) (by first | exact .inl rfl | exact .inr rfl) (by decide) ?_
  | refine vg_name 1 ‹List.Nodup _› rfl (by first | exact .inl rfl | exact .inr rfl) (by first | exact .inl rfl | exact .inr rfl) (by decide) ?_
  | refine vg_name 2 ‹List.Nodup _› rfl (by first | exact .inl rfl | exact .inr rfl) (by first | exact .inl rfl | exact .inr rfl) (by decide) ?_
  | refine vg_name 3 ‹List.Nodup _› rfl (by first | exact .inl rfl | exact .inr rfl) (by first | exact .inl rfl | exact .inr rfl) (by decide) ?_
  | refine vg_name 4 ‹List.Nodup _› rfl (by first | exact .inl rfl | exact .inr rfl) (by first | exact .inl rfl | exact .inr rfl) (by decide) ?_
  | refine vg_name 5 ‹List.Nodup _› rfl (by first | exact .inl rfl | exact .inr rfl) (by first | exact .inl rfl | exact .inr rfl) (by decide) ?_
  | refine vg_name 6 ‹List.Nodup _› rfl (by first | exact .inl rfl | exact .inr rfl) (by first | exact .inl rfl | exact .inr rfl) (by decide) ?_
  | refine vg_name 7 ‹List.Nodup _› rfl (by first | exact .inl rfl | exact .inr rfl) (by first | exact .inl rfl | exact .inr rfl) (by decide) ?_
  | refine vg_name 8 ‹List.Nodup _› rfl (by first | exact .inl rfl | exact .inr rfl) (by first | exact .inl rfl | exact .inr rfl) (by decide) ?_
  | refine vg_name 9 ‹List.Nodup _› rfl (by first | exact .inl rfl | exact .inr rfl) (by first | exact .inl rfl | exact .inr rfl) (by decide) ?_
  | refine vg_name 10 ‹List.Nodup _› rfl (by first | exact .inl rfl | exact .inr rfl) (by first | exact .inl rfl | exact .inr rfl) (by decide) ?_
  | refine vg_name 11 ‹List.Nodup _› rfl (by first | exact .inl rfl | exact .inr rfl) (by first | exact .inl rfl | exact .inr rfl) (by decide) ?_)
local macro_rules | `(tactic| walk_at "k") => `(tactic| first
  | (with_reducible show IntW _ _; refine int_i ?_)
  | (with_reducible show StrW _ _; refine str_i ?_)
  | (with_reducible show LstW _ _; refine lst_i ?_)
  | (with_reducible show TupW _ _; refine tup_i ?_)
  | (with_reducible show BlW _ _; refine bl_i ?_)
  | (with_reducible show SeqW _ _; first | refine seqL_i ?_ | refine seqT_i ?_)
  | (with_reducible show LenW _ _; first | refine lenL_i ?_ | refine lenT_i ?_)
  | (with_reducible show IxW _ _ _; first | refine ixL_i 0 rfl rfl ?_ | refine ixL_i 1 rfl rfl ?_ | refine ixL_i 2 rfl rfl ?_ | refine ixT_i 0 rfl rfl ?_ | refine ixT_i 1 rfl rfl ?_)
  | (with_reducible show SlW _ _ _ _; first | refine slL_from 1 rfl ?_ | refine slL_from 2 rfl ?_ | refine slT_from 1 rfl ?_)
  | (show WE _ _ _ _; walk_at "e")
  | (show WT _ _ _ _; walk_at "t")
  | (show WSs _ _ _ _ _; first | refine wss_cons ?_ | refine wss_nil ?_)
  | (show WS _ _ _ _ _; first | refine ws_if ?_ | refine ws_ret ?_ | refine ws_retN ?_ | (show WS _ _ (.Assign [.Name _ _] _ _) _ _; walk_at "ss"))
  | (show WG _ _ _ _ _ _; first | refine xg_tup rfl rfl rfl ?_ | walk_at "gn")
  | (show WGs _ _ _ _ _ _; first | refine vgs_cons rfl ?_ | refine vgs_nil ?_)
  | (show WAs _ _ _ _; first | refine wa_nil ?_ | refine wa_star ?_ | refine wa_cons ?_)
  | (show WTw _ _ _ _; first | refine ww_or ?_ | refine ww_and ?_ | refine ww_or1 ?_ | refine ww_and1 ?_)
  | (show WO _ _ _ _; first | refine wo_none ?_ | refine wo_int ?_)
  | refine fam_i fun _ _ _ _ _ => ?_
  | refine iteT ?_
  | refine iteF ?_
  | refine ⟨rfl, ?_⟩
  | refine ⟨_, rfl, ?_⟩
  | refine ⟨lit_line rfl, ?_⟩
  | refine ⟨_, .inl rfl, ?_⟩
  | refine ⟨_, .inr rfl, ?_⟩
  | walk_at "x")
local macro_rules | `(tactic| walk_at "x") => `(tactic| first
  | refine ⟨_, _, _, rfl, rfl, BkF.cl ‹_›, BkF.nf ‹_›, ?_⟩ | refine ⟨_, _, _, rfl, rfl, BkF.cl ‹_›, BkF.nw ‹_›, ?_⟩)
theorem filterMap_all {α β : Type} (g : α → Option β) (h : α → β) : ∀ l : List α, (∀ a ∈ l, g a = some (h a)) → l.filterMap g = l.map h
  | [], _ => rfl
  | a :: l, e => by rw [List.filterMap_cons, e a List.mem_cons_self, List.map_cons, filterMap_all g h l fun b hb => e b (List.mem_cons_of_mem _ hb)]
abbrev bookFs (fs : List Str) (qs : List (Str × List Str)) : List (Str × W) := [("own_finds", wt fs), ("own_words", wWords qs)]
section
variable {P : Program} {w : World} {K : PySem.W.Frag} {mg : Str → Option Value} {base : Heap} {CB : Addr}
abbrev fBookFinds (CB : Addr) : DSpec := fun ws P => ∃ fs qs, ws = [wBook CB fs qs] ∧ P (wl fs)
theorem sc_book_finds : FnScope ["self"] ["self"] (C8.fnScope (mth 33 1)) := C8.fnScope_by (by decide +kernel)
theorem ok_book_finds (G : MDef K CB "finds" "Book.finds" (mth 33 1)) (B : BkF K mg CB) (T : Txt K mg) : C8.Met P w K mg base 1 CB "finds" (spD (fBookFinds CB)) [] := by
  have nd := sc_book_finds.nd
  refine met_D G sc_book_finds (fun _ _ _ _ _ _ us hl => match us, hl with | [_], _ => rfl) (fun ws P ⟨fs, qs, e, _⟩ => by rw [e]; rfl) fun f cdv A outer s H E ex T' ws P' hr h => ?_
  obtain ⟨fs, qs, rfl, p⟩ := h
  repeat walk_at "k"
  exact p
abbrev fBookWords (CB : Addr) : DSpec := fun ws P => ∃ fs qs, ws = [wBook CB fs qs] ∧ P (.lst (qs.map wWord))
theorem sc_book_words : FnScope ["self"] ["self"] (C8.fnScope (mth 33 2)) := C8.fnScope_by (by decide +kernel)
theorem ok_book_words (G : MDef K CB "words" "Book.words" (mth 33 2)) (B : BkF K mg CB) (T : Txt K mg) : C8.Met P w K mg base 1 CB "words" (spD (fBookWords CB)) [] := by
  have nd := sc_book_words.nd
  refine met_D G sc_book_words (fun _ _ _ _ _ _ us hl => match us, hl with | [_], _ => rfl) (fun ws P ⟨fs, qs, e, _⟩ => by rw [e]; rfl) fun f cdv A outer s H E ex T' ws P' hr h => ?_
  obtain ⟨fs, qs, rfl, p⟩ := h
  repeat walk_at "k"
  exact p
abbrev fBookHas (CB : Addr) : DSpec := fun ws P => ∃ fs qs m, ws = [wBook CB fs qs, .str m] ∧ qs.length ≤ 100 ∧ P (.bl (decide (m ∈ qs.map (·.1))))
theorem sc_book_contains : FnScope ["self", "mark", "own", "lot"] ["self", "mark"] (C8.fnScope (mth 33 12)) := C8.fnScope_by (by decide +kernel)
theorem ok_book_contains (G : MDef K CB "__contains__" "Book.__contains__" (mth 33 12)) (B : BkF K mg CB) (T : Txt K mg) : C8.Met P w K mg base 1 CB "__contains__" (spD (fBookHas CB)) [] := by
  have nd := sc_book_contains.nd
  refine met_D G sc_book_contains (fun _ _ _ _ _ _ us hl => match us, hl with | [_, _], _ => rfl) (fun ws P ⟨fs, qs, m, e, _⟩ => by rw [e]; rfl) fun f cdv A outer s H E ex T' ws P' hr h => ?_
  obtain ⟨fs, qs, m, rfl, hl, p⟩ := h
  have hlen : (qs.map wWord).length = qs.length := by simp
  repeat walk_at "k"
  refine we_lc [("own", 2), ("lot", 3)] rfl nd (blkOk_by (own := [("own", 2), ("lot", 3)]) (N := ["self", "mark", "own", "lot"]) (sc := C8.fnScope (mth 33 12)) (by decide +kernel)) (wlc_M (x_iterT ?_))
  repeat walk_at "k"
  refine ⟨by rw [hlen]; exact line_of hl, fun _ d => match d with | .tup [x, _] => x | _ => .non, fun i d hd Dd => ?_, ?_⟩
  · obtain ⟨q, hq', rfl⟩ := words_get hd
    repeat walk_at "k"
    rfl
  rw [map_idx_eq (h := fun q => W.str q.1) (fun _ _ _ => rfl), show qs.map (fun q => W.str q.1) = (qs.map (·.1)).map W.str by rw [List.map_map]; rfl]
  exact ⟨_, rfl, p⟩
abbrev fBookEq (CB : Addr) : DSpec := fun ws P => ∃ fs qs, ws = [wBook CB fs qs, wBook CB fs qs] ∧ Nms fs ∧ IsWords fs qs ∧ P (.bl true)
theorem sc_book_eq : FnScope ["self", "other"] ["self", "other"] (C8.fnScope (mth 33 13)) := C8.fnScope_by (by decide +kernel)
theorem ok_book_eq (G : MDef K CB "__eq__" "Book.__eq__" (mth 33 13)) (B : BkF K mg CB) (T : Txt K mg) : C8.Met P w K mg base 1 CB "__eq__" (spD (fBookEq CB)) [] := by
  have nd := sc_book_eq.nd
  refine met_D G sc_book_eq (fun _ _ _ _ _ _ us hl => match us, hl with | [_, _], _ => rfl) (fun ws P ⟨fs, qs, e, _⟩ => by rw [e]; rfl) fun f cdv A outer s H E ex T' ws P' hr h => ?_
  obtain ⟨fs, qs, rfl, hf, hq, p⟩ := h
  refine wss_cons (ws_ret (x_and (we_isiOwn (by rfl) ‹Txt _ _› B.ic (by rfl) B.g ?_)))
  walk_at "n"
  refine ⟨_, rfl, ?_⟩
  repeat walk_at "k"
  refine eqW_wt hf ?_
  repeat walk_at "k"
  refine eqW_words hq ?_
  exact p
abbrev fBookText (CB : Addr) : DSpec := fun ws P => ∃ fs qs, ws = [wBook CB fs qs] ∧ IsLot fs ∧ fs.length ≤ 12 ∧ IsWords fs qs ∧ P (.str (rowsT (bookRows fs qs)))
theorem sc_book_text : FnScope ["self", "rows", "mark", "lot", "row"] ["self"] (C8.fnScope (mth 33 8)) := C8.fnScope_by (by decide +kernel)
theorem row_sum {r : List Str} (h : IsRow r) : (r.map (·.length)).sum + r.length * (" " : Str).length ≤ 16777216 := by
  have h1 := sum6 h.nm
  have h2 := h.len
  have : (" " : Str).length = 1 := rfl
  rw [this]
  omega
theorem rowsW_get {rs : List (List Str)} {i : Nat} {d : W} (h : (rs.map wl)[i]? = some d) : ∃ r, rs[i]? = some r ∧ d = wl r := by
  rw [List.getElem?_map] at h
  cases e : rs[i]? with
  | none => rw [e] at h; cases h
  | some z => rw [e] at h; cases h; exact ⟨z, rfl, rfl⟩
theorem idx_map {α : Type} {zs : List α} {g : α → W} {h : α → W} : (zs.map g).mapIdx (fun i _ => (zs[i]?).elim W.non h) = zs.map h := by
  refine List.ext_getElem? fun i => ?_
  rw [List.getElem?_mapIdx, List.getElem?_map, List.getElem?_map]
  cases zs[i]? <;> rfl
theorem ok_book_text (G : MDef K CB "text" "Book.text" (mth 33 8)) (B : BkF K mg CB) (T : Txt K mg) (c1 : C8.Cal P w K mg base 1 "joined_lines" (spD fJoinedLines) []) : C8.Met P w K mg base 2 CB "text" (spD (fBookText CB)) [] := by
  have nd := sc_book_text.nd
  refine met_D G sc_book_text (fun _ _ _ _ _ _ us hl => match us, hl with | [_], _ => rfl) (fun ws P ⟨fs, qs, e, _⟩ => by rw [e]; rfl) fun f cdv A outer s H E ex T' ws P' hr h => ?_
  obtain ⟨fs, qs, rfl, hf, h12, hq, p⟩ := h
  have hlen : (qs.map wWord).length = qs.length := by simp
  have hrows := book_rows hf h12 hq
  have hl : (bookRows fs qs).length ≤ 100 := by rw [List.length_cons, List.length_map]; have := hq.len; omega
  refine wss_cons (vs_setLc 1 [("mark", 2), ("lot", 3)] rfl nd rfl rfl (sw_true rfl rfl rfl (by decide +kernel)) (blkOk_by (own := [("mark", 2), ("lot", 3)]) (N := ["self", "rows", "mark", "lot", "row"]) (sc := C8.fnScope (mth 33 8)) (by decide +kernel)) (wlc_M (x_iterT ?_)))
  repeat walk_at "k"
  refine ⟨by rw [hlen]; have := hq.len; exact line_of (by omega), fun i _ => (qs[i]?).elim .non (fun q => wl (wRow q)), fun i d hd Dd => ?_, ?_⟩
  · obtain ⟨q, hq', rfl⟩ := words_get hd
    repeat walk_at "k"
    have hrl := (hrows (wRow q) (List.mem_cons_of_mem _ (List.mem_map.mpr ⟨q, List.mem_of_getElem? hq', rfl⟩))).len
    refine ⟨line_of (by rw [List.length_cons, List.length_cons, List.append_nil, strs_len]; rw [List.length_cons, List.length_cons] at hrl; omega), ?_⟩
    show _ = Option.elim _ _ _
    rw [hq']
    simp
  rw [idx_map]
  refine wss_cons (ws_ret (we_c c1 ‹Room _ _› (by decide) rfl ?_))
  refine wa_cons (we_lc [("row", 4)] rfl nd (blkOk_by (own := [("row", 4)]) (N := ["self", "rows", "mark", "lot", "row"]) (sc := C8.fnScope (mth 33 8)) (by decide +kernel)) (wlc_M (x_iterL ?_)))
  repeat walk_at "k"
  refine ⟨line_of (by rw [List.length_cons, List.append_nil, strs_len]; omega), ?_⟩
  repeat walk_at "k"
  refine ⟨line_of (by rw [List.length_cons, List.append_nil, List.length_map]; have := hq.len; omega), ?_⟩
  repeat walk_at "k"
  have e : (W.lst (W.str "finds" :: (fs.map W.str ++ [])) :: (qs.map (fun q => wl (wRow q)) ++ [])) = (bookRows fs qs).map wl := by
    rw [List.append_nil, List.append_nil, List.map_cons, List.map_map]
    rfl
  rw [e]
  refine ⟨by rw [List.length_map]; exact line_of hl, fun i _ => ((bookRows fs qs)[i]?).elim .non (fun r => .str (rowT r)), fun i d hd Dd => ?_, ?_⟩
  · obtain ⟨r, hr', rfl⟩ := rowsW_get hd
    repeat walk_at "k"
    refine ⟨row_sum (hrows r (List.mem_of_getElem? hr')), ?_⟩
    show _ = Option.elim _ _ _
    rw [hr']
    rfl
  rw [idx_map]
  repeat walk_at "k"
  refine ⟨(bookRows fs qs).map rowT, by rw [wl, List.map_map]; rfl, rows_lns hrows hl, p⟩
abbrev fBookStr (CB : Addr) : DSpec := fBookText CB
theorem sc_book_str : FnScope ["self"] ["self"] (C8.fnScope (mth 33 16)) := C8.fnScope_by (by decide +kernel)
theorem ok_book_str (G : MDef K CB "__str__" "Book.__str__" (mth 33 16)) (B : BkF K mg CB) (T : Txt K mg) (c1 : C8.Met P w K mg base 2 CB "text" (spD (fBookText CB)) []) : C8.Met P w K mg base 3 CB "__str__" (spD (fBookText CB)) [] := by
  have nd := sc_book_str.nd
  refine met_D G sc_book_str (fun _ _ _ _ _ _ us hl => match us, hl with | [_], _ => rfl) (fun ws P ⟨fs, qs, e, _⟩ => by rw [e]; rfl) fun f cdv A outer s H E ex T' ws P' hr h => ?_
  obtain ⟨fs, qs, rfl, hf, h12, hq, p⟩ := h
  refine wss_cons (ws_ret (x_str ‹Txt _ _› rfl rfl (we_mt0 c1 ‹Room _ _› (by decide) ?_)))
  walk_at "n"
  refine ⟨_, rfl, rfl, fs, qs, rfl, hf, h12, hq, ?_⟩
  repeat walk_at "k"
  exact p
abbrev fBookWithout (CB : Addr) : DSpec := fun ws P => ∃ fs q qs, ws = [wBook CB fs (q :: qs), .str q.1] ∧ IsFinds fs ∧ Asc fs ∧ IsWords fs (q :: qs) ∧ P (wBook CB fs qs)
theorem sc_book_without : FnScope ["self", "mark", "word"] ["self", "mark"] (C8.fnScope (mth 33 6)) := C8.fnScope_by (by decide +kernel)
theorem ok_book_without (G : MDef K CB "without" "Book.without" (mth 33 6)) (B : BkF K mg CB) (T : Txt K mg) (c1 : C8.Met P w K mg base 1 CB "__contains__" (spD (fBookHas CB)) []) (c2 : C8.Mak P w K mg base 6 "Book" CB (spI CB fBookInit) []) : C8.Met P w K mg base 8 CB "without" (spD (fBookWithout CB)) [] := by
  have nd := sc_book_without.nd
  refine met_D G sc_book_without (fun _ _ _ _ _ _ us hl => match us, hl with | [_, _], _ => rfl) (fun ws P ⟨fs, q, qs, e, _⟩ => by rw [e]; rfl) fun f cdv A outer s H E ex T' ws P' hr h => ?_
  obtain ⟨fs, q, qs, rfl, hf, hasc, hq, p⟩ := h
  have hl := hq.len
  refine wss_cons (ws_if (xt_ninOwn c1 ‹Room _ _› (by decide) rfl ?_))
  repeat walk_at "n"
  refine ⟨_, rfl, fs, q :: qs, q.1, rfl, by omega, _, rfl, ?_⟩
  refine ifN (by simp) ?_
  repeat walk_at "k"
  refine we_mk c2 ‹Room _ _› (by decide) rfl ?_
  repeat walk_at "k"
  refine we_lc [("word", 2)] rfl nd (blkOk_by (own := [("word", 2)]) (N := ["self", "mark", "word"]) (sc := C8.fnScope (mth 33 6)) (by decide +kernel)) (wlc_F (x_iterT ?_))
  repeat walk_at "k"
  refine ⟨by rw [List.length_map]; exact line_of (by omega), fun d => match d with | .tup [.str m, u] => if m = q.1 then none else some (.tup [.str m, u]) | _ => none, fun i d hd Dd => ?_, ?_⟩
  · obtain ⟨r, hr', rfl⟩ := words_get hd
    repeat walk_at "k"
    by_cases e : r.1 = q.1
    · refine ifN e ?_
      show (if r.1 = q.1 then none else some (wWord r)) = none
      rw [if_pos e]
    · refine ifNn e ?_
      repeat walk_at "k"
      show (if r.1 = q.1 then none else some (wWord r)) = some (wWord r)
      rw [if_neg e]
  have e : ((q :: qs).map wWord).filterMap (fun d => match d with | .tup [.str m, u] => if m = q.1 then none else some (.tup [.str m, u]) | _ => none) = qs.map wWord := by
    rw [List.filterMap_map, List.filterMap_cons]
    have h0 : ((fun d => match d with | .tup [.str m, u] => if m = q.1 then none else some (W.tup [.str m, u]) | _ => none) ∘ wWord) q = none := by
      show (if q.1 = q.1 then none else some (wWord q)) = none
      rw [if_pos rfl]
    rw [h0]
    have hn := List.nodup_cons.mp (show (q.1 :: qs.map (·.1)).Nodup from hq.nd)
    have h1 : ∀ r ∈ qs, ((fun d => match d with | .tup [.str m, u] => if m = q.1 then none else some (W.tup [.str m, u]) | _ => none) ∘ wWord) r = some (wWord r) := fun r hr' => by
      show (if r.1 = q.1 then none else some (wWord r)) = some (wWord r)
      rw [if_neg (fun z => hn.1 (by rw [← z]; exact List.mem_map.mpr ⟨r, hr', rfl⟩))]
    exact filterMap_all _ _ _ h1
  rw [e]
  have hq2 : IsWords fs qs := ⟨fun x hx => hq.wd x (List.mem_cons_of_mem _ hx), (List.nodup_cons.mp (show (q.1 :: qs.map (·.1)).Nodup from hq.nd)).2, by have := hq.len; rw [List.length_cons] at this; omega⟩
  repeat walk_at "k"
  exact ⟨fun f => f = bookFs fs qs, ⟨fs, fs, wt fs, qs, rfl, .inr rfl, hf, hasc, fun _ => Iff.rfl, hq2, rfl⟩, fun _ e => by rw [e]; exact p⟩
/-! read -/
theorem asc_nd {zs : List Str} (h : Asc zs) : zs.Nodup := h.imp fun h e => by rw [e] at h; exact absurd h (List.lt_irrefl _)
structure SDef (K : PySem.W.Frag) (C : Addr) (m qual : Str) (st : Stmt) : Prop where
  ex : ∃ (mc : Value) (p g : Addr) (fd : FuncData), ClX.CRead K C mc ∧ PySem.W.findCls K (.ref C) mc m = some (.get (.builtin "staticmethod.__get__") (.ref p) .none (.ref C)) ∧ (∃ rest, PySem.W.recIn K p "staticmethod" = some (.ref g :: rest)) ∧ PySem.W.keepIn K (.ref g) = true ∧
    FunD K m qual (C8.fnArgs st) (C8.fnBody st) (C8.fnScope st) [] [] g fd
theorem sm_D {m qual : Str} {C : Addr} {st : Stmt} {N ps : List Str} {k : Nat} {F : DSpec} (G : SDef K C m qual st) (S : FnScope N ps (C8.fnScope st))
    (hb : ∀ (kV doc pm : Value) (an : Option Addr) (cdv ct : Value) (us : List Value), us.length = ps.length → bindArgs (PySem.W.fnOf m qual (C8.fnArgs st) (C8.fnBody st) (C8.fnScope st) .none kV doc pm an cdv ct) ⟨us, []⟩ = pure (ps.zip us))
    (hbk : ∀ (kV doc pm : Value) (an : Option Addr) (cdv ct : Value) (us : List Value), us.length = ps.length → bindArgs (PySem.W.fnOf m qual (C8.fnArgs st) (C8.fnBody st) (C8.fnScope st) .none kV doc pm an cdv ct) ⟨[], ps.zip us⟩ = pure (ps.zip us))
    (len : ∀ ws P, F ws P → ws.length = ps.length)
    (hbody : ∀ (f : Addr) (cdv : Value) (A : Around) (outer : List Env) (s : Shared) (H : Hp) (E : XK) (ex : List Addr) (T : List (Addr × Str)) (ws : List W) (P' : W → Prop), Room k (A.deeper (envOfC qual (C8.fnScope st) s.heap.objs.size f cdv)) → F ws P' →
      WSs (bx P w K mg base N qual st f cdv A outer s H E) { ρ := rho0 N ws, ex := ex, T := T } (C8.fnBody st) (fun _ => P' .non) P') : SMet P w K mg base (k + 1) C m ps (spD F) := by
  obtain ⟨mc, p, g, fd, r, at_, hp, kp, FD⟩ := G.ex
  have FD0 := FD
  have hK : ∀ (s : Shared) (us : List Value), K.In s.heap → us.length = ps.length → BindsTo s fd ⟨[], ps.zip us⟩ (ps.zip us) := by
    obtain ⟨oc, od, dV, kV, doc, pm, an, cdv, ct, osl, e, lk, hcd, hD, _⟩ := FD.ex
    subst e
    rcases hD with ⟨_, rfl⟩ | ⟨e, _⟩
    · intro s us _ hl
      exact .of_eq (hbk kV doc pm an cdv ct us hl)
    · exact absurd rfl e
  exact ⟨mc, p, g, fd, r, at_, hp, kp, C8.fn0 (FunD.toFun FD0) S (fun vs H Q E ⟨ex, ws, T, P', d, _, _, _, h, _⟩ => by rw [d.len]; exact len ws P' h) (bodyD hbody), FD0.bindsN hb, hK⟩
abbrev fBookRead (CB : Addr) : DSpec := fun ws P => ∃ fs qs, ws = [.str (rowsT (bookRows fs qs))] ∧ IsLot fs ∧ fs.length ≤ 12 ∧ IsWords fs qs ∧ P (wBook CB fs qs)
theorem sc_book_read : FnScope ["text", "finds", "words"] ["text"] (C8.fnScope (mth 33 9)) := C8.fnScope_by (by decide +kernel)
theorem ok_book_read (G : SDef K CB "read" "Book.read" (mth 33 9)) (T : Txt K mg) (c1 : C8.Cal P w K mg base 5 "read_rows" (spD fReadRows) []) (c2 : C8.Mak P w K mg base 6 "Book" CB (spI CB fBookInit) []) : SMet P w K mg base 8 CB "read" ["text"] (spD (fBookRead CB)) := by
  have nd := sc_book_read.nd
  refine sm_D G sc_book_read (fun _ _ _ _ _ _ us hl => match us, hl with | [_], _ => rfl) (fun _ _ _ _ _ _ us hl => match us, hl with | [_], _ => rfl) (fun ws P ⟨fs, qs, e, _⟩ => by rw [e]; rfl) fun f cdv A outer s H E ex T' ws P' hr h => ?_
  obtain ⟨fs, qs, rfl, hf, h12, hq, p⟩ := h
  refine wss_cons (vs_asg [1, 2] rfl rfl rfl (we_c c1 ‹Room _ _› (by decide) rfl ?_))
  refine wa_cons ?_
  walk_at "n"
  refine wa_nil ⟨fs, qs, rfl, hf, h12, hq, ?_⟩
  repeat walk_at "k"
  refine we_mk c2 ‹Room _ _› (by decide) rfl ?_
  repeat walk_at "k"
  exact ⟨fun f => f = bookFs fs qs, ⟨fs, fs, wl fs, qs, rfl, .inl rfl, ⟨hf.nm, asc_nd hf.asc, hf.ne, h12⟩, hf.asc, fun _ => Iff.rfl, hq, rfl⟩, fun _ e => by rw [e]; exact p⟩
end
end K11
/-! PD7 -/
namespace K11
open PySem PySem.Spec PyProof.Rows L2
local macro_rules | `(tactic| walk_at "n") => `(tactic| first
  | refine we_name 0 rfl (by first | exact .inl rfl | exact .inr (.inl rfl) | exact .inr (.inr rfl)) rfl ?_
  | refine we_name 1 rfl (by first | exact .inl rfl | exact .inr (.inl rfl) | exact .inr (.inr rfl)) rfl ?_
  | refine we_name 2 rfl (by first | exact .inl rfl | exact .inr (.inl rfl) | exact .inr (.inr rfl)) rfl ?_
  | refine we_name 3 rfl (by first | exact .inl rfl | exact .inr (.inl rfl) | exact .inr (.inr rfl)) rfl ?_
  | refine we_name 4 rfl (by first | exact .inl rfl | exact .inr (.inl rfl) | exact .inr (.inr rfl)) rfl ?_
  | refine we_name 5 rfl (by first | exact .inl rfl | exact .inr (.inl rfl) | exact .inr (.inr rfl)) rfl ?_
  | refine we_name 6 rfl (by first | exact .inl rfl | exact .inr (.inl rfl) | exact .inr (.inr rfl)) rfl ?_
  | refine we_name 7 rfl (by first | exact .inl rfl | exact .inr (.inl rfl) | exact .inr (.inr rfl)) rfl ?_
  | refine we_name 8 rfl (by first | exact .inl rfl | exact .inr (.inl rfl) | exact .inr (.inr rfl)) rfl ?_
  | refine we_name 9 rfl (by first | exact .inl rfl | exact .inr (.inl rfl) | exact .inr (.inr rfl)) rfl ?_
  | refine we_name 10 rfl (by first | exact .inl rfl | exact .inr (.inl rfl) | exact .inr (.inr rfl)) rfl ?_
  | refine we_name 11 rfl (by first | exact .inl rfl | exact .inr (.inl rfl) | exact .inr (.inr rfl)) rfl ?_
  | refine we_name 12 rfl (by first | exact .inl rfl | exact .inr (.inl rfl) | exact .inr (.inr rfl)) rfl ?_
  | refine we_name 13 rfl (by first | exact .inl rfl | exact .inr (.inl rfl) | exact .inr (.inr rfl)) rfl ?_
  | refine we_gint rfl (Txt.mLetters ‹_›) ?_
  | refine we_gstr rfl (Txt.letters ‹_›) ?_
  | refine we_gint rfl (Tx2.mFB ‹_›) ?_
  | refine we_gint rfl (Tx2.mW ‹_›) ?_
  | refine we_gint rfl (Tx2.mF ‹_›) ?_
  | refine we_gint rfl (Tx2.mFT ‹_›) ?_
  | refine we_gint rfl (Tx2.mK ‹_›) ?_)
local macro_rules | `(tactic| walk_at "cmp") => `(tactic| first
  | refine xt_eq ‹Room _ _› ?_
  | refine xt_ne ‹Room _ _› ?_
  | refine xt_lt ?_
  | refine xt_le ?_
  | refine xt_gt ?_
  | refine xt_ge ?_
  | refine wt_isN ?_
  | refine xt_in rfl ?_
  | refine xt_nin rfl ?_
  | refine x_chain (by with_unfolding_all rfl) ?_)
local macro_rules | `(tactic| walk_at "ecmp") => `(tactic| first
  | refine xe_eq ‹Room _ _› ?_
  | refine xe_ne ‹Room _ _› ?_
  | refine xe_lt ?_
  | refine xe_le ?_
  | refine xe_gt ?_
  | refine xe_ge ?_
  | refine we_isN ?_
  | refine xe_in rfl ?_
  | refine xe_nin rfl ?_)
local macro_rules | `(tactic| walk_at "t") => `(tactic| first
  | (show WT _ _ (.Compare _ _ _ _) _; walk_at "cmp")
  | refine wt_or ?_
  | refine wt_and ?_
  | refine wt_not ?_
  | refine x_val (by intro _; rfl) ?_)
local macro_rules | `(tactic| walk_at "b") => `(tactic| first
  | refine xe_len ‹Txt _ _› rfl rfl ?_
  | refine x_isi_str ‹Txt _ _› rfl rfl rfl rfl ?_
  | refine x_isi_tup ‹Txt _ _› rfl rfl rfl rfl ?_
  | refine x_isi_lst ‹Txt _ _› rfl rfl rfl rfl ?_
  | refine x_isi_bool ‹Txt _ _› rfl rfl rfl rfl ?_
  | refine x_isi_int ‹Txt _ _› rfl rfl rfl rfl ?_
  | refine x_isi_lt ‹Txt _ _› rfl rfl rfl rfl rfl ?_
  | refine x_all ‹Txt _ _› rfl rfl rfl ?_
  | refine x_tuple ‹Txt _ _› rfl rfl ?_
  | refine x_list ‹Txt _ _› rfl rfl ?_
  | refine x_sorted ‹Txt _ _› rfl rfl ?_
  | refine x_str ‹Txt _ _› rfl rfl ?_
  | refine x_int ‹Txt _ _› rfl rfl ?_
  | refine x_min ‹Txt _ _› rfl rfl rfl rfl rfl ?_)
local macro_rules | `(tactic| walk_at "e") => `(tactic| first
  | (show WE _ _ (.Name _ _) _; walk_at "n")
  | (show WE _ _ (.Constant _ _ _) _; first | refine we_int ?_ | refine we_str ?_ | refine we_bl ?_ | refine we_non ?_)
  | (show WE _ _ (.Call (.Name _ _) _ _ _) _; walk_at "b")
  | (show WE _ _ (.Compare _ _ _ _) _; walk_at "ecmp")
  | (show WE _ _ (.Subscript _ _ _) _; first | refine xe_sl ?_ | refine xe_ix (fun _ _ => rfl) ?_)
  | (show WE _ _ (.BinOp _ _ _ _) _; first | refine xe_add ?_ | refine xe_sub ?_ | refine xe_mul ?_ | refine xe_mod ?_ | refine xe_fdiv ?_)
  | (show WE _ _ (.Call (.Attribute _ _ _) _ _ _) _; first | refine x_split rfl rfl rfl ?_ | refine x_join rfl rfl rfl ?_)
  | (show WE _ _ (.Attribute _ _ _) _; refine we_fld ?_ rfl)
  | refine we_lst (k := 0) ?_
  | refine we_tup (k := _) ?_
  | refine we_if ?_
  | refine x_and ?_
  | refine x_or ?_
  | refine we_one ?_
  | refine x_not ?_
  | refine x_fstr2 ?_)
local macro_rules | `(tactic| walk_at "ss") => `(tactic| first
  | refine vs_set 0 ‹List.Nodup _› rfl (by first | exact .inl rfl | exact .inr rfl) (by first | exact .inl rfl | exact .inr rfl) rfl ?_
  | refine vs_set 1 ‹List.Nodup _› rfl (by first | exact .inl rfl | exact .inr rfl) (by first | exact .inl rfl | exact .inr rfl) rfl ?_
  | refine vs_set 2 ‹List.Nodup _› rfl (by first | exact .inl rfl | exact .inr rfl) (by first | exact .inl rfl | exact .inr rfl) rfl ?_
  | refine vs_set 3 ‹List.Nodup _› rfl (by first | exact .inl rfl | exact .inr rfl) (by first | exact .inl rfl | exact .inr rfl) rfl ?_
  | refine vs_set 4 ‹List.Nodup _› rfl (by first | exact .inl rfl | exact .inr rfl) (by first | exact .inl rfl | exact .inr rfl) rfl ?_
  | refine vs_set 5 ‹List.Nodup _› rfl (by first | exact .inl rfl | exact .inr rfl) (by first | exact .inl rfl | exact .inr rfl) rfl ?_
  | refine vs_set 6 ‹List.Nodup _› rfl (by first | exact .inl rfl | exact .inr rfl) (by first | exact .inl rfl | exact .inr rfl) rfl ?_
  | refine vs_set 7 ‹List.Nodup _› rfl (by first | exact .inl rfl | exact .inr rfl) (by first | exact .inl rfl | exact .inr rfl) rfl ?_
  | refine vs_set 8 ‹List.Nodup _› rfl (by first | exact .inl rfl | exact .inr rfl) (by first | exact .inl rfl | exact .inr rfl) rfl ?_
  | refine vs_set 9 ‹List.Nodup _› rfl (by first | exact .inl rfl | exact .inr rfl) (by first | exact .inl rfl | exact .inr rfl) rfl ?_
  | refine vs_set 10 ‹List.Nodup _› rfl (by first | exact .inl rfl | exact .inr rfl) (by first | exact .inl rfl | exact .inr rfl) rfl ?_
  | refine vs_set 11 ‹List.Nodup _› rfl (by first | exact .inl rfl | exact .inr rfl) (by first | exact .inl rfl | exact .inr rfl) rfl ?_)
local macro_rules | `(tactic| walk_at "gn") => `(tactic| first
  | refine vg_name 0 ‹List.Nodup _› rfl (by first | exact .inl rfl | exact .inr rfl) (by first | exact .inl rfl | exact .inr rfl) (by decide) ?_
  | refine vg_name 1 ‹List.Nodup _› rfl (by first | exact .inl rfl | exact .inr rfl) (by first | exact .inl rfl | exact .inr rfl) (by decide) ?_
  | refine vg_name 2 ‹List.Nodup _› rfl (by first | exact .inl rfl | exact .inr rfl) (by first | exact .inl rfl | exact .inr rfl) (by decide) ?_
  | refine vg_name 3 ‹List.Nodup _› rfl (by first | exact .inl rfl | exact .inr rfl) (by first | exact .inl rfl | exact .inr rfl) (by decide) ?_
  | refine vg_name 4 ‹List.Nodup _› rfl (by first | exact .inl rfl | exact .inr rfl) (by first | exact .inl rfl | exact .inr rfl) (by decide) ?_
  | refine vg_name 5 ‹List.Nodup _› rfl (by first | exact .inl rfl | exact .inr rfl) (by first | exact .inl rfl | exact .inr rfl) (by decide) ?_
  | refine vg_name 6 ‹List.Nodup _› rfl (by first | exact .inl rfl | exact .inr rfl) (by first | exact .inl rfl | exact .inr rfl) (by decide) ?_
  | refine vg_name 7 ‹List.Nodup _› rfl (by first | exact .inl rfl | exact .inr rfl) (by first | exact .inl rfl | exact .inr rfl) (by decide) ?_
  | refine vg_name 8 ‹List.Nodup _› rfl (by first | exact .inl rfl | exact .inr rfl) (by first | exact .inl rfl | exact .inr rfl) (by decide) ?_
  | refine vg_name 9 ‹List.Nodup _› rfl (by first | exact .inl rfl | exact .inr rfl) (by first | exact .inl rfl | exact .inr rfl) (by decide) ?_
  | refine vg_name 10 ‹List.Nodup _› rfl (by first | exact .inl rfl | exact .inr rfl) (by first | exact .inl rfl | exact .inr rfl) (by decide) ?_
  | refine vg_name 11 ‹List.Nodup _› rfl (by first | exact .inl rfl | exact .inr rfl) (by first | exact .inl rfl | exact .inr rfl) (by decide) ?_)
local macro_rules | `(tactic| walk_at "k") => `(tactic| first
  | (with_reducible show IntW _ _; refine int_i ?_)
  | (with_reducible show StrW _ _; refine str_i ?_)
  | (with_reducible show LstW _ _; refine lst_i ?_)
  | (with_reducible show TupW _ _; refine tup_i ?_)
  | (with_reducible show BlW _ _; refine bl_i ?_)
  | (with_reducible show SeqW _ _; first | refine seqL_i ?_ | refine seqT_i ?_)
  | (with_reducible show LenW _ _; first | refine lenL_i ?_ | refine lenT_i ?_)
  | (with_reducible show IxW _ _ _; first | refine ixL_i 0 rfl rfl ?_ | refine ixL_i 1 rfl rfl ?_ | refine ixL_i 2 rfl rfl ?_ | refine ixT_i 0 rfl rfl ?_ | refine ixT_i 1 rfl rfl ?_)
  | (with_reducible show SlW _ _ _ _; first | refine slL_from 1 rfl ?_ | refine slL_from 2 rfl ?_ | refine slT_from 1 rfl ?_)
  | (show WE _ _ _ _; walk_at "e")
  | (show WT _ _ _ _; walk_at "t")
  | (show WSs _ _ _ _ _; first | refine wss_cons ?_ | refine wss_nil ?_)
  | (show WS _ _ _ _ _; first | refine ws_if ?_ | refine ws_ret ?_ | refine ws_retN ?_ | (show WS _ _ (.Assign [.Name _ _] _ _) _ _; walk_at "ss"))
  | (show WG _ _ _ _ _ _; first | refine xg_tup rfl rfl rfl ?_ | walk_at "gn")
  | (show WGs _ _ _ _ _ _; first | refine vgs_cons rfl ?_ | refine vgs_nil ?_)
  | (show WAs _ _ _ _; first | refine wa_nil ?_ | refine wa_star ?_ | refine wa_cons ?_)
  | (show WTw _ _ _ _; first | refine ww_or ?_ | refine ww_and ?_ | refine ww_or1 ?_ | refine ww_and1 ?_)
  | (show WO _ _ _ _; first | refine wo_none ?_ | refine wo_int ?_)
  | refine fam_i fun _ _ _ _ _ => ?_
  | refine iteT ?_
  | refine iteF ?_
  | refine ⟨rfl, ?_⟩
  | refine ⟨_, rfl, ?_⟩
  | refine ⟨lit_line rfl, ?_⟩
  | refine ⟨_, .inl rfl, ?_⟩
  | refine ⟨_, .inr rfl, ?_⟩
  | walk_at "x")
/-! ### SIZES.get(x, -1) -/
structure SzF (K : PySem.W.Frag) (w : World) (mg : Str → Option Value) : Prop where
  ex : ∃ d, mg "SIZES" = some (.ref d) ∧ (d == sysModules) = false ∧ KDct K w d "before" (.int 3) ∧ KDct K w d "first" (.int 2) ∧ KDct K w d "last" (.int 2)
/-- what a word of a fact asks for -/
def sizeOf? (z : Str) : Option Int := if z = "before" then some 3 else if z = "first" then some 2 else if z = "last" then some 2 else none
theorem we_sizes {X : Cx} {c : Cn} {P : W → Prop} {e : Expr} {p apos p1 p2 pos : Pos} {j} (S : SzF X.K X.w X.mg) (hg : Gl X "SIZES") (m : M2 X (.Name "SIZES" p) "get" apos e (.UnaryOp .USub (.Constant (.int 1) j p1) p2) pos)
    (h : WE X c e (fun x => StrW x fun z => ∃ n, sizeOf? z = some n ∧ P (.int n))) : WE X c (.Call (.Attribute (.Name "SIZES" p) "get" apos) [e, .UnaryOp .USub (.Constant (.int 1) j p1) p2] [] pos) P := fun σ H Q ev me q => by
  obtain ⟨d, hm, hds, k1, k2, k3⟩ := S.ex
  have pe : PE X (.Call (.Attribute (.Name "SIZES" p) "get" apos) [e, .UnaryOp .USub (.Constant (.int 1) j p1) p2] [] pos) (fun σ H Q => E X e σ H fun y H2 => ∃ z n, y = .str z ∧ sizeOf? z = some n ∧ Q (.int n) H2) := by
    refine ⟨fun pins s σ H Q I h => ?_⟩
    refine wpAny_Call_method m.base m.few m.line PySem.F.plainAttrs_dict PySem.F.slot_dict_get PySem.F.type_dict_get (thn ((pe_glob (v := .ref d) (pos := p) hg hm rfl (by decide)).run pins s σ H (fun v H' => v = .ref d ∧ H' = H) I ⟨rfl, rfl⟩) fun u s1 ⟨x, H1, I1, rx, ex, eh⟩ => ?_)
    subst ex eh
    obtain rfl : u = Value.ref d := rx
    obtain ⟨es, n0, u0, hl, hk, _, _⟩ := k1
    have ho : ∀ {s : Shared} {H : Hp} {pins : List (Addr × Obj)}, Inv X pins σ H s → s.heap.get? d = some ⟨.type "dict", none, .dict es n0, #[]⟩ := fun I => I.kIn _ _ hl
    refine ⟨⟨_, ho I1, rfl⟩, fun b q => by cases q; exact ⟨_, ho I1, rfl⟩, ?_⟩
    rw [m.trees]
    refine Calls.callWith_builtin rfl (Calls.evalArgs_plain (Calls.spliced_cons (thn (E_pe.run pins s1 σ _ _ I1 h) fun iv s2 ⟨y, H2, I2, ry, z, n, ey, hz, q2⟩ =>
      Calls.spliced_cons (thn ((pe_un (pos := p2) un_neg (pe_int (j := j) (pos := p1))).run pins s2 σ H2 (fun _ H' => H' = H2) I2 ⟨1, rfl, rfl⟩) fun fv s3 ⟨_, H3, I3, _, e3⟩ => Calls.spliced_nil ?_))))
    subst ey e3
    obtain ⟨t, rfl⟩ := (show ∃ t, iv = Value.str z t from ry)
    have key : ∃ u, PySem.W.nsIn X.K d z = some (some u) ∧ RelV (.int n) u := by
      unfold sizeOf? at hz
      have go : ∀ {x : Str} {i : Int}, KDct X.K X.w d x (.int i) → z = x → n = i → ∃ u, PySem.W.nsIn X.K d z = some (some u) ∧ RelV (.int n) u := fun ⟨_, _, u, _, _, e, r⟩ ex ei => ⟨u, by rw [ex]; exact e, by rw [ei]; exact r⟩
      by_cases h1 : z = "before"
      · rw [if_pos h1] at hz
        cases hz
        exact ⟨u0, by rw [h1]; assumption, by assumption⟩
      · rw [if_neg h1] at hz
        by_cases h2 : z = "first"
        · rw [if_pos h2] at hz
          cases hz
          exact go k2 h2 rfl
        · rw [if_neg h2] at hz
          by_cases h3 : z = "last"
          · rw [if_pos h3] at hz
            cases hz
            exact go k3 h3 rfl
          · rw [if_neg h3] at hz
            cases hz
    obtain ⟨u, hu, ru⟩ := key
    have hmap := PySem.W.mapOf_K (prog := X.prog) (w := X.w) I3.kIn hl hk
    refine call_meetsIn PySem.F.slot_dict_get hmap.typeIs PySem.F.entry_dict_get (PySem.F.args_dict_get_3 _ _ _) (meets_dict_get_default (strKind X.prog X.w) d (strKind_is X.prog X.w z t) hds fv) ⟨_, hmap, ?_⟩
    rw [PySem.W.find_K hl hu]
    exact ⟨.int n, H3, I3.tok _, ru, q2⟩
  refine ⟨_, pe, ?_⟩
  refine h σ H _ ev me fun v w H1 d hx k1 m1 => ?_
  obtain ⟨z, rfl, n, hn, p⟩ := hx.ex
  exact ⟨z, n, D.str_iff.mp d, hn, q _ (.int n) H1 (D.int _) p k1 m1⟩
section
variable {P : Program} {w : World} {K : PySem.W.Frag} {mg : Str → Option Value} {base : Heap}
theorem cal_DK {x : Str} {st : Stmt} {N ps : List Str} {k : Nat} {F : DSpec} (G : GDef K mg x st) (S : FnScope N ps (C8.fnScope st))
    (hb : ∀ (kV doc pm : Value) (an : Option Addr) (cdv ct : Value) (us : List Value), us.length = ps.length → bindArgs (PySem.W.fnOf x x (C8.fnArgs st) (C8.fnBody st) (C8.fnScope st) .none kV doc pm an cdv ct) ⟨us, []⟩ = pure (ps.zip us))
    (hbk : ∀ (kV doc pm : Value) (an : Option Addr) (cdv ct : Value) (us : List Value), us.length = ps.length → bindArgs (PySem.W.fnOf x x (C8.fnArgs st) (C8.fnBody st) (C8.fnScope st) .none kV doc pm an cdv ct) ⟨[], ps.zip us⟩ = pure (ps.zip us))
    (len : ∀ ws P, F ws P → ws.length = ps.length)
    (hbody : ∀ (f : Addr) (cdv : Value) (A : Around) (outer : List Env) (s : Shared) (H : Hp) (E : XK) (ex : List Addr) (T : List (Addr × Str)) (ws : List W) (P' : W → Prop), Room k (A.deeper (envOfC x (C8.fnScope st) s.heap.objs.size f cdv)) → F ws P' →
      WSs (bx P w K mg base N x st f cdv A outer s H E) { ρ := rho0 N ws, ex := ex, T := T } (C8.fnBody st) (fun _ => P' .non) P') : C8.Cal P w K mg base (k + 1) x (spD F) [] ∧ CalK P w K mg base (k + 1) x ps (spD F) := by
  refine ⟨cal_D G S hb len hbody, ?_⟩
  obtain ⟨f, fd, FD, hm⟩ := G.ex
  have FD0 := FD
  have hK : ∀ (s : Shared) (us : List Value), us.length = ps.length → BindsTo s fd ⟨[], ps.zip us⟩ (ps.zip us) := by
    obtain ⟨oc, od, dV, kV, doc, pm, an, cdv, ct, osl, e, lk, hcd, hD, _⟩ := FD.ex
    subst e
    rcases hD with ⟨_, rfl⟩ | ⟨e, _⟩
    · intro s us hl
      exact .of_eq (hbk kV doc pm an cdv ct us hl)
    · exact absurd rfl e
  exact ⟨f, fd, C8.fn0 (FunD.toFun FD0) S (fun vs H Q E ⟨ex, ws, T, P', d, _, _, _, h, _⟩ => by rw [d.len]; exact len ws P' h) (bodyD hbody), hm, FD0.kp, hK⟩
/-! ### facts -/
structure IsFact (f : List Str) : Prop where
  ex : ∃ z r, f = z :: r ∧ sizeOf? z = some ((r.length + 1 : Nat) : Int) ∧ Nms r ∧ IsNm z ∧ r.length ≤ 2
abbrev fIsFact : DSpec := fun ws P => ∃ f, ws = [wt f] ∧ IsFact f ∧ P (.bl true)
theorem sc_is_fact : FnScope ["value", "name"] ["value"] (C8.fnScope (top 37)) := C8.fnScope_by (by decide +kernel)
theorem ok_is_fact (G : GDef K mg "is_fact" (top 37)) (T : Txt K mg) (S : SzF K w mg) (c1 : C8.Cal P w K mg base 1 "is_name" (spD fIsName) []) : C8.Cal P w K mg base 2 "is_fact" (spD fIsFact) [] := by
  have nd := sc_is_fact.nd
  refine cal_D G sc_is_fact (fun _ _ _ _ _ _ us hl => match us, hl with | [_], _ => rfl) (fun ws P ⟨f, e, _⟩ => by rw [e]; rfl) fun f cdv A outer s H E ex T' ws P' hr h => ?_
  obtain ⟨f, rfl, ⟨z, r, rfl, hs, hn, hz, hl⟩, p⟩ := h
  repeat walk_at "k"
  refine we_sizes S (by rfl) ⟨by rfl, by rfl, by rfl, by rfl⟩ ?_
  repeat walk_at "k"
  refine ⟨_, hs, ?_⟩
  repeat walk_at "k"
  refine ifD (by rw [strs_len, List.length_cons]) ?_
  repeat walk_at "k"
  refine we_lc [("name", 1)] rfl nd (blkOk_by (own := [("name", 1)]) (N := ["value", "name"]) (sc := C8.fnScope (top 37)) (by decide +kernel)) (wlc_M (x_iterT ?_))
  repeat walk_at "k"
  have e : ((z :: r).map W.str).drop 1 = r.map W.str := rfl
  rw [e]
  refine ⟨by rw [strs_len]; exact line_of (by omega), fun _ _ => .bl true, fun i d hd Dd => ?_, _, bls_const, ?_⟩
  · obtain ⟨y, hk, rfl⟩ := strs_get hd
    repeat walk_at "k"
    refine we_c c1 ‹Room _ _› (by decide) rfl ?_
    repeat walk_at "k"
    exact ⟨hn y (List.mem_of_getElem? hk), rfl⟩
  · rw [all_rep]
    exact p
structure IsMark (m : Str × List Str) : Prop where
  nm : IsNm m.1
  fact : IsFact m.2
abbrev fIsMark : DSpec := fun ws P => ∃ m, ws = [wWord m] ∧ IsMark m ∧ P (.bl true)
theorem sc_is_marked_fact : FnScope ["value"] ["value"] (C8.fnScope (top 38)) := C8.fnScope_by (by decide +kernel)
theorem ok_is_marked_fact (G : GDef K mg "is_marked_fact" (top 38)) (T : Txt K mg) (c1 : C8.Cal P w K mg base 1 "is_name" (spD fIsName) []) (c2 : C8.Cal P w K mg base 2 "is_fact" (spD fIsFact) []) : C8.Cal P w K mg base 3 "is_marked_fact" (spD fIsMark) [] := by
  have nd := sc_is_marked_fact.nd
  refine cal_D G sc_is_marked_fact (fun _ _ _ _ _ _ us hl => match us, hl with | [_], _ => rfl) (fun ws P ⟨f, e, _⟩ => by rw [e]; rfl) fun f cdv A outer s H E ex T' ws P' hr h => ?_
  obtain ⟨m, rfl, hm, p⟩ := h
  repeat walk_at "k"
  refine we_c c1 ‹Room _ _› (by decide) rfl ?_
  repeat walk_at "k"
  refine ⟨hm.nm, ?_⟩
  repeat walk_at "k"
  refine we_c c2 ‹Room _ _› (by decide) rfl ?_
  repeat walk_at "k"
  exact ⟨hm.fact, p⟩
abbrev fRow (m : Str × List Str) : List Str := "fact" :: m.1 :: m.2
structure IsMarks (ms : List (Str × List Str)) : Prop where
  wd : ∀ m ∈ ms, IsMark m
  nd : (ms.map (·.1)).Nodup
  len : ms.length ≤ 30
theorem fact_nms {f : List Str} (h : IsFact f) : Nms f ∧ f.length ≤ 3 := by
  obtain ⟨z, r, rfl, _, hn, hz, hl⟩ := h.ex
  exact ⟨nms_cons hz hn, by rw [List.length_cons]; omega⟩
theorem fact_rows {ms : List (Str × List Str)} (h : IsMarks ms) : ∀ r ∈ ms.map fRow, IsRow r := fun r hr => by
  obtain ⟨m, hm, rfl⟩ := List.mem_map.mp hr
  have hk := h.wd m hm
  obtain ⟨h1, h2⟩ := fact_nms hk.fact
  exact ⟨nms_cons nm_fact (nms_cons hk.nm h1), by simp, by rw [List.length_cons, List.length_cons]; omega⟩
abbrev fWriteFacts : DSpec := fun ws P => ∃ (ms : List (Str × List Str)) (u : W), ws = [u] ∧ (u = .lst (ms.map wWord) ∨ u = .tup (ms.map wWord)) ∧ IsMarks ms ∧ P (.str (rowsT (ms.map fRow)))
theorem sc_write_facts : FnScope ["facts", "mark", "fact"] ["facts"] (C8.fnScope (top 39)) := C8.fnScope_by (by decide +kernel)
theorem ok_write_facts (G : GDef K mg "write_facts" (top 39)) (T : Txt K mg) (c1 : C8.Cal P w K mg base 1 "joined_lines" (spD fJoinedLines) []) : C8.Cal P w K mg base 2 "write_facts" (spD fWriteFacts) [] ∧ CalK P w K mg base 2 "write_facts" ["facts"] (spD fWriteFacts) := by
  have nd := sc_write_facts.nd
  refine cal_DK G sc_write_facts (fun _ _ _ _ _ _ us hl => match us, hl with | [_], _ => rfl) (fun _ _ _ _ _ _ us hl => match us, hl with | [_], _ => rfl) (fun ws P ⟨ms, u, e, _⟩ => by rw [e]; rfl) fun f cdv A outer s H E ex T' ws P' hr h => ?_
  obtain ⟨ms, u, rfl, hu, hm, p⟩ := h
  have hlen : (ms.map wWord).length = ms.length := by simp
  have h30 := hm.len
  have hrows := fact_rows hm
  have e : ((ms.map fRow).map rowT).map W.str = ms.map fun m => W.str (rowT (fRow m)) := by rw [List.map_map, List.map_map]; rfl
  have turn : ∀ {i : Nat} {m : Str × List Str}, ms[i]? = some m → IsRow (fRow m) := fun {i m} h => hrows _ (List.mem_map.mpr ⟨m, List.mem_of_getElem? h, rfl⟩)
  refine wss_cons (ws_ret (we_c c1 ‹Room _ _› (by decide) rfl ?_))
  rcases hu with rfl | rfl
  · refine wa_cons (we_lc [("mark", 1), ("fact", 2)] rfl nd (blkOk_by (own := [("mark", 1), ("fact", 2)]) (N := ["facts", "mark", "fact"]) (sc := C8.fnScope (top 39)) (by decide +kernel)) (wlc_M (x_iterL ?_)))
    repeat walk_at "k"
    refine ⟨by rw [hlen]; exact line_of (by omega), fun i _ => (ms[i]?).elim .non (fun m => .str (rowT (fRow m))), fun i d hd Dd => ?_, ?_⟩
    · obtain ⟨m, hm', rfl⟩ := words_get hd
      have hrow := turn hm'
      have hrl := hrow.len
      repeat walk_at "k"
      refine ⟨line_of (by rw [List.length_cons, List.length_cons, List.append_nil, strs_len]; rw [List.length_cons, List.length_cons] at hrl; omega), ?_⟩
      repeat walk_at "k"
      refine ⟨fRow m, by simp, row_sum hrow, ?_⟩
      show _ = Option.elim _ _ _
      rw [hm']
      rfl
    rw [idx_map, ← e]
    repeat walk_at "k"
    exact ⟨rows_lns hrows (by rw [List.length_map]; omega), p⟩
  · refine wa_cons (we_lc [("mark", 1), ("fact", 2)] rfl nd (blkOk_by (own := [("mark", 1), ("fact", 2)]) (N := ["facts", "mark", "fact"]) (sc := C8.fnScope (top 39)) (by decide +kernel)) (wlc_M (x_iterT ?_)))
    repeat walk_at "k"
    refine ⟨by rw [hlen]; exact line_of (by omega), fun i _ => (ms[i]?).elim .non (fun m => .str (rowT (fRow m))), fun i d hd Dd => ?_, ?_⟩
    · obtain ⟨m, hm', rfl⟩ := words_get hd
      have hrow := turn hm'
      have hrl := hrow.len
      repeat walk_at "k"
      refine ⟨line_of (by rw [List.length_cons, List.length_cons, List.append_nil, strs_len]; rw [List.length_cons, List.length_cons] at hrl; omega), ?_⟩
      repeat walk_at "k"
      refine ⟨fRow m, by simp, row_sum hrow, ?_⟩
      show _ = Option.elim _ _ _
      rw [hm']
      rfl
    rw [idx_map, ← e]
    repeat walk_at "k"
    exact ⟨rows_lns hrows (by rw [List.length_map]; omega), p⟩
abbrev fFactIn : DSpec := fun ws P => ∃ m, ws = [wl (fRow m)] ∧ IsMark m ∧ P (wWord m)
theorem sc_fact_in : FnScope ["words", "marked"] ["words"] (C8.fnScope (top 40)) := C8.fnScope_by (by decide +kernel)
theorem ok_fact_in (G : GDef K mg "fact_in" (top 40)) (T : Txt K mg) (c1 : C8.Cal P w K mg base 3 "is_marked_fact" (spD fIsMark) []) : C8.Cal P w K mg base 4 "fact_in" (spD fFactIn) [] := by
  have nd := sc_fact_in.nd
  refine cal_D G sc_fact_in (fun _ _ _ _ _ _ us hl => match us, hl with | [_], _ => rfl) (fun ws P ⟨f, e, _⟩ => by rw [e]; rfl) fun f cdv A outer s H E ex T' ws P' hr h => ?_
  obtain ⟨m, rfl, hm, p⟩ := h
  repeat walk_at "k"
  refine we_c c1 ‹Room _ _› (by decide) rfl ?_
  repeat walk_at "k"
  first | refine ⟨m, rfl, hm, ?_⟩ | refine ⟨hm, ?_⟩
  repeat walk_at "k"
  exact p
abbrev fFaultFact : DSpec := fun ws P => ∃ (m : Str × List Str) (ms : List (Str × List Str)), ws = [wWord m, .lst (ms.map wWord)] ∧ m.1 ∉ ms.map (·.1) ∧ ms.length < 30 ∧ P (.str "")
theorem sc_fault_of_fact : FnScope ["marked", "earlier", "mark", "fact"] ["marked", "earlier"] (C8.fnScope (top 41)) := C8.fnScope_by (by decide +kernel)
theorem ok_fault_of_fact (G : GDef K mg "fault_of_fact" (top 41)) (T : Txt K mg) (T2 : Tx2 K mg) : C8.Cal P w K mg base 1 "fault_of_fact" (spD fFaultFact) [] := by
  have nd := sc_fault_of_fact.nd
  refine cal_D G sc_fault_of_fact (fun _ _ _ _ _ _ us hl => match us, hl with | [_, _], _ => rfl) (fun ws P ⟨m, ms, e, _⟩ => by rw [e]; rfl) fun f cdv A outer s H E ex T' ws P' hr h => ?_
  obtain ⟨m, ms, rfl, hm, h30, p⟩ := h
  have hlen : (ms.map wWord).length = ms.length := by simp
  repeat walk_at "k"
  refine ifDn (by rw [hlen]; omega) ?_
  repeat walk_at "k"
  refine we_lc [("mark", 2), ("fact", 3)] rfl nd (blkOk_by (own := [("mark", 2), ("fact", 3)]) (N := ["marked", "earlier", "mark", "fact"]) (sc := C8.fnScope (top 41)) (by decide +kernel)) (wlc_M (x_iterL ?_))
  repeat walk_at "k"
  refine ⟨by rw [hlen]; exact line_of (by omega), fun _ d => match d with | .tup [x, _] => x | _ => .non, fun i d hd Dd => ?_, ?_⟩
  · obtain ⟨q, hq', rfl⟩ := words_get hd
    repeat walk_at "k"
    rfl
  rw [map_idx_eq (h := fun q => W.str q.1) (fun _ _ _ => rfl), show ms.map (fun q => W.str q.1) = (ms.map (·.1)).map W.str by rw [List.map_map]; rfl]
  refine ⟨_, rfl, ?_⟩
  refine ifDn hm ?_
  repeat walk_at "k"
  exact p
end
end K11
/-! PD8 -/
namespace K11
open PySem PySem.Spec PyProof.Rows L2
local macro_rules | `(tactic| walk_at "n") => `(tactic| first
  | refine we_name 0 rfl (by first | exact .inl rfl | exact .inr (.inl rfl) | exact .inr (.inr rfl)) rfl ?_
  | refine we_name 1 rfl (by first | exact .inl rfl | exact .inr (.inl rfl) | exact .inr (.inr rfl)) rfl ?_
  | refine we_name 2 rfl (by first | exact .inl rfl | exact .inr (.inl rfl) | exact .inr (.inr rfl)) rfl ?_
  | refine we_name 3 rfl (by first | exact .inl rfl | exact .inr (.inl rfl) | exact .inr (.inr rfl)) rfl ?_
  | refine we_name 4 rfl (by first | exact .inl rfl | exact .inr (.inl rfl) | exact .inr (.inr rfl)) rfl ?_
  | refine we_name 5 rfl (by first | exact .inl rfl | exact .inr (.inl rfl) | exact .inr (.inr rfl)) rfl ?_
  | refine we_name 6 rfl (by first | exact .inl rfl | exact .inr (.inl rfl) | exact .inr (.inr rfl)) rfl ?_
  | refine we_name 7 rfl (by first | exact .inl rfl | exact .inr (.inl rfl) | exact .inr (.inr rfl)) rfl ?_
  | refine we_name 8 rfl (by first | exact .inl rfl | exact .inr (.inl rfl) | exact .inr (.inr rfl)) rfl ?_
  | refine we_name 9 rfl (by first | exact .inl rfl | exact .inr (.inl rfl) | exact .inr (.inr rfl)) rfl ?_
  | refine we_name 10 rfl (by first | exact .inl rfl | exact .inr (.inl rfl) | exact .inr (.inr rfl)) rfl ?_
  | refine we_name 11 rfl (by first | exact .inl rfl | exact .inr (.inl rfl) | exact .inr (.inr rfl)) rfl ?_
  | refine we_name 12 rfl (by first | exact .inl rfl | exact .inr (.inl rfl) | exact .inr (.inr rfl)) rfl ?_
  | refine we_name 13 rfl (by first | exact .inl rfl | exact .inr (.inl rfl) | exact .inr (.inr rfl)) rfl ?_
  | refine we_gint rfl (Txt.mLetters ‹_›) ?_
  | refine we_gstr rfl (Txt.letters ‹_›) ?_
  | refine we_gint rfl (Tx2.mFB ‹_›) ?_
  | refine we_gint rfl (Tx2.mW ‹_›) ?_
  | refine we_gint rfl (Tx2.mF ‹_›) ?_
  | refine we_gint rfl (Tx2.mFT ‹_›) ?_
  | refine we_gint rfl (Tx2.mK ‹_›) ?_)
local macro_rules | `(tactic| walk_at "cmp") => `(tactic| first
  | refine xt_eq ‹Room _ _› ?_
  | refine xt_ne ‹Room _ _› ?_
  | refine xt_lt ?_
  | refine xt_le ?_
  | refine xt_gt ?_
  | refine xt_ge ?_
  | refine wt_isN ?_
  | refine xt_in rfl ?_
  | refine xt_nin rfl ?_
  | refine x_chain (by with_unfolding_all rfl) ?_)
local macro_rules | `(tactic| walk_at "ecmp") => `(tactic| first
  | refine xe_eq ‹Room _ _› ?_
  | refine xe_ne ‹Room _ _› ?_
  | refine xe_lt ?_
  | refine xe_le ?_
  | refine xe_gt ?_
  | refine xe_ge ?_
  | refine we_isN ?_
  | refine xe_in rfl ?_
  | refine xe_nin rfl ?_)
local macro_rules | `(tactic| walk_at "t") => `(tactic| first
  | (show WT _ _ (.Compare _ _ _ _) _; walk_at "cmp")
  | refine wt_or ?_
  | refine wt_and ?_
  | refine wt_not ?_
  | refine x_val (by intro _; rfl) ?_)
local macro_rules | `(tactic| walk_at "b") => `(tactic| first
  | refine xe_len ‹Txt _ _› rfl rfl ?_
  | refine x_isi_str ‹Txt _ _› rfl rfl rfl rfl ?_
  | refine x_isi_tup ‹Txt _ _› rfl rfl rfl rfl ?_
  | refine x_isi_lst ‹Txt _ _› rfl rfl rfl rfl ?_
  | refine x_isi_bool ‹Txt _ _› rfl rfl rfl rfl ?_
  | refine x_isi_int ‹Txt _ _› rfl rfl rfl rfl ?_
  | refine x_isi_lt ‹Txt _ _› rfl rfl rfl rfl rfl ?_
  | refine x_all ‹Txt _ _› rfl rfl rfl ?_
  | refine x_tuple ‹Txt _ _› rfl rfl ?_
  | refine x_list ‹Txt _ _› rfl rfl ?_
  | refine x_sorted ‹Txt _ _› rfl rfl ?_
  | refine x_str ‹Txt _ _› rfl rfl ?_
  | refine x_int ‹Txt _ _› rfl rfl ?_
  | refine x_min ‹Txt _ _› rfl rfl rfl rfl rfl ?_)
local macro_rules | `(tactic| walk_at "e") => `(tactic| first
  | (show WE _ _ (.Name _ _) _; walk_at "n")
  | (show WE _ _ (.Constant _ _ _) _; first | refine we_int ?_ | refine we_str ?_ | refine we_bl ?_ | refine we_non ?_)
  | (show WE _ _ (.Call (.Name _ _) _ _ _) _; walk_at "b")
  | (show WE _ _ (.Compare _ _ _ _) _; walk_at "ecmp")
  | (show WE _ _ (.Subscript _ _ _) _; first | refine xe_sl ?_ | refine xe_ix (fun _ _ => rfl) ?_)
  | (show WE _ _ (.BinOp _ _ _ _) _; first | refine xe_add ?_ | refine xe_sub ?_ | refine xe_mul ?_ | refine xe_mod ?_ | refine xe_fdiv ?_)
  | (show WE _ _ (.Call (.Attribute _ _ _) _ _ _) _; first | refine x_split rfl rfl rfl ?_ | refine x_join rfl rfl rfl ?_)
  | (show WE _ _ (.Attribute _ _ _) _; refine we_fld ?_ rfl)
  | refine we_lst (k := 0) ?_
  | refine we_tup (k := _) ?_
  | refine we_if ?_
  | refine x_and ?_
  | refine x_or ?_
  | refine we_one ?_
  | refine x_not ?_
  | refine x_fstr2 ?_)
local macro_rules | `(tactic| walk_at "ss") => `(tactic| first
  | refine vs_set 0 ‹List.Nodup _› rfl (by first | exact .inl rfl | exact .inr rfl) (by first | exact .inl rfl | exact .inr rfl) rfl ?_
  | refine vs_set 1 ‹List.Nodup _› rfl (by first | exact .inl rfl | exact .inr rfl) (by first | exact .inl rfl | exact .inr rfl) rfl ?_
  | refine vs_set 2 ‹List.Nodup _› rfl (by first | exact .inl rfl | exact .inr rfl) (by first | exact .inl rfl | exact .inr rfl) rfl ?_
  | refine vs_set 3 ‹List.Nodup _› rfl (by first | exact .inl rfl | exact .inr rfl) (by first | exact .inl rfl | exact .inr rfl) rfl ?_
  | refine vs_set 4 ‹List.Nodup _› rfl (by first | exact .inl rfl | exact .inr rfl) (by first | exact .inl rfl | exact .inr rfl) rfl ?_
  | refine vs_set 5 ‹List.Nodup _› rfl (by first | exact .inl rfl | exact .inr rfl) (by first | exact .inl rfl | exact .inr rfl) rfl ?_
  | refine vs_set 6 ‹List.Nodup _› rfl (by first | exact .inl rfl | exact .inr rfl) (by first | exact .inl rfl | exact .inr rfl) rfl ?_
  | refine vs_set 7 ‹List.Nodup _› rfl (by first | exact .inl rfl | exact .inr rfl) (by first | exact .inl rfl | exact .inr rfl) rfl ?_
  | refine vs_set 8 ‹List.Nodup _› rfl (by first | exact .inl rfl | exact .inr rfl) (by first | exact .inl rfl | exact .inr rfl) rfl ?_
  | refine vs_set 9 ‹List.Nodup _› rfl (by first | exact .inl rfl | exact .inr rfl) (by first | exact .inl rfl | exact .inr rfl) rfl ?_
  | refine vs_set 10 ‹List.Nodup _› rfl (by first | exact .inl rfl | exact .inr rfl) (by first | exact .inl rfl | exact .inr rfl) rfl ?_
  | refine vs_set 11 ‹List.Nodup _› rfl (by first | exact .inl rfl | exact .inr rfl) (by first | exact .inl rfl | exact .inr rfl) rfl ?_)
local macro_rules | `(tactic| walk_at "nl") => `(tactic| first
  | refine vs_newlst 0 ‹List.Nodup _› rfl (by first | exact .inl rfl | exact .inr rfl) (by first | exact .inl rfl | exact .inr rfl) fun _ => ?_
  | refine vs_newlst 1 ‹List.Nodup _› rfl (by first | exact .inl rfl | exact .inr rfl) (by first | exact .inl rfl | exact .inr rfl) fun _ => ?_
  | refine vs_newlst 2 ‹List.Nodup _› rfl (by first | exact .inl rfl | exact .inr rfl) (by first | exact .inl rfl | exact .inr rfl) fun _ => ?_
  | refine vs_newlst 3 ‹List.Nodup _› rfl (by first | exact .inl rfl | exact .inr rfl) (by first | exact .inl rfl | exact .inr rfl) fun _ => ?_
  | refine vs_newlst 4 ‹List.Nodup _› rfl (by first | exact .inl rfl | exact .inr rfl) (by first | exact .inl rfl | exact .inr rfl) fun _ => ?_
  | refine vs_newlst 5 ‹List.Nodup _› rfl (by first | exact .inl rfl | exact .inr rfl) (by first | exact .inl rfl | exact .inr rfl) fun _ => ?_
  | refine vs_newlst 6 ‹List.Nodup _› rfl (by first | exact .inl rfl | exact .inr rfl) (by first | exact .inl rfl | exact .inr rfl) fun _ => ?_
  | refine vs_newlst 7 ‹List.Nodup _› rfl (by first | exact .inl rfl | exact .inr rfl) (by first | exact .inl rfl | exact .inr rfl) fun _ => ?_
  | refine vs_newlst 8 ‹List.Nodup _› rfl (by first | exact .inl rfl | exact .inr rfl) (by first | exact .inl rfl | exact .inr rfl) fun _ => ?_
  | refine vs_newlst 9 ‹List.Nodup _› rfl (by first | exact .inl rfl | exact .inr rfl) (by first | exact .inl rfl | exact .inr rfl) fun _ => ?_
  | refine vs_newlst 10 ‹List.Nodup _› rfl (by first | exact .inl rfl | exact .inr rfl) (by first | exact .inl rfl | exact .inr rfl) fun _ => ?_
  | refine vs_newlst 11 ‹List.Nodup _› rfl (by first | exact .inl rfl | exact .inr rfl) (by first | exact .inl rfl | exact .inr rfl) fun _ => ?_)
local macro_rules | `(tactic| walk_at "gn") => `(tactic| first
  | refine vg_name 0 ‹List.Nodup _› rfl (by first | exact .inl rfl | exact .inr rfl) (by first | exact .inl rfl | exact .inr rfl) (by decide) ?_
  | refine vg_name 1 ‹List.Nodup _› rfl (by first | exact .inl rfl | exact .inr rfl) (by first | exact .inl rfl | exact .inr rfl) (by decide) ?_
  | refine vg_name 2 ‹List.Nodup _› rfl (by first | exact .inl rfl | exact .inr rfl) (by first | exact .inl rfl | exact .inr rfl) (by decide) ?_
  | refine vg_name 3 ‹List.Nodup _› rfl (by first | exact .inl rfl | exact .inr rfl) (by first | exact .inl rfl | exact .inr rfl) (by decide) ?_
  | refine vg_name 4 ‹List.Nodup _› rfl (by first | exact .inl rfl | exact .inr rfl) (by first | exact .inl rfl | exact .inr rfl) (by decide) ?_
  | refine vg_name 5 ‹List.Nodup _› rfl (by first | exact .inl rfl | exact .inr rfl) (by first | exact .inl rfl | exact .inr rfl) (by decide) ?_
  | refine vg_name 6 ‹List.Nodup _› rfl (by first | exact .inl rfl | exact .inr rfl) (by first | exact .inl rfl | exact .inr rfl) (by decide) ?_
  | refine vg_name 7 ‹List.Nodup _› rfl (by first | exact .inl rfl | exact .inr rfl) (by first | exact .inl rfl | exact .inr rfl) (by decide) ?_
  | refine vg_name 8 ‹List.Nodup _› rfl (by first | exact .inl rfl | exact .inr rfl) (by first | exact .inl rfl | exact .inr rfl) (by decide) ?_
  | refine vg_name 9 ‹List.Nodup _› rfl (by first | exact .inl rfl | exact .inr rfl) (by first | exact .inl rfl | exact .inr rfl) (by decide) ?_
  | refine vg_name 10 ‹List.Nodup _› rfl (by first | exact .inl rfl | exact .inr rfl) (by first | exact .inl rfl | exact .inr rfl) (by decide) ?_
  | refine vg_name 11 ‹List.Nodup _› rfl (by first | exact .inl rfl | exact .inr rfl) (by first | exact .inl rfl | exact .inr rfl) (by decide) ?_)
local macro_rules | `(tactic| walk_at "k") => `(tactic| first
  | (with_reducible show IntW _ _; refine int_i ?_)
  | (with_reducible show StrW _ _; refine str_i ?_)
  | (with_reducible show LstW _ _; refine lst_i ?_)
  | (with_reducible show TupW _ _; refine tup_i ?_)
  | (with_reducible show BlW _ _; refine bl_i ?_)
  | (with_reducible show SeqW _ _; first | refine seqL_i ?_ | refine seqT_i ?_)
  | (with_reducible show LenW _ _; first | refine lenL_i ?_ | refine lenT_i ?_)
  | (with_reducible show IxW _ _ _; first | refine ixL_i 0 rfl rfl ?_ | refine ixL_i 1 rfl rfl ?_ | refine ixL_i 2 rfl rfl ?_ | refine ixT_i 0 rfl rfl ?_ | refine ixT_i 1 rfl rfl ?_)
  | (with_reducible show SlW _ _ _ _; first | refine slL_from 1 rfl ?_ | refine slL_from 2 rfl ?_ | refine slT_from 1 rfl ?_)
  | (show WE _ _ _ _; walk_at "e")
  | (show WT _ _ _ _; walk_at "t")
  | (show WSs _ _ _ _ _; first | refine wss_cons ?_ | refine wss_nil ?_)
  | (show WS _ _ _ _ _; first | refine ws_if ?_ | refine ws_ret ?_ | refine ws_retN ?_ | (show WS _ _ (.Assign [.Name _ _] (.List [] _) _) _ _; walk_at "nl") | (show WS _ _ (.Assign [.Name _ _] _ _) _ _; walk_at "ss"))
  | (show WG _ _ _ _ _ _; first | refine xg_tup rfl rfl rfl ?_ | walk_at "gn")
  | (show WGs _ _ _ _ _ _; first | refine vgs_cons rfl ?_ | refine vgs_nil ?_)
  | (show WAs _ _ _ _; first | refine wa_nil ?_ | refine wa_star ?_ | refine wa_cons ?_)
  | (show WTw _ _ _ _; first | refine ww_or ?_ | refine ww_and ?_ | refine ww_or1 ?_ | refine ww_and1 ?_)
  | (show WO _ _ _ _; first | refine wo_none ?_ | refine wo_int ?_)
  | refine fam_i fun _ _ _ _ _ => ?_
  | refine iteT ?_
  | refine iteF ?_
  | refine ⟨rfl, ?_⟩
  | refine ⟨_, rfl, ?_⟩
  | refine ⟨lit_line rfl, ?_⟩
  | refine ⟨_, .inl rfl, ?_⟩
  | refine ⟨_, .inr rfl, ?_⟩
  | walk_at "x")
section
variable {P : Program} {w : World} {K : PySem.W.Frag} {mg : Str → Option Value} {base : Heap}
theorem rows_get {rs : List (List Str)} {i : Nat} {d : W} (h : (enumW ((rs.map rowT).map W.str))[i]? = some d) : ∃ r, rs[i]? = some r ∧ d = .tup [.int (i : Int), .str (rowT r)] := by
  obtain ⟨z, hz, rfl⟩ := enumS_get h
  rw [List.getElem?_map] at hz
  cases q : rs[i]? with
  | none => rw [q] at hz; cases hz
  | some r => rw [q] at hz; cases hz; exact ⟨r, rfl, rfl⟩
theorem map_get {α β : Type} {l : List α} {g : α → β} {i : Nat} {b : β} (h : (l.map g)[i]? = some b) : ∃ a, l[i]? = some a ∧ b = g a := by
  rw [List.getElem?_map] at h
  cases q : l[i]? with
  | none => rw [q] at h; cases h
  | some a => rw [q] at h; cases h; exact ⟨a, rfl, rfl⟩
theorem take_snoc {α : Type} {l : List α} {g : α → W} {i : Nat} {a : α} (h : l[i]? = some a) : (l.take (i + 1)).map g = (l.take i).map g ++ [g a] := by
  rw [List.take_add_one, h, List.map_append]
  rfl
abbrev fReadFacts : DSpec := fun ws P => ∃ ms, ws = [.str (rowsT (ms.map fRow))] ∧ IsMarks ms ∧ P (.lst (ms.map wWord))
theorem sc_read_facts : FnScope ["text", "lines", "tail", "found", "at", "line", "marked"] ["text"] (C8.fnScope (top 42)) := C8.fnScope_by (by decide +kernel)
theorem ok_read_facts (G : GDef K mg "read_facts" (top 42)) (T : Txt K mg) (c1 : C8.Cal P w K mg base 1 "split_lines" (spD fSplitLines) []) (c3 : C8.Cal P w K mg base 1 "check_line" (spD fCheckLine) [])
    (c4 : C8.Cal P w K mg base 1 "check_tail" (spD fCheckTail) []) (c5 : C8.Cal P w K mg base 4 "fact_in" (spD fFactIn) []) (c6 : C8.Cal P w K mg base 1 "fault_of_fact" (spD fFaultFact) []) : C8.Cal P w K mg base 5 "read_facts" (spD fReadFacts) [] ∧ CalK P w K mg base 5 "read_facts" ["text"] (spD fReadFacts) := by
  have nd := sc_read_facts.nd
  refine cal_DK G sc_read_facts (fun _ _ _ _ _ _ us hl => match us, hl with | [_], _ => rfl) (fun _ _ _ _ _ _ us hl => match us, hl with | [_], _ => rfl) (fun ws P ⟨ms, e, _⟩ => by rw [e]; rfl) fun f cdv A outer s H E ex T' ws P' hr h => ?_
  obtain ⟨ms, rfl, hm, p⟩ := h
  have h30 := hm.len
  have hrows := fact_rows hm
  have hln : Lns ((ms.map fRow).map rowT) := rows_lns hrows (by rw [List.length_map]; omega)
  refine wss_cons (vs_asg [1, 2] rfl rfl rfl (we_c c1 ‹Room _ _› (by decide) rfl ?_))
  refine wa_cons ?_
  walk_at "n"
  refine wa_nil ⟨_, rfl, hln, ?_⟩
  repeat walk_at "k"
  rename_i l
  refine ws_for [4, 5] PassesOwn.never rfl (x_enum ‹Txt _ _› rfl rfl ?_)
  repeat walk_at "k"
  refine ⟨fun i c1 => ∃ r4 r5 r6 : Option Th, c1 = ⟨[some (.dat (.str (rowsT (ms.map fRow)))), some (.dat (wl ((ms.map fRow).map rowT))), some (.dat (.str "")), some (.adr l), r4, r5, r6], [(l, .lst ((ms.take i).map wWord))], none, ex, T'⟩, ⟨_, _, _, rfl⟩, fun i c1' d hd ⟨r4, r5, r6, e⟩ => ?_, fun c1' ⟨r4, r5, r6, e⟩ => ?_⟩
  · subst e
    obtain ⟨r, hr', rfl⟩ := rows_get hd
    obtain ⟨m, hm', rfl⟩ := map_get hr'
    have hrow := hrows (fRow m) (List.mem_map.mpr ⟨m, List.mem_of_getElem? hm', rfl⟩)
    have hlt : i < ms.length := (List.getElem?_eq_some_iff.mp hm').1
    have hnot : m.1 ∉ (ms.take i).map (·.1) := by
      rw [List.map_take]
      exact not_before hm.nd (by rw [List.getElem?_map, hm']; rfl)
    repeat walk_at "k"
    refine we_c c5 ‹Room _ _› (by decide) rfl ?_
    repeat walk_at "k"
    refine ⟨line6 (by have := row_len hrow; omega), ?_⟩
    rw [row_split hrow]
    repeat walk_at "k"
    first | refine ⟨m, rfl, hm.wd m (List.mem_of_getElem? hm'), ?_⟩ | refine ⟨hm.wd m (List.mem_of_getElem? hm'), ?_⟩
    repeat walk_at "k"
    refine ws_expr (v_borrow 3 rfl (we_c c3 ‹Room _ _› (by decide) rfl ?_)) rfl
    repeat walk_at "k"
    refine we_c c6 ‹Room _ _› (by decide) rfl ?_
    repeat walk_at "k"
    refine ⟨m, ms.take i, rfl, hnot, by rw [List.length_take]; omega, ?_⟩
    repeat walk_at "k"
    refine ⟨⟨_, rfl⟩, ?_⟩
    repeat walk_at "k"
    refine vs_append 3 rfl (.inl rfl) rfl ?_ (fun a b => ps_expr (pe_bm PySem.F.plainAttrs_list PySem.F.slot_list_append PySem.F.type_list_append mt_append a (pa_cons b pa_nil)))
    repeat walk_at "k"
    refine ⟨line6 (by rw [List.length_map, List.length_take]; omega), ?_⟩
    repeat walk_at "k"
    have e := take_snoc (g := wWord) hm'
    dsimp only
    rw [e]
    exact ⟨_, _, _, rfl⟩
  · subst e
    have hn : (enumW (((ms.map fRow).map rowT).map W.str)).length = ms.length := by rw [enumW_len, List.length_map, List.length_map, List.length_map]
    rw [hn, List.take_length]
    refine v_freeze 3 rfl ?_
    repeat walk_at "k"
    refine ws_expr (we_c c4 ‹Room _ _› (by decide) rfl ?_) rfl
    repeat walk_at "k"
    exact p
end
end K11
/-! PD9 -/
namespace K11
open PySem PySem.Spec PyProof.Rows L2
local macro_rules | `(tactic| walk_at "n") => `(tactic| first
  | refine we_name 0 rfl (by first | exact .inl rfl | exact .inr (.inl rfl) | exact .inr (.inr rfl)) rfl ?_
  | refine we_name 1 rfl (by first | exact .inl rfl | exact .inr (.inl rfl) | exact .inr (.inr rfl)) rfl ?_
  | refine we_name 2 rfl (by first | exact .inl rfl | exact .inr (.inl rfl) | exact .inr (.inr rfl)) rfl ?_
  | refine we_name 3 rfl (by first | exact .inl rfl | exact .inr (.inl rfl) | exact .inr (.inr rfl)) rfl ?_
  | refine we_name 4 rfl (by first | exact .inl rfl | exact .inr (.inl rfl) | exact .inr (.inr rfl)) rfl ?_
  | refine we_name 5 rfl (by first | exact .inl rfl | exact .inr (.inl rfl) | exact .inr (.inr rfl)) rfl ?_
  | refine we_name 6 rfl (by first | exact .inl rfl | exact .inr (.inl rfl) | exact .inr (.inr rfl)) rfl ?_
  | refine we_name 7 rfl (by first | exact .inl rfl | exact .inr (.inl rfl) | exact .inr (.inr rfl)) rfl ?_
  | refine we_name 8 rfl (by first | exact .inl rfl | exact .inr (.inl rfl) | exact .inr (.inr rfl)) rfl ?_
  | refine we_name 9 rfl (by first | exact .inl rfl | exact .inr (.inl rfl) | exact .inr (.inr rfl)) rfl ?_
  | refine we_name 10 rfl (by first | exact .inl rfl | exact .inr (.inl rfl) | exact .inr (.inr rfl)) rfl ?_
  | refine we_name 11 rfl (by first | exact .inl rfl | exact .inr (.inl rfl) | exact .inr (.inr rfl)) rfl ?_
  | refine we_name 12 rfl (by first | exact .inl rfl | exact .inr (.inl rfl) | exact .inr (.inr rfl)) rfl ?_
  | refine we_name 13 rfl (by first | exact .inl rfl | exact .inr (.inl rfl) | exact .inr (.inr rfl)) rfl ?_
  | refine we_gint rfl (Txt.mLetters ‹_›) ?_
  | refine we_gstr rfl (Txt.letters ‹_›) ?_
  | refine we_gint rfl (Tx2.mFB ‹_›) ?_
  | refine we_gint rfl (Tx2.mW ‹_›) ?_
  | refine we_gint rfl (Tx2.mF ‹_›) ?_
  | refine we_gint rfl (Tx2.mFT ‹_›) ?_
  | refine we_gint rfl (Tx2.mK ‹_›) ?_)
local macro_rules | `(tactic| walk_at "cmp") => `(tactic| first
  | refine xt_eq ‹Room _ _› ?_
  | refine xt_ne ‹Room _ _› ?_
  | refine xt_lt ?_
  | refine xt_le ?_
  | refine xt_gt ?_
  | refine xt_ge ?_
  | refine wt_isN ?_
  | refine xt_in rfl ?_
  | refine xt_nin rfl ?_
  | refine x_chain (by with_unfolding_all rfl) ?_)
local macro_rules | `(tactic| walk_at "ecmp") => `(tactic| first
  | refine xe_eq ‹Room _ _› ?_
  | refine xe_ne ‹Room _ _› ?_
  | refine xe_lt ?_
  | refine xe_le ?_
  | refine xe_gt ?_
  | refine xe_ge ?_
  | refine we_isN ?_
  | refine xe_in rfl ?_
  | refine xe_nin rfl ?_)
local macro_rules | `(tactic| walk_at "t") => `(tactic| first
  | (show WT _ _ (.Compare _ _ _ _) _; walk_at "cmp")
  | refine wt_or ?_
  | refine wt_and ?_
  | refine wt_not ?_
  | refine x_val (by intro _; rfl) ?_)
local macro_rules | `(tactic| walk_at "b") => `(tactic| first
  | refine x_lenSet ‹Txt _ _› rfl rfl rfl rfl rfl ?_
  | refine xe_len ‹Txt _ _› rfl rfl ?_
  | refine x_isi_str ‹Txt _ _› rfl rfl rfl rfl ?_
  | refine x_isi_tup ‹Txt _ _› rfl rfl rfl rfl ?_
  | refine x_isi_lst ‹Txt _ _› rfl rfl rfl rfl ?_
  | refine x_isi_bool ‹Txt _ _› rfl rfl rfl rfl ?_
  | refine x_isi_int ‹Txt _ _› rfl rfl rfl rfl ?_
  | refine x_isi_lt ‹Txt _ _› rfl rfl rfl rfl rfl ?_
  | refine x_all ‹Txt _ _› rfl rfl rfl ?_
  | refine x_tuple ‹Txt _ _› rfl rfl ?_
  | refine x_list ‹Txt _ _› rfl rfl ?_
  | refine x_sorted ‹Txt _ _› rfl rfl ?_
  | refine x_str ‹Txt _ _› rfl rfl ?_
  | refine x_int ‹Txt _ _› rfl rfl ?_
  | refine x_min ‹Txt _ _› rfl rfl rfl rfl rfl ?_)
local macro_rules | `(tactic| walk_at "e") => `(tactic| first
  | (show WE _ _ (.Name _ _) _; walk_at "n")
  | (show WE _ _ (.Constant _ _ _) _; first | refine we_int ?_ | refine we_str ?_ | refine we_bl ?_ | refine we_non ?_)
  | (show WE _ _ (.Call (.Name _ _) _ _ _) _; walk_at "b")
  | (show WE _ _ (.Compare _ _ _ _) _; walk_at "ecmp")
  | (show WE _ _ (.Subscript _ _ _) _; first | refine xe_sl ?_ | refine xe_ix (fun _ _ => rfl) ?_)
  | (show WE _ _ (.BinOp _ _ _ _) _; first | refine xe_add ?_ | refine xe_sub ?_ | refine xe_mul ?_ | refine xe_mod ?_ | refine xe_fdiv ?_)
  | (show WE _ _ (.Call (.Attribute _ _ _) _ _ _) _; first | refine x_split rfl rfl rfl ?_ | refine x_join rfl rfl rfl ?_)
  | (show WE _ _ (.Attribute _ _ _) _; refine we_fld ?_ rfl)
  | refine we_lst (k := 0) ?_
  | refine we_tup (k := _) ?_
  | refine we_if ?_
  | refine x_and ?_
  | refine x_or ?_
  | refine we_one ?_
  | refine x_not ?_
  | refine x_fstr2 ?_)
local macro_rules | `(tactic| walk_at "ss") => `(tactic| first
  | refine vs_set 0 ‹List.Nodup _› rfl (by first | exact .inl rfl | exact .inr rfl) (by first | exact .inl rfl | exact .inr rfl) rfl ?_
  | refine vs_set 1 ‹List.Nodup _› rfl (by first | exact .inl rfl | exact .inr rfl) (by first | exact .inl rfl | exact .inr rfl) rfl ?_
  | refine vs_set 2 ‹List.Nodup _› rfl (by first | exact .inl rfl | exact .inr rfl) (by first | exact .inl rfl | exact .inr rfl) rfl ?_
  | refine vs_set 3 ‹List.Nodup _› rfl (by first | exact .inl rfl | exact .inr rfl) (by first | exact .inl rfl | exact .inr rfl) rfl ?_
  | refine vs_set 4 ‹List.Nodup _› rfl (by first | exact .inl rfl | exact .inr rfl) (by first | exact .inl rfl | exact .inr rfl) rfl ?_
  | refine vs_set 5 ‹List.Nodup _› rfl (by first | exact .inl rfl | exact .inr rfl) (by first | exact .inl rfl | exact .inr rfl) rfl ?_
  | refine vs_set 6 ‹List.Nodup _› rfl (by first | exact .inl rfl | exact .inr rfl) (by first | exact .inl rfl | exact .inr rfl) rfl ?_
  | refine vs_set 7 ‹List.Nodup _› rfl (by first | exact .inl rfl | exact .inr rfl) (by first | exact .inl rfl | exact .inr rfl) rfl ?_
  | refine vs_set 8 ‹List.Nodup _› rfl (by first | exact .inl rfl | exact .inr rfl) (by first | exact .inl rfl | exact .inr rfl) rfl ?_
  | refine vs_set 9 ‹List.Nodup _› rfl (by first | exact .inl rfl | exact .inr rfl) (by first | exact .inl rfl | exact .inr rfl) rfl ?_
  | refine vs_set 10 ‹List.Nodup _› rfl (by first | exact .inl rfl | exact .inr rfl) (by first | exact .inl rfl | exact .inr rfl) rfl ?_
  | refine vs_set 11 ‹List.Nodup _› rfl (by first | exact .inl rfl | exact .inr rfl) (by first | exact .inl rfl | exact .inr rfl) rfl ?_)
local macro_rules | `(tactic| walk_at "nl") => `(tactic| first
  | refine vs_newlst 0 ‹List.Nodup _› rfl (by first | exact .inl rfl | exact .inr rfl) (by first | exact .inl rfl | exact .inr rfl) fun _ => ?_
  | refine vs_newlst 1 ‹List.Nodup _› rfl (by first | exact .inl rfl | exact .inr rfl) (by first | exact .inl rfl | exact .inr rfl) fun _ => ?_
  | refine vs_newlst 2 ‹List.Nodup _› rfl (by first | exact .inl rfl | exact .inr rfl) (by first | exact .inl rfl | exact .inr rfl) fun _ => ?_
  | refine vs_newlst 3 ‹List.Nodup _› rfl (by first | exact .inl rfl | exact .inr rfl) (by first | exact .inl rfl | exact .inr rfl) fun _ => ?_
  | refine vs_newlst 4 ‹List.Nodup _› rfl (by first | exact .inl rfl | exact .inr rfl) (by first | exact .inl rfl | exact .inr rfl) fun _ => ?_
  | refine vs_newlst 5 ‹List.Nodup _› rfl (by first | exact .inl rfl | exact .inr rfl) (by first | exact .inl rfl | exact .inr rfl) fun _ => ?_
  | refine vs_newlst 6 ‹List.Nodup _› rfl (by first | exact .inl rfl | exact .inr rfl) (by first | exact .inl rfl | exact .inr rfl) fun _ => ?_
  | refine vs_newlst 7 ‹List.Nodup _› rfl (by first | exact .inl rfl | exact .inr rfl) (by first | exact .inl rfl | exact .inr rfl) fun _ => ?_
  | refine vs_newlst 8 ‹List.Nodup _› rfl (by first | exact .inl rfl | exact .inr rfl) (by first | exact .inl rfl | exact .inr rfl) fun _ => ?_
  | refine vs_newlst 9 ‹List.Nodup _› rfl (by first | exact .inl rfl | exact .inr rfl) (by first | exact .inl rfl | exact .inr rfl) fun _ => ?_
  | refine vs_newlst 10 ‹List.Nodup _› rfl (by first | exact .inl rfl | exact .inr rfl) (by first | exact .inl rfl | exact .inr rfl) fun _ => ?_
  | refine vs_newlst 11 ‹List.Nodup _› rfl (by first | exact .inl rfl | exact .inr rfl) (by first | exact .inl rfl | exact .inr rfl) fun _ => ?_)
local macro_rules | `(tactic| walk_at "gn") => `(tactic| first
  | refine vg_name 0 ‹List.Nodup _› rfl (by first | exact .inl rfl | exact .inr rfl) (by first | exact .inl rfl | exact .inr rfl) (by decide) ?_
  | refine vg_name 1 ‹List.Nodup _› rfl (by first | exact .inl rfl | exact .inr rfl) (by first | exact .inl rfl | exact .inr rfl) (by decide) ?_
  | refine vg_name 2 ‹List.Nodup _› rfl (by first | exact .inl rfl | exact .inr rfl) (by first | exact .inl rfl | exact .inr rfl) (by decide) ?_
  | refine vg_name 3 ‹List.Nodup _› rfl (by first | exact .inl rfl | exact .inr rfl) (by first | exact .inl rfl | exact .inr rfl) (by decide) ?_
  | refine vg_name 4 ‹List.Nodup _› rfl (by first | exact .inl rfl | exact .inr rfl) (by first | exact .inl rfl | exact .inr rfl) (by decide) ?_
  | refine vg_name 5 ‹List.Nodup _› rfl (by first | exact .inl rfl | exact .inr rfl) (by first | exact .inl rfl | exact .inr rfl) (by decide) ?_
  | refine vg_name 6 ‹List.Nodup _› rfl (by first | exact .inl rfl | exact .inr rfl) (by first | exact .inl rfl | exact .inr rfl) (by decide) ?_
  | refine vg_name 7 ‹List.Nodup _› rfl (by first | exact .inl rfl | exact .inr rfl) (by first | exact .inl rfl | exact .inr rfl) (by decide) ?_
  | refine vg_name 8 ‹List.Nodup _› rfl (by first | exact .inl rfl | exact .inr rfl) (by first | exact .inl rfl | exact .inr rfl) (by decide) ?_
  | refine vg_name 9 ‹List.Nodup _› rfl (by first | exact .inl rfl | exact .inr rfl) (by first | exact .inl rfl | exact .inr rfl) (by decide) ?_
  | refine vg_name 10 ‹List.Nodup _› rfl (by first | exact .inl rfl | exact .inr rfl) (by first | exact .inl rfl | exact .inr rfl) (by decide) ?_
  | refine vg_name 11 ‹List.Nodup _› rfl (by first | exact .inl rfl | exact .inr rfl) (by first | exact .inl rfl | exact .inr rfl) (by decide) ?_)
local macro_rules | `(tactic| walk_at "k") => `(tactic| first
  | (with_reducible show IntW _ _; refine int_i ?_)
  | (with_reducible show StrW _ _; refine str_i ?_)
  | (with_reducible show LstW _ _; refine lst_i ?_)
  | (with_reducible show TupW _ _; refine tup_i ?_)
  | (with_reducible show BlW _ _; refine bl_i ?_)
  | (with_reducible show SeqW _ _; first | refine seqL_i ?_ | refine seqT_i ?_)
  | (with_reducible show LenW _ _; first | refine lenL_i ?_ | refine lenT_i ?_)
  | (with_reducible show IxW _ _ _; first | refine ixL_i 0 rfl rfl ?_ | refine ixL_i 1 rfl rfl ?_ | refine ixL_i 2 rfl rfl ?_ | refine ixT_i 0 rfl rfl ?_ | refine ixT_i 1 rfl rfl ?_)
  | (with_reducible show SlW _ _ _ _; first | refine slL_from 1 rfl ?_ | refine slL_from 2 rfl ?_ | refine slT_from 1 rfl ?_)
  | (show WE _ _ _ _; walk_at "e")
  | (show WT _ _ _ _; walk_at "t")
  | (show WSs _ _ _ _ _; first | refine wss_cons ?_ | refine wss_nil ?_)
  | (show WS _ _ _ _ _; first | refine ws_if ?_ | refine ws_ret ?_ | refine ws_retN ?_ | (show WS _ _ (.Assign [.Name _ _] (.List [] _) _) _ _; walk_at "nl") | (show WS _ _ (.Assign [.Name _ _] _ _) _ _; walk_at "ss"))
  | (show WG _ _ _ _ _ _; first | refine xg_tup rfl rfl rfl ?_ | walk_at "gn")
  | (show WGs _ _ _ _ _ _; first | refine vgs_cons rfl ?_ | refine vgs_nil ?_)
  | (show WAs _ _ _ _; first | refine wa_nil ?_ | refine wa_star ?_ | refine wa_cons ?_)
  | (show WTw _ _ _ _; first | refine ww_or ?_ | refine ww_and ?_ | refine ww_or1 ?_ | refine ww_and1 ?_)
  | (show WO _ _ _ _; first | refine wo_none ?_ | refine wo_int ?_)
  | refine fam_i fun _ _ _ _ _ => ?_
  | refine iteT ?_
  | refine iteF ?_
  | refine ⟨rfl, ?_⟩
  | refine ⟨_, rfl, ?_⟩
  | refine ⟨lit_line rfl, ?_⟩
  | refine ⟨_, .inl rfl, ?_⟩
  | refine ⟨_, .inr rfl, ?_⟩
  | walk_at "x")
/-! ### tables: what one find holds -/
abbrev Hol := Str × List Str
abbrev hL (h : Hol) : W := .tup [.str h.1, wl h.2]
structure IsHol (h : Hol) : Prop where
  nm : IsNm h.1
  ks : Nms h.2
  nd : h.2.Nodup
  len : h.2.length ≤ 10
section
variable {P : Program} {w : World} {K : PySem.W.Frag} {mg : Str → Option Value} {base : Heap}
abbrev fIsHolding : DSpec := fun ws P => ∃ (h : Hol) (u : W), ws = [u] ∧ (u = hL h ∨ u = wWord h) ∧ IsHol h ∧ P (.bl true)
theorem sc_is_holding : FnScope ["value", "kinds", "kind"] ["value"] (C8.fnScope (top 46)) := C8.fnScope_by (by decide +kernel)
theorem ok_is_holding (G : GDef K mg "is_holding" (top 46)) (T : Txt K mg) (c1 : C8.Cal P w K mg base 1 "is_name" (spD fIsName) []) : C8.Cal P w K mg base 2 "is_holding" (spD fIsHolding) [] := by
  have nd := sc_is_holding.nd
  refine cal_D G sc_is_holding (fun _ _ _ _ _ _ us hl => match us, hl with | [_], _ => rfl) (fun ws P ⟨f, u, e, _⟩ => by rw [e]; rfl) fun f cdv A outer s H E ex T' ws P' hr h => ?_
  obtain ⟨h, u, rfl, hu, hh, p⟩ := h
  have h10 := hh.len
  rcases hu with rfl | rfl
  · repeat walk_at "k"
    refine we_c c1 ‹Room _ _› (by decide) rfl ?_
    repeat walk_at "k"
    refine ⟨hh.nm, ?_⟩
    repeat walk_at "k"
    refine we_lc [("kind", 2)] rfl nd (blkOk_by (own := [("kind", 2)]) (N := ["value", "kinds", "kind"]) (sc := C8.fnScope (top 46)) (by decide +kernel)) (wlc_M (x_iterL ?_))
    repeat walk_at "k"
    refine ⟨by rw [strs_len]; exact line_of (by omega), fun _ _ => .bl true, fun i d hd Dd => ?_, _, bls_const, ?_⟩
    · obtain ⟨y, hk, rfl⟩ := strs_get hd
      repeat walk_at "k"
      refine we_c c1 ‹Room _ _› (by decide) rfl ?_
      repeat walk_at "k"
      exact ⟨hh.ks y (List.mem_of_getElem? hk), rfl⟩
    rw [all_rep]
    repeat walk_at "k"
    refine ⟨by omega, hh.nd, ?_⟩
    repeat walk_at "k"
    rw [show ((h.2.map W.str).length : Int) = (h.2.length : Int) by rw [strs_len]]
    repeat walk_at "k"
    show P' (W.bl (decide ((h.2.length : Int) = (h.2.length : Int))))
    rw [decide_eq_true rfl]
    exact p
  · repeat walk_at "k"
    refine we_c c1 ‹Room _ _› (by decide) rfl ?_
    repeat walk_at "k"
    refine ⟨hh.nm, ?_⟩
    repeat walk_at "k"
    refine we_lc [("kind", 2)] rfl nd (blkOk_by (own := [("kind", 2)]) (N := ["value", "kinds", "kind"]) (sc := C8.fnScope (top 46)) (by decide +kernel)) (wlc_M (x_iterT ?_))
    repeat walk_at "k"
    refine ⟨by rw [strs_len]; exact line_of (by omega), fun _ _ => .bl true, fun i d hd Dd => ?_, _, bls_const, ?_⟩
    · obtain ⟨y, hk, rfl⟩ := strs_get hd
      repeat walk_at "k"
      refine we_c c1 ‹Room _ _› (by decide) rfl ?_
      repeat walk_at "k"
      exact ⟨hh.ks y (List.mem_of_getElem? hk), rfl⟩
    rw [all_rep]
    repeat walk_at "k"
    refine ⟨by omega, hh.nd, ?_⟩
    repeat walk_at "k"
    rw [show ((h.2.map W.str).length : Int) = (h.2.length : Int) by rw [strs_len]]
    repeat walk_at "k"
    show P' (W.bl (decide ((h.2.length : Int) = (h.2.length : Int))))
    rw [decide_eq_true rfl]
    exact p
/-! kinds_in -/
structure KsIn (hs : List Hol) (U : List Str) : Prop where
  sub : ∀ h ∈ hs, ∀ z ∈ h.2, z ∈ U
  len : U.length ≤ 10
abbrev fKindsIn : DSpec := fun ws P => ∃ (hs : List Hol) (U : List Str) (u : W), ws = [u] ∧ (u = .lst (hs.map hL) ∨ u = .lst (hs.map wWord)) ∧ KsIn hs U ∧ ∀ ys : List Str, ys.length ≤ 10 → P (wl ys)
theorem sc_kinds_in : FnScope ["holdings", "find", "kinds", "kind"] ["holdings"] (C8.fnScope (top 47)) := C8.fnScope_by (by decide +kernel)
theorem ok_kinds_in (G : GDef K mg "kinds_in" (top 47)) (T : Txt K mg) : C8.Cal P w K mg base 1 "kinds_in" (spD fKindsIn) [] := by
  have nd := sc_kinds_in.nd
  refine cal_D G sc_kinds_in (fun _ _ _ _ _ _ us hl => match us, hl with | [_], _ => rfl) (fun ws P ⟨f, U, u, e, _⟩ => by rw [e]; rfl) fun f cdv A outer s H E ex T' ws P' hr h => ?_
  obtain ⟨hs, U, u, rfl, hu, hk, p⟩ := h
  have fin : ∀ {g : Hol → W} {ks : W → List Str} (e : ∀ h, ks (g h) = h.2) (ys : List Str), Asc ys → (∀ z, z ∈ ys ↔ ∃ d ∈ hs.map g, z ∈ ks d) → P' (wl ys) := fun {g ks} e ys ha hm => p ys (by
    have := nodup_le (U := U) ha.nodup fun z hz => by
      obtain ⟨d, hd, q⟩ := (hm z).mp hz
      obtain ⟨h, hh, rfl⟩ := List.mem_map.mp hd
      rw [e] at q
      exact hk.sub h hh z q
    have := hk.len
    omega)
  have sub : ∀ {g : Hol → W} {ks : W → List Str} (e : ∀ h, ks (g h) = h.2), ∀ d ∈ hs.map g, ∀ z ∈ ks d, z ∈ U := fun {g ks} e d hd z hz => by
    obtain ⟨h, hh, rfl⟩ := List.mem_map.mp hd
    rw [e] at hz
    exact hk.sub h hh z hz
  have h10 := hk.len
  let ks : W → List Str := fun d => match d with
    | .tup [_, .lst l] => l.filterMap fun x => match x with | .str z => some z | _ => none
    | .tup [_, .tup l] => l.filterMap fun x => match x with | .str z => some z | _ => none
    | _ => []
  have fm : ∀ l : List Str, (l.map W.str).filterMap (fun x => match x with | .str z => some z | _ => none) = l := fun l => by
    induction l with
    | nil => rfl
    | cons x l ih => rw [List.map_cons, List.filterMap_cons, ih]
  have eL : ∀ h : Hol, ks (hL h) = h.2 := fun h => fm h.2
  have eT : ∀ h : Hol, ks (wWord h) = h.2 := fun h => fm h.2
  rcases hu with rfl | rfl
  · refine wss_cons (ws_ret (x_sortSc2 [("find", 1), ("kinds", 2), ("kind", 3)] [3] ‹Txt _ _› rfl nd rfl (blkOk_by (own := [("find", 1), ("kinds", 2), ("kind", 3)]) (N := ["holdings", "find", "kinds", "kind"]) (sc := C8.fnScope (top 47)) (by decide +kernel)) (by decide) rfl (x_iterL ?_)))
    repeat walk_at "k"
    refine ⟨U, ks, by omega, sub eL, fun i d hd Dd => ?_, fun ys h1 h2 => fin eL ys h1 h2⟩
    obtain ⟨h, hh, rfl⟩ := map_get hd
    repeat walk_at "k"
    refine x_iterL ?_
    repeat walk_at "k"
    refine ⟨by rw [eL], fun j e he => ?_⟩
    obtain ⟨z, hz, rfl⟩ := strs_get he
    repeat walk_at "k"
    rfl
  · refine wss_cons (ws_ret (x_sortSc2 [("find", 1), ("kinds", 2), ("kind", 3)] [3] ‹Txt _ _› rfl nd rfl (blkOk_by (own := [("find", 1), ("kinds", 2), ("kind", 3)]) (N := ["holdings", "find", "kinds", "kind"]) (sc := C8.fnScope (top 47)) (by decide +kernel)) (by decide) rfl (x_iterL ?_)))
    repeat walk_at "k"
    refine ⟨U, ks, by omega, sub eT, fun i d hd Dd => ?_, fun ys h1 h2 => fin eT ys h1 h2⟩
    obtain ⟨h, hh, rfl⟩ := map_get hd
    repeat walk_at "k"
    refine x_iterT ?_
    repeat walk_at "k"
    refine ⟨by rw [eT], fun j e he => ?_⟩
    obtain ⟨z, hz, rfl⟩ := strs_get he
    repeat walk_at "k"
    rfl
end
end K11
/-! PD10 -/
namespace K11
open PySem PySem.Spec PyProof.Rows L2
local macro_rules | `(tactic| walk_at "n") => `(tactic| first
  | refine we_name 0 rfl (by first | exact .inl rfl | exact .inr (.inl rfl) | exact .inr (.inr rfl)) rfl ?_
  | refine we_name 1 rfl (by first | exact .inl rfl | exact .inr (.inl rfl) | exact .inr (.inr rfl)) rfl ?_
  | refine we_name 2 rfl (by first | exact .inl rfl | exact .inr (.inl rfl) | exact .inr (.inr rfl)) rfl ?_
  | refine we_name 3 rfl (by first | exact .inl rfl | exact .inr (.inl rfl) | exact .inr (.inr rfl)) rfl ?_
  | refine we_name 4 rfl (by first | exact .inl rfl | exact .inr (.inl rfl) | exact .inr (.inr rfl)) rfl ?_
  | refine we_name 5 rfl (by first | exact .inl rfl | exact .inr (.inl rfl) | exact .inr (.inr rfl)) rfl ?_
  | refine we_name 6 rfl (by first | exact .inl rfl | exact .inr (.inl rfl) | exact .inr (.inr rfl)) rfl ?_
  | refine we_name 7 rfl (by first | exact .inl rfl | exact .inr (.inl rfl) | exact .inr (.inr rfl)) rfl ?_
  | refine we_name 8 rfl (by first | exact .inl rfl | exact .inr (.inl rfl) | exact .inr (.inr rfl)) rfl ?_
  | refine we_name 9 rfl (by first | exact .inl rfl | exact .inr (.inl rfl) | exact .inr (.inr rfl)) rfl ?_
  | refine we_name 10 rfl (by first | exact .inl rfl | exact .inr (.inl rfl) | exact .inr (.inr rfl)) rfl ?_
  | refine we_name 11 rfl (by first | exact .inl rfl | exact .inr (.inl rfl) | exact .inr (.inr rfl)) rfl ?_
  | refine we_name 12 rfl (by first | exact .inl rfl | exact .inr (.inl rfl) | exact .inr (.inr rfl)) rfl ?_
  | refine we_name 13 rfl (by first | exact .inl rfl | exact .inr (.inl rfl) | exact .inr (.inr rfl)) rfl ?_
  | refine we_gint rfl (Txt.mLetters ‹_›) ?_
  | refine we_gstr rfl (Txt.letters ‹_›) ?_
  | refine we_gint rfl (Tx2.mFB ‹_›) ?_
  | refine we_gint rfl (Tx2.mW ‹_›) ?_
  | refine we_gint rfl (Tx2.mF ‹_›) ?_
  | refine we_gint rfl (Tx2.mFT ‹_›) ?_
  | refine we_gint rfl (Tx2.mK ‹_›) ?_)
local macro_rules | `(tactic| walk_at "cmp") => `(tactic| first
  | refine xt_eq ‹Room _ _› ?_
  | refine xt_ne ‹Room _ _› ?_
  | refine xt_lt ?_
  | refine xt_le ?_
  | refine xt_gt ?_
  | refine xt_ge ?_
  | refine wt_isN ?_
  | refine xt_in rfl ?_
  | refine xt_nin rfl ?_
  | refine x_chain (by with_unfolding_all rfl) ?_)
local macro_rules | `(tactic| walk_at "ecmp") => `(tactic| first
  | refine xe_eq ‹Room _ _› ?_
  | refine xe_ne ‹Room _ _› ?_
  | refine xe_lt ?_
  | refine xe_le ?_
  | refine xe_gt ?_
  | refine xe_ge ?_
  | refine we_isN ?_
  | refine xe_in rfl ?_
  | refine xe_nin rfl ?_)
local macro_rules | `(tactic| walk_at "t") => `(tactic| first
  | (show WT _ _ (.Compare _ _ _ _) _; walk_at "cmp")
  | refine wt_or ?_
  | refine wt_and ?_
  | refine wt_not ?_
  | refine x_val (by intro _; rfl) ?_)
local macro_rules | `(tactic| walk_at "b") => `(tactic| first
  | refine x_lenSet ‹Txt _ _› rfl rfl rfl rfl rfl ?_
  | refine xe_len ‹Txt _ _› rfl rfl ?_
  | refine x_isi_str ‹Txt _ _› rfl rfl rfl rfl ?_
  | refine x_isi_tup ‹Txt _ _› rfl rfl rfl rfl ?_
  | refine x_isi_lst ‹Txt _ _› rfl rfl rfl rfl ?_
  | refine x_isi_bool ‹Txt _ _› rfl rfl rfl rfl ?_
  | refine x_isi_int ‹Txt _ _› rfl rfl rfl rfl ?_
  | refine x_isi_lt ‹Txt _ _› rfl rfl rfl rfl rfl ?_
  | refine x_all ‹Txt _ _› rfl rfl rfl ?_
  | refine x_tuple ‹Txt _ _› rfl rfl ?_
  | refine x_list ‹Txt _ _› rfl rfl ?_
  | refine x_sorted ‹Txt _ _› rfl rfl ?_
  | refine x_str ‹Txt _ _› rfl rfl ?_
  | refine x_int ‹Txt _ _› rfl rfl ?_
  | refine x_min ‹Txt _ _› rfl rfl rfl rfl rfl ?_)
local macro_rules | `(tactic| walk_at "e") => `(tactic| first
  | (show WE _ _ (.Name _ _) _; walk_at "n")
  | (show WE _ _ (.Constant _ _ _) _; first | refine we_int ?_ | refine we_str ?_ | refine we_bl ?_ | refine we_non ?_)
  | (show WE _ _ (.Call (.Name _ _) _ _ _) _; walk_at "b")
  | (show WE _ _ (.Compare _ _ _ _) _; walk_at "ecmp")
  | (show WE _ _ (.Subscript _ _ _) _; first | refine xe_sl ?_ | refine xe_ix (fun _ _ => rfl) ?_)
  | (show WE _ _ (.BinOp _ _ _ _) _; first | refine xe_add ?_ | refine xe_sub ?_ | refine xe_mul ?_ | refine xe_mod ?_ | refine xe_fdiv ?_)
  | (show WE _ _ (.Call (.Attribute _ _ _) _ _ _) _; first | refine x_split rfl rfl rfl ?_ | refine x_join rfl rfl rfl ?_)
  | (show WE _ _ (.Attribute _ _ _) _; refine we_fld ?_ rfl)
  | refine we_lst (k := 0) ?_
  | refine we_tup (k := _) ?_
  | refine we_if ?_
  | refine x_and ?_
  | refine x_or ?_
  | refine we_one ?_
  | refine x_not ?_
  | refine x_fstr2 ?_)
local macro_rules | `(tactic| walk_at "ss") => `(tactic| first
  | refine vs_set 0 ‹List.Nodup _› rfl (by first | exact .inl rfl | exact .inr rfl) (by first | exact .inl rfl | exact .inr rfl) rfl ?_
  | refine vs_set 1 ‹List.Nodup _› rfl (by first | exact .inl rfl | exact .inr rfl) (by first | exact .inl rfl | exact .inr rfl) rfl ?_
  | refine vs_set 2 ‹List.Nodup _› rfl (by first | exact .inl rfl | exact .inr rfl) (by first | exact .inl rfl | exact .inr rfl) rfl ?_
  | refine vs_set 3 ‹List.Nodup _› rfl (by first | exact .inl rfl | exact .inr rfl) (by first | exact .inl rfl | exact .inr rfl) rfl ?_
  | refine vs_set 4 ‹List.Nodup _› rfl (by first | exact .inl rfl | exact .inr rfl) (by first | exact .inl rfl | exact .inr rfl) rfl ?_
  | refine vs_set 5 ‹List.Nodup _› rfl (by first | exact .inl rfl | exact .inr rfl) (by first | exact .inl rfl | exact .inr rfl) rfl ?_
  | refine vs_set 6 ‹List.Nodup _› rfl (by first | exact .inl rfl | exact .inr rfl) (by first | exact .inl rfl | exact .inr rfl) rfl ?_
  | refine vs_set 7 ‹List.Nodup _› rfl (by first | exact .inl rfl | exact .inr rfl) (by first | exact .inl rfl | exact .inr rfl) rfl ?_
  | refine vs_set 8 ‹List.Nodup _› rfl (by first | exact .inl rfl | exact .inr rfl) (by first | exact .inl rfl | exact .inr rfl) rfl ?_
  | refine vs_set 9 ‹List.Nodup _› rfl (by first | exact .inl rfl | exact .inr rfl) (by first | exact .inl rfl | exact .inr rfl) rfl ?_
  | refine vs_set 10 ‹List.Nodup _› rfl (by first | exact .inl rfl | exact .inr rfl) (by first | exact .inl rfl | exact .inr rfl) rfl ?_
  | refine vs_set 11 ‹List.Nodup _› rfl (by first | exact .inl rfl | exact .inr rfl) (by first | exact .inl rfl | exact .inr rfl) rfl ?_)
local macro_rules | `(tactic| walk_at "nl") => `(tactic| first
  | refine vs_newlst 0 ‹List.Nodup _› rfl (by first | exact .inl rfl | exact .inr rfl) (by first | exact .inl rfl | exact .inr rfl) fun _ => ?_
  | refine vs_newlst 1 ‹List.Nodup _› rfl (by first | exact .inl rfl | exact .inr rfl) (by first | exact .inl rfl | exact .inr rfl) fun _ => ?_
  | refine vs_newlst 2 ‹List.Nodup _› rfl (by first | exact .inl rfl | exact .inr rfl) (by first | exact .inl rfl | exact .inr rfl) fun _ => ?_
  | refine vs_newlst 3 ‹List.Nodup _› rfl (by first | exact .inl rfl | exact .inr rfl) (by first | exact .inl rfl | exact .inr rfl) fun _ => ?_
  | refine vs_newlst 4 ‹List.Nodup _› rfl (by first | exact .inl rfl | exact .inr rfl) (by first | exact .inl rfl | exact .inr rfl) fun _ => ?_
  | refine vs_newlst 5 ‹List.Nodup _› rfl (by first | exact .inl rfl | exact .inr rfl) (by first | exact .inl rfl | exact .inr rfl) fun _ => ?_
  | refine vs_newlst 6 ‹List.Nodup _› rfl (by first | exact .inl rfl | exact .inr rfl) (by first | exact .inl rfl | exact .inr rfl) fun _ => ?_
  | refine vs_newlst 7 ‹List.Nodup _› rfl (by first | exact .inl rfl | exact .inr rfl) (by first | exact .inl rfl | exact .inr rfl) fun _ => ?_
  | refine vs_newlst 8 ‹List.Nodup _› rfl (by first | exact .inl rfl | exact .inr rfl) (by first | exact .inl rfl | exact .inr rfl) fun _ => ?_
  | refine vs_newlst 9 ‹List.Nodup _› rfl (by first | exact .inl rfl | exact .inr rfl) (by first | exact .inl rfl | exact .inr rfl) fun _ => ?_
  | refine vs_newlst 10 ‹List.Nodup _› rfl (by first | exact .inl rfl | exact .inr rfl) (by first | exact .inl rfl | exact .inr rfl) fun _ => ?_
  | refine vs_newlst 11 ‹List.Nodup _› rfl (by first | exact .inl rfl | exact .inr rfl) (by first | exact .inl rfl | exact .inr rfl) fun _ => ?_)
local macro_rules | `(tactic| walk_at "gn") => `(tactic| first
  | refine vg_name 0 ‹List.Nodup _› rfl (by first | exact .inl rfl | exact .inr rfl) (by first | exact .inl rfl | exact .inr rfl) (by decide) ?_
  | refine vg_name 1 ‹List.Nodup _› rfl (by first | exact .inl rfl | exact .inr rfl) (by first | exact .inl rfl | exact .inr rfl) (by decide) ?_
  | refine vg_name 2 ‹List.Nodup _› rfl (by first | exact .inl rfl | exact .inr rfl) (by first | exact .inl rfl | exact .inr rfl) (by decide) ?_
  | refine vg_name 3 ‹List.Nodup _› rfl (by first | exact .inl rfl | exact .inr rfl) (by first | exact .inl rfl | exact .inr rfl) (by decide) ?_
  | refine vg_name 4 ‹List.Nodup _› rfl (by first | exact .inl rfl | exact .inr rfl) (by first | exact .inl rfl | exact .inr rfl) (by decide) ?_
  | refine vg_name 5 ‹List.Nodup _› rfl (by first | exact .inl rfl | exact .inr rfl) (by first | exact .inl rfl | exact .inr rfl) (by decide) ?_
  | refine vg_name 6 ‹List.Nodup _› rfl (by first | exact .inl rfl | exact .inr rfl) (by first | exact .inl rfl | exact .inr rfl) (by decide) ?_
  | refine vg_name 7 ‹List.Nodup _› rfl (by first | exact .inl rfl | exact .inr rfl) (by first | exact .inl rfl | exact .inr rfl) (by decide) ?_
  | refine vg_name 8 ‹List.Nodup _› rfl (by first | exact .inl rfl | exact .inr rfl) (by first | exact .inl rfl | exact .inr rfl) (by decide) ?_
  | refine vg_name 9 ‹List.Nodup _› rfl (by first | exact .inl rfl | exact .inr rfl) (by first | exact .inl rfl | exact .inr rfl) (by decide) ?_
  | refine vg_name 10 ‹List.Nodup _› rfl (by first | exact .inl rfl | exact .inr rfl) (by first | exact .inl rfl | exact .inr rfl) (by decide) ?_
  | refine vg_name 11 ‹List.Nodup _› rfl (by first | exact .inl rfl | exact .inr rfl) (by first | exact .inl rfl | exact .inr rfl) (by decide) ?_)
local macro_rules | `(tactic| walk_at "k") => `(tactic| first
  | (with_reducible show IntW _ _; refine int_i ?_)
  | (with_reducible show StrW _ _; refine str_i ?_)
  | (with_reducible show LstW _ _; refine lst_i ?_)
  | (with_reducible show TupW _ _; refine tup_i ?_)
  | (with_reducible show BlW _ _; refine bl_i ?_)
  | (with_reducible show SeqW _ _; first | refine seqL_i ?_ | refine seqT_i ?_)
  | (with_reducible show LenW _ _; first | refine lenL_i ?_ | refine lenT_i ?_)
  | (with_reducible show IxW _ _ _; first | refine ixL_i 0 rfl rfl ?_ | refine ixL_i 1 rfl rfl ?_ | refine ixL_i 2 rfl rfl ?_ | refine ixT_i 0 rfl rfl ?_ | refine ixT_i 1 rfl rfl ?_)
  | (with_reducible show SlW _ _ _ _; first | refine slL_from 1 rfl ?_ | refine slL_from 2 rfl ?_ | refine slT_from 1 rfl ?_)
  | (show WE _ _ _ _; walk_at "e")
  | (show WT _ _ _ _; walk_at "t")
  | (show WSs _ _ _ _ _; first | refine wss_cons ?_ | refine wss_nil ?_)
  | (show WS _ _ _ _ _; first | refine ws_if ?_ | refine ws_ret ?_ | refine ws_retN ?_ | (show WS _ _ (.Assign [.Name _ _] (.List [] _) _) _ _; walk_at "nl") | (show WS _ _ (.Assign [.Name _ _] _ _) _ _; walk_at "ss"))
  | (show WG _ _ _ _ _ _; first | refine xg_tup rfl rfl rfl ?_ | walk_at "gn")
  | (show WGs _ _ _ _ _ _; first | refine vgs_cons rfl ?_ | refine vgs_nil ?_)
  | (show WAs _ _ _ _; first | refine wa_nil ?_ | refine wa_star ?_ | refine wa_cons ?_)
  | (show WTw _ _ _ _; first | refine ww_or ?_ | refine ww_and ?_ | refine ww_or1 ?_ | refine ww_and1 ?_)
  | (show WO _ _ _ _; first | refine wo_none ?_ | refine wo_int ?_)
  | refine fam_i fun _ _ _ _ _ => ?_
  | refine iteT ?_
  | refine iteF ?_
  | refine ⟨rfl, ?_⟩
  | refine ⟨_, rfl, ?_⟩
  | refine ⟨lit_line rfl, ?_⟩
  | refine ⟨_, .inl rfl, ?_⟩
  | refine ⟨_, .inr rfl, ?_⟩
  | walk_at "x")
structure IsHols (hs : List Hol) (U : List Str) : Prop where
  wd : ∀ h ∈ hs, IsHol h
  nd : (hs.map (·.1)).Nodup
  ne : hs ≠ []
  len : hs.length ≤ 12
  ks : KsIn hs U
section
variable {P : Program} {w : World} {K : PySem.W.Frag} {mg : Str → Option Value} {base : Heap}
abbrev fCheckHoldings : DSpec := fun ws P => ∃ (hs : List Hol) (U : List Str) (g : Hol → W), ws = [.lst (hs.map g)] ∧ (g = hL ∨ g = wWord) ∧ IsHols hs U ∧ P .non
theorem sc_check_holdings : FnScope ["holdings", "at", "holding", "find", "finds", "kinds"] ["holdings"] (C8.fnScope (top 48)) := C8.fnScope_by (by decide +kernel)
theorem ok_check_holdings (G : GDef K mg "check_holdings" (top 48)) (T : Txt K mg) (T2 : Tx2 K mg) (c1 : C8.Cal P w K mg base 2 "is_holding" (spD fIsHolding) []) (c2 : C8.Cal P w K mg base 1 "kinds_in" (spD fKindsIn) []) : C8.Cal P w K mg base 3 "check_holdings" (spD fCheckHoldings) [] := by
  have nd := sc_check_holdings.nd
  refine cal_D G sc_check_holdings (fun _ _ _ _ _ _ us hl => match us, hl with | [_], _ => rfl) (fun ws P ⟨hs, U, g, e, _⟩ => by rw [e]; rfl) fun f cdv A outer s H E ex T' ws P' hr h => ?_
  obtain ⟨hs, U, g, rfl, hg, hh, p⟩ := h
  have hlen : (hs.map g).length = hs.length := by simp
  have h12 := hh.len
  have h1 := List.length_pos_iff.mpr hh.ne
  have hg1 : ∀ h, g h = hL h ∨ g h = wWord h := fun h => hg.imp (fun e => by rw [e]) (fun e => by rw [e])
  have hg2 : ∀ hs : List Hol, W.lst (hs.map g) = .lst (hs.map hL) ∨ W.lst (hs.map g) = .lst (hs.map wWord) := fun hs => hg.imp (fun e => by rw [e]) (fun e => by rw [e])
  have hg3 : ∃ k : Hol → W, ∀ h, g h = .tup [.str h.1, k h] := hg.elim (fun e => ⟨fun h => wl h.2, fun h => by rw [e]⟩) (fun e => ⟨fun h => wt h.2, fun h => by rw [e]⟩)
  obtain ⟨kk, hg3⟩ := hg3
  repeat walk_at "k"
  refine ifDn (by rw [hlen]; omega) ?_
  repeat walk_at "k"
  refine ifDn (by rw [hlen]; omega) ?_
  repeat walk_at "k"
  refine ws_for [1, 2] PassesOwn.never rfl (x_enum ‹Txt _ _› rfl rfl ?_)
  repeat walk_at "k"
  refine ⟨fun _ c1 => ∃ r1 r2, c1 = { ρ := [some (.dat (.lst (hs.map g))), r1, r2, none, none, none], ex := ex, T := T' }, ⟨_, _, rfl⟩, fun i c1' d hd ⟨r1, r2, e⟩ => ?_, fun c1' ⟨r1, r2, e⟩ => ?_⟩
  · subst e
    obtain ⟨x, hx, rfl⟩ := enumW_get hd
    obtain ⟨q, hq', rfl⟩ := map_get hx
    repeat walk_at "k"
    refine we_c c1 ‹Room _ _› (by decide) rfl ?_
    repeat walk_at "k"
    refine ⟨q, _, rfl, hg1 q, hh.wd q (List.mem_of_getElem? hq'), ?_⟩
    repeat walk_at "k"
    exact ⟨_, _, rfl⟩
  subst e
  repeat walk_at "k"
  refine vs_setLc 4 [("find", 3), ("kinds", 5)] rfl nd rfl rfl (sw_true rfl rfl rfl (by decide +kernel)) (blkOk_by (own := [("find", 3), ("kinds", 5)]) (N := ["holdings", "at", "holding", "find", "finds", "kinds"]) (sc := C8.fnScope (top 48)) (by decide +kernel)) (wlc_M (x_iterL ?_))
  repeat walk_at "k"
  refine ⟨by rw [hlen]; exact line_of (by omega), fun _ d => match d with | .tup [x, _] => x | _ => .non, fun i d hd Dd => ?_, ?_⟩
  · obtain ⟨q, hq', rfl⟩ := map_get hd
    rw [hg3]
    repeat walk_at "k"
    rfl
  rw [map_idx_eq (h := fun q => W.str q.1) (fun _ a _ => by rw [hg3 a]), show hs.map (fun q => W.str q.1) = (hs.map (·.1)).map W.str by rw [List.map_map]; rfl]
  repeat walk_at "k"
  refine ws_for [1, 3] PassesOwn.never rfl (x_enum ‹Txt _ _› rfl rfl ?_)
  repeat walk_at "k"
  refine ⟨fun _ c1 => ∃ r1 r2 r3 r4, c1 = { ρ := [some (.dat (.lst (hs.map g))), r1, r2, r3, some (.dat (wl (hs.map (·.1)))), r4], ex := ex, T := T' }, ⟨_, _, _, _, rfl⟩, fun i c1' d hd ⟨r1, r2, r3, r4, e⟩ => ?_, fun c1' ⟨r1, r2, r3, r4, e⟩ => ?_⟩
  · subst e
    obtain ⟨z, hz, rfl⟩ := enumS_get hd
    repeat walk_at "k"
    refine slL_to i rfl ?_
    refine ⟨(hs.map (·.1)).take i, by rw [List.map_take], ?_⟩
    refine ifDn (not_before hh.nd hz) ?_
    repeat walk_at "k"
    exact ⟨_, _, _, _, rfl⟩
  · subst e
    repeat walk_at "k"
    refine we_c c2 ‹Room _ _› (by decide) rfl ?_
    repeat walk_at "k"
    refine ⟨hs, U, _, rfl, hg2 hs, hh.ks, fun ys hy => ?_⟩
    repeat walk_at "k"
    refine ifDn (by rw [strs_len]; omega) ?_
    repeat walk_at "k"
    exact p
end
end K11
/-! PD11 -/
namespace K11
open PySem PySem.Spec PyProof.Rows L2
local macro_rules | `(tactic| walk_at "n") => `(tactic| first
  | refine we_name 0 rfl (by first | exact .inl rfl | exact .inr (.inl rfl) | exact .inr (.inr rfl)) rfl ?_
  | refine we_name 1 rfl (by first | exact .inl rfl | exact .inr (.inl rfl) | exact .inr (.inr rfl)) rfl ?_
  | refine we_name 2 rfl (by first | exact .inl rfl | exact .inr (.inl rfl) | exact .inr (.inr rfl)) rfl ?_
  | refine we_name 3 rfl (by first | exact .inl rfl | exact .inr (.inl rfl) | exact .inr (.inr rfl)) rfl ?_
  | refine we_name 4 rfl (by first | exact .inl rfl | exact .inr (.inl rfl) | exact .inr (.inr rfl)) rfl ?_
  | refine we_name 5 rfl (by first | exact .inl rfl | exact .inr (.inl rfl) | exact .inr (.inr rfl)) rfl ?_
  | refine we_name 6 rfl (by first | exact .inl rfl | exact .inr (.inl rfl) | exact .inr (.inr rfl)) rfl ?_
  | refine we_name 7 rfl (by first | exact .inl rfl | exact .inr (.inl rfl) | exact .inr (.inr rfl)) rfl ?_
  | refine we_name 8 rfl (by first | exact .inl rfl | exact .inr (.inl rfl) | exact .inr (.inr rfl)) rfl ?_
  | refine we_name 9 rfl (by first | exact .inl rfl | exact .inr (.inl rfl) | exact .inr (.inr rfl)) rfl ?_
  | refine we_name 10 rfl (by first | exact .inl rfl | exact .inr (.inl rfl) | exact .inr (.inr rfl)) rfl ?_
  | refine we_name 11 rfl (by first | exact .inl rfl | exact .inr (.inl rfl) | exact .inr (.inr rfl)) rfl ?_
  | refine we_name 12 rfl (by first | exact .inl rfl | exact .inr (.inl rfl) | exact .inr (.inr rfl)) rfl ?_
  | refine we_name 13 rfl (by first | exact .inl rfl | exact .inr (.inl rfl) | exact .inr (.inr rfl)) rfl ?_
  | refine we_gint rfl (Txt.mLetters ‹_›) ?_
  | refine we_gstr rfl (Txt.letters ‹_›) ?_
  | refine we_gint rfl (Tx2.mFB ‹_›) ?_
  | refine we_gint rfl (Tx2.mW ‹_›) ?_
  | refine we_gint rfl (Tx2.mF ‹_›) ?_
  | refine we_gint rfl (Tx2.mFT ‹_›) ?_
  | refine we_gint rfl (Tx2.mK ‹_›) ?_)
local macro_rules | `(tactic| walk_at "cmp") => `(tactic| first
  | refine xt_eq ‹Room _ _› ?_
  | refine xt_ne ‹Room _ _› ?_
  | refine xt_lt ?_
  | refine xt_le ?_
  | refine xt_gt ?_
  | refine xt_ge ?_
  | refine wt_isN ?_
  | refine xt_in rfl ?_
  | refine xt_nin rfl ?_
  | refine x_chain (by with_unfolding_all rfl) ?_)
local macro_rules | `(tactic| walk_at "ecmp") => `(tactic| first
  | refine xe_eq ‹Room _ _› ?_
  | refine xe_ne ‹Room _ _› ?_
  | refine xe_lt ?_
  | refine xe_le ?_
  | refine xe_gt ?_
  | refine xe_ge ?_
  | refine we_isN ?_
  | refine xe_in rfl ?_
  | refine xe_nin rfl ?_)
local macro_rules | `(tactic| walk_at "t") => `(tactic| first
  | (show WT _ _ (.Compare _ _ _ _) _; walk_at "cmp")
  | refine wt_or ?_
  | refine wt_and ?_
  | refine wt_not ?_
  | refine x_val (by intro _; rfl) ?_)
local macro_rules | `(tactic| walk_at "b") => `(tactic| first
  | refine x_lenSet ‹Txt _ _› rfl rfl rfl rfl rfl ?_
  | refine xe_len ‹Txt _ _› rfl rfl ?_
  | refine x_isi_str ‹Txt _ _› rfl rfl rfl rfl ?_
  | refine x_isi_tup ‹Txt _ _› rfl rfl rfl rfl ?_
  | refine x_isi_lst ‹Txt _ _› rfl rfl rfl rfl ?_
  | refine x_isi_bool ‹Txt _ _› rfl rfl rfl rfl ?_
  | refine x_isi_int ‹Txt _ _› rfl rfl rfl rfl ?_
  | refine x_isi_lt ‹Txt _ _› rfl rfl rfl rfl rfl ?_
  | refine x_all ‹Txt _ _› rfl rfl rfl ?_
  | refine x_tuple ‹Txt _ _› rfl rfl ?_
  | refine x_list ‹Txt _ _› rfl rfl ?_
  | refine x_sorted ‹Txt _ _› rfl rfl ?_
  | refine x_str ‹Txt _ _› rfl rfl ?_
  | refine x_int ‹Txt _ _› rfl rfl ?_
  | refine x_min ‹Txt _ _› rfl rfl rfl rfl rfl ?_)
local macro_rules | `(tactic| walk_at "e") => `(tactic| first
  | (show WE _ _ (.Name _ _) _; walk_at "n")
  | (show WE _ _ (.Constant _ _ _) _; first | refine we_int ?_ | refine we_str ?_ | refine we_bl ?_ | refine we_non ?_)
  | (show WE _ _ (.Call (.Name _ _) _ _ _) _; walk_at "b")
  | (show WE _ _ (.Compare _ _ _ _) _; walk_at "ecmp")
  | (show WE _ _ (.Subscript _ _ _) _; first | refine xe_sl ?_ | refine xe_ix (fun _ _ => rfl) ?_)
  | (show WE _ _ (.BinOp _ _ _ _) _; first | refine xe_add ?_ | refine xe_sub ?_ | refine xe_mul ?_ | refine xe_mod ?_ | refine xe_fdiv ?_)
  | (show WE _ _ (.Call (.Attribute _ _ _) _ _ _) _; first | refine x_split rfl rfl rfl ?_ | refine x_join rfl rfl rfl ?_)
  | (show WE _ _ (.Attribute _ _ _) _; refine we_fld ?_ rfl)
  | refine we_lst (k := 0) ?_
  | refine we_tup (k := _) ?_
  | refine we_if ?_
  | refine x_and ?_
  | refine x_or ?_
  | refine we_one ?_
  | refine x_not ?_
  | refine x_fstr2 ?_
  | refine we_neg ?_)
local macro_rules | `(tactic| walk_at "ss") => `(tactic| first
  | refine vs_set 0 ‹List.Nodup _› rfl (by first | exact .inl rfl | exact .inr rfl) (by first | exact .inl rfl | exact .inr rfl) rfl ?_
  | refine vs_set 1 ‹List.Nodup _› rfl (by first | exact .inl rfl | exact .inr rfl) (by first | exact .inl rfl | exact .inr rfl) rfl ?_
  | refine vs_set 2 ‹List.Nodup _› rfl (by first | exact .inl rfl | exact .inr rfl) (by first | exact .inl rfl | exact .inr rfl) rfl ?_
  | refine vs_set 3 ‹List.Nodup _› rfl (by first | exact .inl rfl | exact .inr rfl) (by first | exact .inl rfl | exact .inr rfl) rfl ?_
  | refine vs_set 4 ‹List.Nodup _› rfl (by first | exact .inl rfl | exact .inr rfl) (by first | exact .inl rfl | exact .inr rfl) rfl ?_
  | refine vs_set 5 ‹List.Nodup _› rfl (by first | exact .inl rfl | exact .inr rfl) (by first | exact .inl rfl | exact .inr rfl) rfl ?_
  | refine vs_set 6 ‹List.Nodup _› rfl (by first | exact .inl rfl | exact .inr rfl) (by first | exact .inl rfl | exact .inr rfl) rfl ?_
  | refine vs_set 7 ‹List.Nodup _› rfl (by first | exact .inl rfl | exact .inr rfl) (by first | exact .inl rfl | exact .inr rfl) rfl ?_
  | refine vs_set 8 ‹List.Nodup _› rfl (by first | exact .inl rfl | exact .inr rfl) (by first | exact .inl rfl | exact .inr rfl) rfl ?_
  | refine vs_set 9 ‹List.Nodup _› rfl (by first | exact .inl rfl | exact .inr rfl) (by first | exact .inl rfl | exact .inr rfl) rfl ?_
  | refine vs_set 10 ‹List.Nodup _› rfl (by first | exact .inl rfl | exact .inr rfl) (by first | exact .inl rfl | exact .inr rfl) rfl ?_
  | refine vs_set 11 ‹List.Nodup _› rfl (by first | exact .inl rfl | exact .inr rfl) (by first | exact .inl rfl | exact .inr rfl) rfl ?_)
local macro_rules | `(tactic| walk_at "nl") => `(tactic| first
  | refine vs_newlst 0 ‹List.Nodup _› rfl (by first | exact .inl rfl | exact .inr rfl) (by first | exact .inl rfl | exact .inr rfl) fun _ => ?_
  | refine vs_newlst 1 ‹List.Nodup _› rfl (by first | exact .inl rfl | exact .inr rfl) (by first | exact .inl rfl | exact .inr rfl) fun _ => ?_
  | refine vs_newlst 2 ‹List.Nodup _› rfl (by first | exact .inl rfl | exact .inr rfl) (by first | exact .inl rfl | exact .inr rfl) fun _ => ?_
  | refine vs_newlst 3 ‹List.Nodup _› rfl (by first | exact .inl rfl | exact .inr rfl) (by first | exact .inl rfl | exact .inr rfl) fun _ => ?_
  | refine vs_newlst 4 ‹List.Nodup _› rfl (by first | exact .inl rfl | exact .inr rfl) (by first | exact .inl rfl | exact .inr rfl) fun _ => ?_
  | refine vs_newlst 5 ‹List.Nodup _› rfl (by first | exact .inl rfl | exact .inr rfl) (by first | exact .inl rfl | exact .inr rfl) fun _ => ?_
  | refine vs_newlst 6 ‹List.Nodup _› rfl (by first | exact .inl rfl | exact .inr rfl) (by first | exact .inl rfl | exact .inr rfl) fun _ => ?_
  | refine vs_newlst 7 ‹List.Nodup _› rfl (by first | exact .inl rfl | exact .inr rfl) (by first | exact .inl rfl | exact .inr rfl) fun _ => ?_
  | refine vs_newlst 8 ‹List.Nodup _› rfl (by first | exact .inl rfl | exact .inr rfl) (by first | exact .inl rfl | exact .inr rfl) fun _ => ?_
  | refine vs_newlst 9 ‹List.Nodup _› rfl (by first | exact .inl rfl | exact .inr rfl) (by first | exact .inl rfl | exact .inr rfl) fun _ => ?_
  | refine vs_newlst 10 ‹List.Nodup _› rfl (by first | exact .inl rfl | exact .inr rfl) (by first | exact .inl rfl | exact .inr rfl) fun _ => ?_
  | refine vs_newlst 11 ‹List.Nodup _› rfl (by first | exact .inl rfl | exact .inr rfl) (by first | exact .inl rfl | exact .inr rfl) fun _ => ?_)
local macro_rules | `(tactic| walk_at "gn") => `(tactic| first
  | refine vg_name 0 ‹List.Nodup _› rfl (by first | exact .inl rfl | exact .inr rfl) (by first | exact .inl rfl | exact .inr rfl) (by decide) ?_
  | refine vg_name 1 ‹List.Nodup _› rfl (by first | exact .inl rfl | exact .inr rfl) (by first | exact .inl rfl | exact .inr rfl) (by decide) ?_
  | refine vg_name 2 ‹List.Nodup _› rfl (by first | exact .inl rfl | exact .inr rfl) (by first | exact .inl rfl | exact .inr rfl) (by decide) ?_
  | refine vg_name 3 ‹List.Nodup _› rfl (by first | exact .inl rfl | exact .inr rfl) (by first | exact .inl rfl | exact .inr rfl) (by decide) ?_
  | refine vg_name 4 ‹List.Nodup _› rfl (by first | exact .inl rfl | exact .inr rfl) (by first | exact .inl rfl | exact .inr rfl) (by decide) ?_
  | refine vg_name 5 ‹List.Nodup _› rfl (by first | exact .inl rfl | exact .inr rfl) (by first | exact .inl rfl | exact .inr rfl) (by decide) ?_
  | refine vg_name 6 ‹List.Nodup _› rfl (by first | exact .inl rfl | exact .inr rfl) (by first | exact .inl rfl | exact .inr rfl) (by decide) ?_
  | refine vg_name 7 ‹List.Nodup _› rfl (by first | exact .inl rfl | exact .inr rfl) (by first | exact .inl rfl | exact .inr rfl) (by decide) ?_
  | refine vg_name 8 ‹List.Nodup _› rfl (by first | exact .inl rfl | exact .inr rfl) (by first | exact .inl rfl | exact .inr rfl) (by decide) ?_
  | refine vg_name 9 ‹List.Nodup _› rfl (by first | exact .inl rfl | exact .inr rfl) (by first | exact .inl rfl | exact .inr rfl) (by decide) ?_
  | refine vg_name 10 ‹List.Nodup _› rfl (by first | exact .inl rfl | exact .inr rfl) (by first | exact .inl rfl | exact .inr rfl) (by decide) ?_
  | refine vg_name 11 ‹List.Nodup _› rfl (by first | exact .inl rfl | exact .inr rfl) (by first | exact .inl rfl | exact .inr rfl) (by decide) ?_)
local macro_rules | `(tactic| walk_at "k") => `(tactic| first
  | (with_reducible show IntW _ _; refine int_i ?_)
  | (with_reducible show StrW _ _; refine str_i ?_)
  | (with_reducible show LstW _ _; refine lst_i ?_)
  | (with_reducible show TupW _ _; refine tup_i ?_)
  | (with_reducible show BlW _ _; refine bl_i ?_)
  | (with_reducible show SeqW _ _; first | refine seqL_i ?_ | refine seqT_i ?_)
  | (with_reducible show LenW _ _; first | refine lenL_i ?_ | refine lenT_i ?_)
  | (with_reducible show IxW _ _ _; first | refine ixL_i 0 rfl rfl ?_ | refine ixL_i 1 rfl rfl ?_ | refine ixL_i 2 rfl rfl ?_ | refine ixT_i 0 rfl rfl ?_ | refine ixT_i 1 rfl rfl ?_)
  | (with_reducible show SlW _ _ _ _; first | refine slL_from 1 rfl ?_ | refine slL_from 2 rfl ?_ | refine slT_from 1 rfl ?_)
  | (show WE _ _ _ _; walk_at "e")
  | (show WT _ _ _ _; walk_at "t")
  | (show WSs _ _ _ _ _; first | refine wss_cons ?_ | refine wss_nil ?_)
  | (show WS _ _ _ _ _; first | refine ws_if ?_ | refine ws_ret ?_ | refine ws_retN ?_ | (show WS _ _ (.Assign [.Name _ _] (.List [] _) _) _ _; walk_at "nl") | (show WS _ _ (.Assign [.Name _ _] _ _) _ _; walk_at "ss"))
  | (show WG _ _ _ _ _ _; first | refine xg_tup rfl rfl rfl ?_ | walk_at "gn")
  | (show WGs _ _ _ _ _ _; first | refine vgs_cons rfl ?_ | refine vgs_nil ?_)
  | (show WAs _ _ _ _; first | refine wa_nil ?_ | refine wa_star ?_ | refine wa_cons ?_)
  | (show WTw _ _ _ _; first | refine ww_or ?_ | refine ww_and ?_ | refine ww_or1 ?_ | refine ww_and1 ?_)
  | (show WO _ _ _ _; first | refine wo_none ?_ | refine wo_int ?_)
  | refine fam_i fun _ _ _ _ _ => ?_
  | refine iteT ?_
  | refine iteF ?_
  | refine ⟨rfl, ?_⟩
  | refine ⟨_, rfl, ?_⟩
  | refine ⟨lit_line rfl, ?_⟩
  | refine ⟨_, .inl rfl, ?_⟩
  | refine ⟨_, .inr rfl, ?_⟩
  | walk_at "x")
/-! ### sorted tables -/
abbrev hRow (h : Hol) : List Str := "find" :: h.1 :: h.2
structure IsTab (hs : List Hol) (U : List Str) : Prop extends IsHols hs U where
  asc : Asc (hs.map (·.1))
  kas : ∀ h ∈ hs, Asc h.2
theorem tab_rows {hs : List Hol} {U : List Str} (h : IsTab hs U) : ∀ r ∈ hs.map hRow, IsRow r := fun r hr => by
  obtain ⟨m, hm, rfl⟩ := List.mem_map.mp hr
  have hk := h.wd m hm
  have := hk.len
  exact ⟨nms_cons nm_find (nms_cons hk.nm hk.ks), by simp, by rw [List.length_cons, List.length_cons]; omega⟩
theorem eqW_nilT {zs : List Str} (h : Nms zs) {P : Bool → Prop} (p : P (decide (zs = []))) : EqW (wt zs) (.tup []) P := by
  have s0 : SeqAt.shaped (W.tup []).py = true := shp_of (by rw [W.py, W.pys, PyData.canLay0, PyData.canLayAll0]) (by rw [W.py, W.pys, PyData.depth, PyData.depthAll]; omega)
  refine ⟨oks_map _ str_ok zs, by rw [W.oks], shp_wt h, s0, ?_⟩
  have e : PyData.eqv (wt zs).py (W.tup []).py = decide (zs = []) := by
    rw [py_wt, W.py, W.pys]
    cases zs with
    | nil => rfl
    | cons z zs => rfl
  rw [e]
  exact p
theorem eqW_nilL {qs : List (Str × List Str)} (h : ∀ q ∈ qs, IsNm q.1 ∧ Nms q.2) {P : Bool → Prop} (p : P (decide (qs = []))) : EqW (.lst (qs.map wWord)) (.lst []) P := by
  have s0 : SeqAt.shaped (W.lst []).py = true := shp_of (by rw [W.py, W.pys, PyData.canLay0, PyData.canLayAll0]) (by rw [W.py, W.pys, PyData.depth, PyData.depthAll]; omega)
  have s1 : SeqAt.shaped (W.lst (qs.map wWord)).py = true := shp_of (by
    rw [W.py, pys_map, PyData.canLay0]
    exact lay_map _ _ fun q hq => lay_word (h q hq).1 (h q hq).2) (by
    rw [W.py, pys_map, PyData.depth]
    have := dep_map (fun q => (wWord q).py) 2 qs fun q _ => dep_word
    omega)
  refine ⟨oks_map _ ok_word qs, by rw [W.oks], s1, s0, ?_⟩
  have e : PyData.eqv (W.lst (qs.map wWord)).py (W.lst []).py = decide (qs = []) := by
    rw [W.py, pys_map, W.py, W.pys]
    cases qs with
    | nil => rfl
    | cons z zs => rfl
  rw [e]
  exact p
section
variable {P : Program} {w : World} {K : PySem.W.Frag} {mg : Str → Option Value} {base : Heap}
abbrev fHoldingIn : DSpec := fun ws P => ∃ h, ws = [wl (hRow h)] ∧ IsHol h ∧ Asc h.2 ∧ P (wWord h)
theorem sc_holding_in : FnScope ["words", "kinds"] ["words"] (C8.fnScope (top 49)) := C8.fnScope_by (by decide +kernel)
theorem ok_holding_in (G : GDef K mg "holding_in" (top 49)) (T : Txt K mg) (c0 : C8.Cal P w K mg base 1 "is_name" (spD fIsName) []) (c1 : C8.Cal P w K mg base 2 "is_lot" (spD fIsLot) []) : C8.Cal P w K mg base 3 "holding_in" (spD fHoldingIn) [] := by
  have nd := sc_holding_in.nd
  refine cal_D G sc_holding_in (fun _ _ _ _ _ _ us hl => match us, hl with | [_], _ => rfl) (fun ws P ⟨h, e, _⟩ => by rw [e]; rfl) fun f cdv A outer s H E ex T' ws P' hr h => ?_
  obtain ⟨h, rfl, hh, ha, p⟩ := h
  have h10 := hh.len
  repeat walk_at "k"
  refine we_c c0 ‹Room _ _› (by decide) rfl ?_
  repeat walk_at "k"
  refine ⟨hh.nm, ?_⟩
  repeat walk_at "k"
  refine eqW_nilT hh.ks ?_
  by_cases hz : h.2 = []
  · rw [decide_eq_true hz]
    repeat walk_at "k"
    exact p
  · rw [decide_eq_false hz]
    repeat walk_at "k"
    refine we_c c1 ‹Room _ _› (by decide) rfl ?_
    repeat walk_at "k"
    refine ⟨⟨hh.ks, ha, hz, by omega⟩, ?_⟩
    repeat walk_at "k"
    exact p
abbrev fFaultHolding : DSpec := fun ws P => ∃ (h : Hol) (hs : List Hol) (U : List Str), ws = [wWord h, .lst (hs.map wWord)] ∧ hs.length < 12 ∧ KsIn (hs ++ [h]) U ∧ (∀ q ∈ hs, IsNm q.1 ∧ Nms q.2) ∧ (∀ q ∈ hs, cl q.1 < cl h.1) ∧ P (.str "")
theorem sc_fault_of_holding : FnScope ["holding", "earlier"] ["holding", "earlier"] (C8.fnScope (top 50)) := C8.fnScope_by (by decide +kernel)
theorem ok_fault_of_holding (G : GDef K mg "fault_of_holding" (top 50)) (T : Txt K mg) (T2 : Tx2 K mg) (c1 : C8.Cal P w K mg base 1 "kinds_in" (spD fKindsIn) []) : C8.Cal P w K mg base 2 "fault_of_holding" (spD fFaultHolding) [] := by
  have nd := sc_fault_of_holding.nd
  refine cal_D G sc_fault_of_holding (fun _ _ _ _ _ _ us hl => match us, hl with | [_, _], _ => rfl) (fun ws P ⟨m, ms, U, e, _⟩ => by rw [e]; rfl) fun f cdv A outer s H E ex T' ws P' hr h => ?_
  obtain ⟨h, hs, U, rfl, h12, hk, hn, hlt, p⟩ := h
  have hlen : (hs.map wWord).length = hs.length := by simp
  repeat walk_at "k"
  refine ifDn (by rw [hlen]; omega) ?_
  repeat walk_at "k"
  refine we_c c1 ‹Room _ _› (by decide) rfl ?_
  repeat walk_at "k"
  refine ⟨line_of (by rw [List.length_append, hlen, List.length_singleton]; omega), ?_⟩
  repeat walk_at "k"
  refine ⟨hs ++ [h], U, _, rfl, .inr (by rw [List.map_append]; rfl), hk, fun ys hy => ?_⟩
  repeat walk_at "k"
  refine ifDn (by rw [strs_len]; omega) ?_
  repeat walk_at "k"
  refine eqW_nilL hn ?_
  rcases List.eq_nil_or_concat hs with rfl | ⟨hs', l, rfl⟩
  · rw [decide_eq_true rfl]
    repeat walk_at "k"
    exact p
  · rw [decide_eq_false (by simp)]
    repeat walk_at "k"
    rw [List.concat_eq_append, List.map_append]
    refine ixL_last ?_
    repeat walk_at "k"
    show if (!decide (cl l.1 < cl h.1)) = true then _ else _
    rw [decide_eq_true (hlt l (by simp))]
    repeat walk_at "k"
    exact p
theorem tab_lt {hs : List Hol} (h : Asc (hs.map (·.1))) {i : Nat} {q : Hol} (hq : hs[i]? = some q) : ∀ p ∈ hs.take i, cl p.1 < cl q.1 := fun p hp => by
  obtain ⟨j, hj, e⟩ := List.mem_iff_getElem.mp hp
  rw [List.length_take] at hj
  rw [List.getElem_take] at e
  obtain ⟨hi, e2⟩ := List.getElem?_eq_some_iff.mp hq
  have := List.pairwise_iff_getElem.mp h j i (by rw [List.length_map]; omega) (by rw [List.length_map]; exact hi) (by omega)
  rw [List.getElem_map, List.getElem_map, e, e2] at this
  exact this
abbrev fReadHoldings : DSpec := fun ws P => ∃ hs U, ws = [.str (rowsT (hs.map hRow))] ∧ IsTab hs U ∧ P (.lst (hs.map wWord))
theorem sc_read_holdings : FnScope ["text", "lines", "tail", "found", "at", "line", "holding"] ["text"] (C8.fnScope (top 51)) := C8.fnScope_by (by decide +kernel)
theorem ok_read_holdings (G : GDef K mg "read_holdings" (top 51)) (T : Txt K mg) (c1 : C8.Cal P w K mg base 1 "split_lines" (spD fSplitLines) []) (c2 : C8.Cal P w K mg base 1 "need_line" (spD fNeedLine) []) (c3 : C8.Cal P w K mg base 1 "check_line" (spD fCheckLine) [])
    (c4 : C8.Cal P w K mg base 1 "check_tail" (spD fCheckTail) []) (c5 : C8.Cal P w K mg base 3 "holding_in" (spD fHoldingIn) []) (c6 : C8.Cal P w K mg base 2 "fault_of_holding" (spD fFaultHolding) []) : C8.Cal P w K mg base 4 "read_holdings" (spD fReadHoldings) [] := by
  have nd := sc_read_holdings.nd
  refine cal_D G sc_read_holdings (fun _ _ _ _ _ _ us hl => match us, hl with | [_], _ => rfl) (fun ws P ⟨ms, U, e, _⟩ => by rw [e]; rfl) fun f cdv A outer s H E ex T' ws P' hr h => ?_
  obtain ⟨ms, U, rfl, hm, p⟩ := h
  have h12 := hm.len
  have hrows := tab_rows hm
  have hln : Lns ((ms.map hRow).map rowT) := rows_lns hrows (by rw [List.length_map]; omega)
  refine wss_cons (vs_asg [1, 2] rfl rfl rfl (we_c c1 ‹Room _ _› (by decide) rfl ?_))
  refine wa_cons ?_
  walk_at "n"
  refine wa_nil ⟨_, rfl, hln, ?_⟩
  repeat walk_at "k"
  refine ws_expr (we_c c2 ‹Room _ _› (by decide) rfl ?_) rfl
  repeat walk_at "k"
  refine ⟨lines_ne (by simpa using hm.ne), ?_⟩
  repeat walk_at "k"
  rename_i l
  refine ws_for [4, 5] PassesOwn.never rfl (x_enum ‹Txt _ _› rfl rfl ?_)
  repeat walk_at "k"
  refine ⟨fun i c1 => ∃ r4 r5 r6 : Option Th, c1 = ⟨[some (.dat (.str (rowsT (ms.map hRow)))), some (.dat (wl ((ms.map hRow).map rowT))), some (.dat (.str "")), some (.adr l), r4, r5, r6], [(l, .lst ((ms.take i).map wWord))], none, ex, T'⟩, ⟨_, _, _, rfl⟩, fun i c1' d hd ⟨r4, r5, r6, e⟩ => ?_, fun c1' ⟨r4, r5, r6, e⟩ => ?_⟩
  · subst e
    obtain ⟨r, hr', rfl⟩ := rows_get hd
    obtain ⟨m, hm', rfl⟩ := map_get hr'
    have hmem := List.mem_of_getElem? hm'
    have hrow := hrows (hRow m) (List.mem_map.mpr ⟨m, hmem, rfl⟩)
    have hlt : i < ms.length := (List.getElem?_eq_some_iff.mp hm').1
    repeat walk_at "k"
    refine we_c c5 ‹Room _ _› (by decide) rfl ?_
    repeat walk_at "k"
    refine ⟨line6 (by have := row_len hrow; omega), ?_⟩
    rw [row_split hrow]
    repeat walk_at "k"
    first | refine ⟨m, rfl, hm.wd m hmem, hm.kas m hmem, ?_⟩ | refine ⟨hm.wd m hmem, hm.kas m hmem, ?_⟩
    repeat walk_at "k"
    refine ws_expr (v_borrow 3 rfl (we_c c3 ‹Room _ _› (by decide) rfl ?_)) rfl
    repeat walk_at "k"
    refine we_c c6 ‹Room _ _› (by decide) rfl ?_
    repeat walk_at "k"
    refine ⟨m, ms.take i, U, rfl, by rw [List.length_take]; omega, ⟨fun q hq => hm.ks.sub q (by
      rcases List.mem_append.mp hq with z | z
      · exact List.mem_of_mem_take z
      · rw [List.mem_singleton.mp z]; exact hmem), hm.ks.len⟩, fun q hq => ⟨(hm.wd q (List.mem_of_mem_take hq)).nm, (hm.wd q (List.mem_of_mem_take hq)).ks⟩, tab_lt hm.asc hm', ?_⟩
    repeat walk_at "k"
    refine ⟨⟨_, rfl⟩, ?_⟩
    repeat walk_at "k"
    refine vs_append 3 rfl (.inl rfl) rfl ?_ (fun a b => ps_expr (pe_bm PySem.F.plainAttrs_list PySem.F.slot_list_append PySem.F.type_list_append mt_append a (pa_cons b pa_nil)))
    repeat walk_at "k"
    refine ⟨line6 (by rw [List.length_map, List.length_take]; omega), ?_⟩
    repeat walk_at "k"
    have e := take_snoc (g := wWord) hm'
    dsimp only
    rw [e]
    exact ⟨_, _, _, rfl⟩
  · subst e
    have hn : (enumW (((ms.map hRow).map rowT).map W.str)).length = ms.length := by rw [enumW_len, List.length_map, List.length_map, List.length_map]
    rw [hn, List.take_length]
    refine v_freeze 3 rfl ?_
    repeat walk_at "k"
    refine ws_expr (we_c c4 ‹Room _ _› (by decide) rfl ?_) rfl
    repeat walk_at "k"
    exact p
end
end K11
/-! PD12 -/
namespace K11
open PySem PySem.Spec PyProof.Rows L2
local macro_rules | `(tactic| walk_at "n") => `(tactic| first
  | refine we_name 0 rfl (by first | exact .inl rfl | exact .inr (.inl rfl) | exact .inr (.inr rfl)) rfl ?_
  | refine we_name 1 rfl (by first | exact .inl rfl | exact .inr (.inl rfl) | exact .inr (.inr rfl)) rfl ?_
  | refine we_name 2 rfl (by first | exact .inl rfl | exact .inr (.inl rfl) | exact .inr (.inr rfl)) rfl ?_
  | refine we_name 3 rfl (by first | exact .inl rfl | exact .inr (.inl rfl) | exact .inr (.inr rfl)) rfl ?_
  | refine we_name 4 rfl (by first | exact .inl rfl | exact .inr (.inl rfl) | exact .inr (.inr rfl)) rfl ?_
  | refine we_name 5 rfl (by first | exact .inl rfl | exact .inr (.inl rfl) | exact .inr (.inr rfl)) rfl ?_
  | refine we_name 6 rfl (by first | exact .inl rfl | exact .inr (.inl rfl) | exact .inr (.inr rfl)) rfl ?_
  | refine we_name 7 rfl (by first | exact .inl rfl | exact .inr (.inl rfl) | exact .inr (.inr rfl)) rfl ?_
  | refine we_name 8 rfl (by first | exact .inl rfl | exact .inr (.inl rfl) | exact .inr (.inr rfl)) rfl ?_
  | refine we_name 9 rfl (by first | exact .inl rfl | exact .inr (.inl rfl) | exact .inr (.inr rfl)) rfl ?_
  | refine we_name 10 rfl (by first | exact .inl rfl | exact .inr (.inl rfl) | exact .inr (.inr rfl)) rfl ?_
  | refine we_name 11 rfl (by first | exact .inl rfl | exact .inr (.inl rfl) | exact .inr (.inr rfl)) rfl ?_
  | refine we_name 12 rfl (by first | exact .inl rfl | exact .inr (.inl rfl) | exact .inr (.inr rfl)) rfl ?_
  | refine we_name 13 rfl (by first | exact .inl rfl | exact .inr (.inl rfl) | exact .inr (.inr rfl)) rfl ?_
  | refine we_gint rfl (Txt.mLetters ‹_›) ?_
  | refine we_gstr rfl (Txt.letters ‹_›) ?_
  | refine we_gint rfl (Tx2.mFB ‹_›) ?_
  | refine we_gint rfl (Tx2.mW ‹_›) ?_
  | refine we_gint rfl (Tx2.mF ‹_›) ?_
  | refine we_gint rfl (Tx2.mFT ‹_›) ?_
  | refine we_gint rfl (Tx2.mK ‹_›) ?_)
local macro_rules | `(tactic| walk_at "cmp") => `(tactic| first
  | refine xt_eq ‹Room _ _› ?_
  | refine xt_ne ‹Room _ _› ?_
  | refine xt_lt ?_
  | refine xt_le ?_
  | refine xt_gt ?_
  | refine xt_ge ?_
  | refine wt_isN ?_
  | refine xt_in rfl ?_
  | refine xt_nin rfl ?_
  | refine x_chain (by with_unfolding_all rfl) ?_)
local macro_rules | `(tactic| walk_at "ecmp") => `(tactic| first
  | refine xe_eq ‹Room _ _› ?_
  | refine xe_ne ‹Room _ _› ?_
  | refine xe_lt ?_
  | refine xe_le ?_
  | refine xe_gt ?_
  | refine xe_ge ?_
  | refine we_isN ?_
  | refine xe_in rfl ?_
  | refine xe_nin rfl ?_)
local macro_rules | `(tactic| walk_at "t") => `(tactic| first
  | (show WT _ _ (.Compare _ _ _ _) _; walk_at "cmp")
  | refine wt_or ?_
  | refine wt_and ?_
  | refine wt_not ?_
  | refine x_val (by intro _; rfl) ?_)
local macro_rules | `(tactic| walk_at "b") => `(tactic| first
  | refine x_lenSet ‹Txt _ _› rfl rfl rfl rfl rfl ?_
  | refine xe_len ‹Txt _ _› rfl rfl ?_
  | refine x_isi_str ‹Txt _ _› rfl rfl rfl rfl ?_
  | refine x_isi_tup ‹Txt _ _› rfl rfl rfl rfl ?_
  | refine x_isi_lst ‹Txt _ _› rfl rfl rfl rfl ?_
  | refine x_isi_bool ‹Txt _ _› rfl rfl rfl rfl ?_
  | refine x_isi_int ‹Txt _ _› rfl rfl rfl rfl ?_
  | refine x_isi_lt ‹Txt _ _› rfl rfl rfl rfl rfl ?_
  | refine x_all ‹Txt _ _› rfl rfl rfl ?_
  | refine x_tuple ‹Txt _ _› rfl rfl ?_
  | refine x_list ‹Txt _ _› rfl rfl ?_
  | refine x_sorted ‹Txt _ _› rfl rfl ?_
  | refine x_str ‹Txt _ _› rfl rfl ?_
  | refine x_int ‹Txt _ _› rfl rfl ?_
  | refine x_min ‹Txt _ _› rfl rfl rfl rfl rfl ?_)
local macro_rules | `(tactic| walk_at "e") => `(tactic| first
  | (show WE _ _ (.Name _ _) _; walk_at "n")
  | (show WE _ _ (.Constant _ _ _) _; first | refine we_int ?_ | refine we_str ?_ | refine we_bl ?_ | refine we_non ?_)
  | (show WE _ _ (.Call (.Name _ _) _ _ _) _; walk_at "b")
  | (show WE _ _ (.Compare _ _ _ _) _; walk_at "ecmp")
  | (show WE _ _ (.Subscript _ _ _) _; first | refine xe_sl ?_ | refine xe_ix (fun _ _ => rfl) ?_)
  | (show WE _ _ (.BinOp _ _ _ _) _; first | refine xe_add ?_ | refine xe_sub ?_ | refine xe_mul ?_ | refine xe_mod ?_ | refine xe_fdiv ?_)
  | (show WE _ _ (.Call (.Attribute _ _ _) _ _ _) _; first | refine x_split rfl rfl rfl ?_ | refine x_join rfl rfl rfl ?_)
  | (show WE _ _ (.Attribute _ _ _) _; refine we_fld ?_ rfl)
  | refine we_lst (k := 0) ?_
  | refine we_tup (k := _) ?_
  | refine we_if ?_
  | refine x_and ?_
  | refine x_or ?_
  | refine we_one ?_
  | refine x_not ?_
  | refine x_fstr2 ?_
  | refine we_neg ?_)
local macro_rules | `(tactic| walk_at "ss") => `(tactic| first
  | refine vs_set 0 ‹List.Nodup _› rfl (by first | exact .inl rfl | exact .inr rfl) (by first | exact .inl rfl | exact .inr rfl) rfl ?_
  | refine vs_set 1 ‹List.Nodup _› rfl (by first | exact .inl rfl | exact .inr rfl) (by first | exact .inl rfl | exact .inr rfl) rfl ?_
  | refine vs_set 2 ‹List.Nodup _› rfl (by first | exact .inl rfl | exact .inr rfl) (by first | exact .inl rfl | exact .inr rfl) rfl ?_
  | refine vs_set 3 ‹List.Nodup _› rfl (by first | exact .inl rfl | exact .inr rfl) (by first | exact .inl rfl | exact .inr rfl) rfl ?_
  | refine vs_set 4 ‹List.Nodup _› rfl (by first | exact .inl rfl | exact .inr rfl) (by first | exact .inl rfl | exact .inr rfl) rfl ?_
  | refine vs_set 5 ‹List.Nodup _› rfl (by first | exact .inl rfl | exact .inr rfl) (by first | exact .inl rfl | exact .inr rfl) rfl ?_
  | refine vs_set 6 ‹List.Nodup _› rfl (by first | exact .inl rfl | exact .inr rfl) (by first | exact .inl rfl | exact .inr rfl) rfl ?_
  | refine vs_set 7 ‹List.Nodup _› rfl (by first | exact .inl rfl | exact .inr rfl) (by first | exact .inl rfl | exact .inr rfl) rfl ?_
  | refine vs_set 8 ‹List.Nodup _› rfl (by first | exact .inl rfl | exact .inr rfl) (by first | exact .inl rfl | exact .inr rfl) rfl ?_
  | refine vs_set 9 ‹List.Nodup _› rfl (by first | exact .inl rfl | exact .inr rfl) (by first | exact .inl rfl | exact .inr rfl) rfl ?_
  | refine vs_set 10 ‹List.Nodup _› rfl (by first | exact .inl rfl | exact .inr rfl) (by first | exact .inl rfl | exact .inr rfl) rfl ?_
  | refine vs_set 11 ‹List.Nodup _› rfl (by first | exact .inl rfl | exact .inr rfl) (by first | exact .inl rfl | exact .inr rfl) rfl ?_)
local macro_rules | `(tactic| walk_at "nl") => `(tactic| first
  | refine vs_newlst 0 ‹List.Nodup _› rfl (by first | exact .inl rfl | exact .inr rfl) (by first | exact .inl rfl | exact .inr rfl) fun _ => ?_
  | refine vs_newlst 1 ‹List.Nodup _› rfl (by first | exact .inl rfl | exact .inr rfl) (by first | exact .inl rfl | exact .inr rfl) fun _ => ?_
  | refine vs_newlst 2 ‹List.Nodup _› rfl (by first | exact .inl rfl | exact .inr rfl) (by first | exact .inl rfl | exact .inr rfl) fun _ => ?_
  | refine vs_newlst 3 ‹List.Nodup _› rfl (by first | exact .inl rfl | exact .inr rfl) (by first | exact .inl rfl | exact .inr rfl) fun _ => ?_
  | refine vs_newlst 4 ‹List.Nodup _› rfl (by first | exact .inl rfl | exact .inr rfl) (by first | exact .inl rfl | exact .inr rfl) fun _ => ?_
  | refine vs_newlst 5 ‹List.Nodup _› rfl (by first | exact .inl rfl | exact .inr rfl) (by first | exact .inl rfl | exact .inr rfl) fun _ => ?_
  | refine vs_newlst 6 ‹List.Nodup _› rfl (by first | exact .inl rfl | exact .inr rfl) (by first | exact .inl rfl | exact .inr rfl) fun _ => ?_
  | refine vs_newlst 7 ‹List.Nodup _› rfl (by first | exact .inl rfl | exact .inr rfl) (by first | exact .inl rfl | exact .inr rfl) fun _ => ?_
  | refine vs_newlst 8 ‹List.Nodup _› rfl (by first | exact .inl rfl | exact .inr rfl) (by first | exact .inl rfl | exact .inr rfl) fun _ => ?_
  | refine vs_newlst 9 ‹List.Nodup _› rfl (by first | exact .inl rfl | exact .inr rfl) (by first | exact .inl rfl | exact .inr rfl) fun _ => ?_
  | refine vs_newlst 10 ‹List.Nodup _› rfl (by first | exact .inl rfl | exact .inr rfl) (by first | exact .inl rfl | exact .inr rfl) fun _ => ?_
  | refine vs_newlst 11 ‹List.Nodup _› rfl (by first | exact .inl rfl | exact .inr rfl) (by first | exact .inl rfl | exact .inr rfl) fun _ => ?_)
local macro_rules | `(tactic| walk_at "gn") => `(tactic| first
  | refine vg_name 0 ‹List.Nodup _› rfl (by first | exact .inl rfl | exact .inr rfl) (by first | exact .inl rfl | exact .inr rfl) (by decide) ?_
  | refine vg_name 1 ‹List.Nodup _› rfl (by first | exact .inl rfl | exact .inr rfl) (by first | exact .inl rfl | exact .inr rfl) (by decide) ?_
  | refine vg_name 2 ‹List.Nodup _› rfl (by first | exact .inl rfl | exact .inr rfl) (by first | exact .inl rfl | exact .inr rfl) (by decide) ?_
  | refine vg_name 3 ‹List.Nodup _› rfl (by first | exact .inl rfl | exact .inr rfl) (by first | exact .inl rfl | exact .inr rfl) (by decide) ?_
  | refine vg_name 4 ‹List.Nodup _› rfl (by first | exact .inl rfl | exact .inr rfl) (by first | exact .inl rfl | exact .inr rfl) (by decide) ?_
  | refine vg_name 5 ‹List.Nodup _› rfl (by first | exact .inl rfl | exact .inr rfl) (by first | exact .inl rfl | exact .inr rfl) (by decide) ?_
  | refine vg_name 6 ‹List.Nodup _› rfl (by first | exact .inl rfl | exact .inr rfl) (by first | exact .inl rfl | exact .inr rfl) (by decide) ?_
  | refine vg_name 7 ‹List.Nodup _› rfl (by first | exact .inl rfl | exact .inr rfl) (by first | exact .inl rfl | exact .inr rfl) (by decide) ?_
  | refine vg_name 8 ‹List.Nodup _› rfl (by first | exact .inl rfl | exact .inr rfl) (by first | exact .inl rfl | exact .inr rfl) (by decide) ?_
  | refine vg_name 9 ‹List.Nodup _› rfl (by first | exact .inl rfl | exact .inr rfl) (by first | exact .inl rfl | exact .inr rfl) (by decide) ?_
  | refine vg_name 10 ‹List.Nodup _› rfl (by first | exact .inl rfl | exact .inr rfl) (by first | exact .inl rfl | exact .inr rfl) (by decide) ?_
  | refine vg_name 11 ‹List.Nodup _› rfl (by first | exact .inl rfl | exact .inr rfl) (by first | exact .inl rfl | exact .inr rfl) (by decide) ?_)
local macro_rules | `(tactic| walk_at "k") => `(tactic| first
  | (with_reducible show IntW _ _; refine int_i ?_)
  | (with_reducible show StrW _ _; refine str_i ?_)
  | (with_reducible show LstW _ _; refine lst_i ?_)
  | (with_reducible show TupW _ _; refine tup_i ?_)
  | (with_reducible show BlW _ _; refine bl_i ?_)
  | (with_reducible show SeqW _ _; first | refine seqL_i ?_ | refine seqT_i ?_)
  | (with_reducible show LenW _ _; first | refine lenL_i ?_ | refine lenT_i ?_)
  | (with_reducible show IxW _ _ _; first | refine ixL_i 0 rfl rfl ?_ | refine ixL_i 1 rfl rfl ?_ | refine ixL_i 2 rfl rfl ?_ | refine ixT_i 0 rfl rfl ?_ | refine ixT_i 1 rfl rfl ?_)
  | (with_reducible show SlW _ _ _ _; first | refine slL_from 1 rfl ?_ | refine slL_from 2 rfl ?_ | refine slT_from 1 rfl ?_)
  | (show WE _ _ _ _; walk_at "e")
  | (show WT _ _ _ _; walk_at "t")
  | (show WSs _ _ _ _ _; first | refine wss_cons ?_ | refine wss_nil ?_)
  | (show WS _ _ _ _ _; first | refine ws_if ?_ | refine ws_ret ?_ | refine ws_retN ?_ | (show WS _ _ (.Assign [.Name _ _] (.List [] _) _) _ _; walk_at "nl") | (show WS _ _ (.Assign [.Name _ _] _ _) _ _; walk_at "ss"))
  | (show WG _ _ _ _ _ _; first | refine xg_tup rfl rfl rfl ?_ | walk_at "gn")
  | (show WGs _ _ _ _ _ _; first | refine vgs_cons rfl ?_ | refine vgs_nil ?_)
  | (show WAs _ _ _ _; first | refine wa_nil ?_ | refine wa_star ?_ | refine wa_cons ?_)
  | (show WTw _ _ _ _; first | refine ww_or ?_ | refine ww_and ?_ | refine ww_or1 ?_ | refine ww_and1 ?_)
  | (show WO _ _ _ _; first | refine wo_none ?_ | refine wo_int ?_)
  | refine fam_i fun _ _ _ _ _ => ?_
  | refine iteT ?_
  | refine iteF ?_
  | refine ⟨rfl, ?_⟩
  | refine ⟨_, rfl, ?_⟩
  | refine ⟨lit_line rfl, ?_⟩
  | refine ⟨_, .inl rfl, ?_⟩
  | refine ⟨_, .inr rfl, ?_⟩
  | walk_at "x")
local macro_rules | `(tactic| walk_at "x") => `(tactic| first
  | refine ⟨_, _, _, rfl, rfl, TbF.cl ‹_›, TbF.nf ‹_›, ?_⟩ | refine ⟨_, _, _, rfl, rfl, TbF.cl ‹_›, TbF.nh ‹_›, ?_⟩)
/-! ### class Table -/
structure TbF (K : PySem.W.Frag) (mg : Str → Option Value) (CT : Addr) : Prop where
  cl : Cls K CT
  ic : C8.InsC K CT
  nf : NoAttr K CT "own_finds"
  nh : NoAttr K CT "own_holdings"
  g : mg "Table" = some (.ref CT)
abbrev wKs (hs : List Hol) : W := .tup (hs.map fun h => wt h.2)
abbrev wx (zs : List Str) : W := .tpx (zs.map W.str)
abbrev tabFs (hs : List Hol) : List (Str × W) := [("own_finds", wx (hs.map (·.1))), ("own_holdings", wKs hs)]
abbrev wTab (CT : Addr) (hs : List Hol) : W := .ins CT (tabFs hs)
/-- the same table, its rows and kinds in order -/
structure Srt (hs hs' : List Hol) : Prop where
  asc : Asc (hs'.map (·.1))
  mem : ∀ z, z ∈ hs'.map (·.1) ↔ z ∈ hs.map (·.1)
  ks : ∀ h' ∈ hs', Asc h'.2 ∧ ∃ h ∈ hs, h.1 = h'.1 ∧ ∀ z, z ∈ h'.2 ↔ z ∈ h.2
def holOf : W → Str × W
  | .tup [.str z, u] => (z, u)
  | _ => ("", .non)
theorem lookup_mem {κ : List Str → W} : ∀ {hs : List Hol} {h : Hol}, (hs.map (·.1)).Nodup → h ∈ hs → (hs.map fun h => (h.1, κ h.2)).lookup h.1 = some (κ h.2)
  | a :: hs, h, nd, m => by
    rw [List.map_cons] at nd
    obtain ⟨n1, n2⟩ := List.nodup_cons.mp nd
    rw [List.map_cons, List.lookup_cons]
    by_cases e : h.1 = a.1
    · rw [show (h.1 == a.1) = true by rw [e]; simp]
      rcases List.mem_cons.mp m with rfl | m
      · rfl
      · exact absurd (List.mem_map.mpr ⟨h, m, e⟩) n1
    · rw [show (h.1 == a.1) = false by simpa using e]
      rcases List.mem_cons.mp m with rfl | m
      · exact absurd rfl e
      · exact lookup_mem n2 m
section
variable {P : Program} {w : World} {K : PySem.W.Frag} {mg : Str → Option Value} {base : Heap} {CT : Addr}
abbrev fTableInit : ISpec := fun ws PF => ∃ (hs hs' : List Hol) (U : List Str) (g : Hol → W), ws = [.lst (hs.map g)] ∧ (g = hL ∨ g = wWord) ∧ IsHols hs U ∧ Srt hs hs' ∧ PF (tabFs hs')
theorem sc_table_init : FnScope ["self", "holdings", "kinds_by_find", "find", "kinds"] ["self", "holdings"] (C8.fnScope (mth 52 0)) := C8.fnScope_by (by decide +kernel)
theorem ok_table_init (G : IDef K mg "Table" CT "Table.__init__" (mth 52 0) ["self", "holdings"]) (B : TbF K mg CT) (T : Txt K mg) (c1 : C8.Cal P w K mg base 3 "check_holdings" (spD fCheckHoldings) []) : C8.Mak P w K mg base 4 "Table" CT (spI CT fTableInit) [] := by
  have nd := sc_table_init.nd
  refine mak_D G sc_table_init (fun ws P ⟨hs, hs', U, g, e, _⟩ => by rw [e]; rfl) (by simp) fun f cdv A outer s H E l dx ex T' ws P' hr h => ?_
  obtain ⟨hs, hs', U, g, rfl, hg, hh, hsr, p⟩ := h
  have h12 := hh.len
  have hlen : (hs.map g).length = hs.length := by simp
  have hg3 : ∃ κ : List Str → W, (∀ h, g h = .tup [.str h.1, κ h.2]) ∧ ∀ zs, κ zs = wl zs ∨ κ zs = wt zs := hg.elim (fun e => ⟨wl, fun h => by rw [e], fun _ => .inl rfl⟩) (fun e => ⟨wt, fun h => by rw [e], fun _ => .inr rfl⟩)
  obtain ⟨κ, hκ, hκ2⟩ := hg3
  refine wss_cons (ws_expr (we_c c1 ‹Room _ _› (by decide) rfl ?_) rfl)
  repeat walk_at "k"
  refine ⟨hs, U, g, rfl, hg, hh, ?_⟩
  refine wss_cons ?_
  repeat walk_at "k"
  refine we_dc [("find", 3), ("kinds", 4)] rfl nd (blkOk_by (own := [("find", 3), ("kinds", 4)]) (N := ["self", "holdings", "kinds_by_find", "find", "kinds"]) (sc := C8.fnScope (mth 52 0)) (by decide +kernel)) (x_iterL ?_)
  repeat walk_at "k"
  have gk : ∀ h : Hol, holOf (g h) = (h.1, κ h.2) := fun h => by rw [hκ h]; rfl
  have em : (hs.map g).map holOf = hs.map fun h => (h.1, κ h.2) := by
    rw [List.map_map]
    exact List.map_congr_left fun h _ => gk h
  refine ⟨by omega, holOf, fun i d hd Dd => ?_, ?_, ?_⟩
  · obtain ⟨q, hq', rfl⟩ := map_get hd
    rw [gk q, hκ q]
    repeat walk_at "k"
    rfl
  · have e2 : (hs.map g).map (fun d => (holOf d).1) = hs.map (·.1) := by
      rw [List.map_map]
      exact List.map_congr_left fun h _ => congrArg (·.1) (gk h)
    rw [e2]
    exact hh.nd
  rw [em]
  refine wss_cons (vs_self 0 rfl (.inl rfl) rfl B.cl B.nf rfl (by decide) rfl ?_)
  refine x_tupleX ‹Txt _ _› rfl rfl (x_sortSetD ‹Txt _ _› rfl rfl rfl rfl rfl ?_)
  repeat walk_at "n"
  refine ⟨_, rfl, by rw [List.length_map]; omega, fun ys h1 h2 => ?_⟩
  have ey : ys = hs'.map (·.1) := asc_uniq h1 hsr.asc fun z => by rw [h2 z, hsr.mem z, List.map_map]; rfl
  subst ey
  refine wss_cons (vs_self 0 rfl (.inl rfl) rfl B.cl B.nh rfl (by show 1 < 1000; decide) rfl ?_)
  refine x_tuple ‹Txt _ _› rfl rfl ?_
  refine we_lc [("find", 3)] rfl nd (blkOk_by (own := [("find", 3)]) (N := ["self", "holdings", "kinds_by_find", "find", "kinds"]) (sc := C8.fnScope (mth 52 0)) (by decide +kernel)) (wlc_M (wi_tpx ?_))
  refine we_selfld 0 rfl (.inl rfl) rfl B.cl B.nf rfl ⟨_, rfl, ?_⟩
  have hl' : hs'.length ≤ 12 := by
    have := nodup_le (U := hs.map (·.1)) (asc_nd h1) fun z hz => (hsr.mem z).mp hz
    rw [List.length_map, List.length_map] at this
    omega
  repeat walk_at "k"
  refine ⟨by rw [strs_len, List.length_map]; exact line_of (by omega), fun i _ => (hs'[i]?).elim .non (fun h => wt h.2), fun i d hd Dd => ?_, ?_⟩
  · obtain ⟨z, hz, rfl⟩ := strs_get hd
    rw [List.getElem?_map] at hz
    obtain ⟨h', hh', rfl⟩ : ∃ h', hs'[i]? = some h' ∧ z = h'.1 := by
      cases q : hs'[i]? with
      | none => rw [q] at hz; cases hz
      | some h' => rw [q] at hz; cases hz; exact ⟨h', rfl, rfl⟩
    obtain ⟨ha, h, hm, e, hk⟩ := hsr.ks h' (List.mem_of_getElem? hh')
    refine fam_i fun _ _ _ _ _ => ?_
    walk_at "k"
    refine fam_i fun _ _ _ _ _ => ?_
    refine x_tuple ‹Txt _ _› rfl rfl (x_sortSet ‹Txt _ _› rfl rfl rfl rfl rfl (we_dget ‹Room _ _› ?_))
    repeat walk_at "n"
    refine ⟨_, _, _, rfl, rfl, by rw [← e]; exact lookup_mem hh.nd hm, h.2, hκ2 h.2, by have := (hh.wd h hm).len; omega, fun ys h3 h4 => ?_⟩
    rw [asc_uniq h3 ha fun z => (h4 z).trans (hk z).symm]
    walk_at "k"
    show _ = Option.elim _ _ _
    rw [hh']
    rfl
  · have e : ((hs'.map (·.1)).map W.str).mapIdx (fun i _ => (hs'[i]?).elim W.non fun h => wt h.2) = hs'.map fun h => wt h.2 := by
      rw [List.map_map]
      exact idx_map
    rw [e]
    repeat walk_at "k"
    exact p
end
end K11
/-! PD13 -/
namespace K11
open PySem PySem.Spec PyProof.Rows L2
local macro_rules | `(tactic| walk_at "n") => `(tactic| first
  | refine we_name 0 rfl (by first | exact .inl rfl | exact .inr (.inl rfl) | exact .inr (.inr rfl)) rfl ?_
  | refine we_name 1 rfl (by first | exact .inl rfl | exact .inr (.inl rfl) | exact .inr (.inr rfl)) rfl ?_
  | refine we_name 2 rfl (by first | exact .inl rfl | exact .inr (.inl rfl) | exact .inr (.inr rfl)) rfl ?_
  | refine we_name 3 rfl (by first | exact .inl rfl | exact .inr (.inl rfl) | exact .inr (.inr rfl)) rfl ?_
  | refine we_name 4 rfl (by first | exact .inl rfl | exact .inr (.inl rfl) | exact .inr (.inr rfl)) rfl ?_
  | refine we_name 5 rfl (by first | exact .inl rfl | exact .inr (.inl rfl) | exact .inr (.inr rfl)) rfl ?_
  | refine we_name 6 rfl (by first | exact .inl rfl | exact .inr (.inl rfl) | exact .inr (.inr rfl)) rfl ?_
  | refine we_name 7 rfl (by first | exact .inl rfl | exact .inr (.inl rfl) | exact .inr (.inr rfl)) rfl ?_
  | refine we_name 8 rfl (by first | exact .inl rfl | exact .inr (.inl rfl) | exact .inr (.inr rfl)) rfl ?_
  | refine we_name 9 rfl (by first | exact .inl rfl | exact .inr (.inl rfl) | exact .inr (.inr rfl)) rfl ?_
  | refine we_name 10 rfl (by first | exact .inl rfl | exact .inr (.inl rfl) | exact .inr (.inr rfl)) rfl ?_
  | refine we_name 11 rfl (by first | exact .inl rfl | exact .inr (.inl rfl) | exact .inr (.inr rfl)) rfl ?_
  | refine we_name 12 rfl (by first | exact .inl rfl | exact .inr (.inl rfl) | exact .inr (.inr rfl)) rfl ?_
  | refine we_name 13 rfl (by first | exact .inl rfl | exact .inr (.inl rfl) | exact .inr (.inr rfl)) rfl ?_
  | refine we_gint rfl (Txt.mLetters ‹_›) ?_
  | refine we_gstr rfl (Txt.letters ‹_›) ?_
  | refine we_gint rfl (Tx2.mFB ‹_›) ?_
  | refine we_gint rfl (Tx2.mW ‹_›) ?_
  | refine we_gint rfl (Tx2.mF ‹_›) ?_
  | refine we_gint rfl (Tx2.mFT ‹_›) ?_
  | refine we_gint rfl (Tx2.mK ‹_›) ?_)
local macro_rules | `(tactic| walk_at "cmp") => `(tactic| first
  | refine xt_eq ‹Room _ _› ?_
  | refine xt_ne ‹Room _ _› ?_
  | refine xt_lt ?_
  | refine xt_le ?_
  | refine xt_gt ?_
  | refine xt_ge ?_
  | refine wt_isN ?_
  | refine xt_in rfl ?_
  | refine xt_nin rfl ?_
  | refine x_chain (by with_unfolding_all rfl) ?_)
local macro_rules | `(tactic| walk_at "ecmp") => `(tactic| first
  | refine xe_eq ‹Room _ _› ?_
  | refine xe_ne ‹Room _ _› ?_
  | refine xe_lt ?_
  | refine xe_le ?_
  | refine xe_gt ?_
  | refine xe_ge ?_
  | refine we_isN ?_
  | refine xe_in rfl ?_
  | refine xe_nin rfl ?_)
local macro_rules | `(tactic| walk_at "t") => `(tactic| first
  | (show WT _ _ (.Compare _ _ _ _) _; walk_at "cmp")
  | refine wt_or ?_
  | refine wt_and ?_
  | refine wt_not ?_
  | refine x_val (by intro _; rfl) ?_)
local macro_rules | `(tactic| walk_at "b") => `(tactic| first
  | refine x_lenSet ‹Txt _ _› rfl rfl rfl rfl rfl ?_
  | refine xe_len ‹Txt _ _› rfl rfl ?_
  | refine x_isi_str ‹Txt _ _› rfl rfl rfl rfl ?_
  | refine x_isi_tup ‹Txt _ _› rfl rfl rfl rfl ?_
  | refine x_isi_lst ‹Txt _ _› rfl rfl rfl rfl ?_
  | refine x_isi_bool ‹Txt _ _› rfl rfl rfl rfl ?_
  | refine x_isi_int ‹Txt _ _› rfl rfl rfl rfl ?_
  | refine x_isi_lt ‹Txt _ _› rfl rfl rfl rfl rfl ?_
  | refine x_all ‹Txt _ _› rfl rfl rfl ?_
  | refine x_tuple ‹Txt _ _› rfl rfl ?_
  | refine x_list ‹Txt _ _› rfl rfl ?_
  | refine x_sorted ‹Txt _ _› rfl rfl ?_
  | refine x_str ‹Txt _ _› rfl rfl ?_
  | refine x_int ‹Txt _ _› rfl rfl ?_
  | refine x_min ‹Txt _ _› rfl rfl rfl rfl rfl ?_)
local macro_rules | `(tactic| walk_at "e") => `(tactic| first
  | (show WE _ _ (.Name _ _) _; walk_at "n")
  | (show WE _ _ (.Constant _ _ _) _; first | refine we_int ?_ | refine we_str ?_ | refine we_bl ?_ | refine we_non ?_)
  | (show WE _ _ (.Call (.Name _ _) _ _ _) _; walk_at "b")
  | (show WE _ _ (.Compare _ _ _ _) _; walk_at "ecmp")
  | (show WE _ _ (.Subscript _ _ _) _; first | refine xe_sl ?_ | refine xe_ix (fun _ _ => rfl) ?_)
  | (show WE _ _ (.BinOp _ _ _ _) _; first | refine xe_add ?_ | refine xe_sub ?_ | refine xe_mul ?_ | refine xe_mod ?_ | refine xe_fdiv ?_)
  | (show WE _ _ (.Call (.Attribute _ _ _) _ _ _) _; first | refine x_split rfl rfl rfl ?_ | refine x_join rfl rfl rfl ?_)
  | (show WE _ _ (.Attribute _ _ _) _; refine we_fld ?_ rfl)
  | refine we_lst (k := 0) ?_
  | refine we_tup (k := _) ?_
  | refine we_if ?_
  | refine x_and ?_
  | refine x_or ?_
  | refine we_one ?_
  | refine x_not ?_
  | refine x_fstr2 ?_
  | refine we_neg ?_)
local macro_rules | `(tactic| walk_at "ss") => `(tactic| first
  | refine vs_set 0 ‹List.Nodup _› rfl (by first | exact .inl rfl | exact .inr rfl) (by first | exact .inl rfl | exact .inr rfl) rfl ?_
  | refine vs_set 1 ‹List.Nodup _› rfl (by first | exact .inl rfl | exact .inr rfl) (by first | exact .inl rfl | exact .inr rfl) rfl ?_
  | refine vs_set 2 ‹List.Nodup _› rfl (by first | exact .inl rfl | exact .inr rfl) (by first | exact .inl rfl | exact .inr rfl) rfl ?_
  | refine vs_set 3 ‹List.Nodup _› rfl (by first | exact .inl rfl | exact .inr rfl) (by first | exact .inl rfl | exact .inr rfl) rfl ?_
  | refine vs_set 4 ‹List.Nodup _› rfl (by first | exact .inl rfl | exact .inr rfl) (by first | exact .inl rfl | exact .inr rfl) rfl ?_
  | refine vs_set 5 ‹List.Nodup _› rfl (by first | exact .inl rfl | exact .inr rfl) (by first | exact .inl rfl | exact .inr rfl) rfl ?_
  | refine vs_set 6 ‹List.Nodup _› rfl (by first | exact .inl rfl | exact .inr rfl) (by first | exact .inl rfl | exact .inr rfl) rfl ?_
  | refine vs_set 7 ‹List.Nodup _› rfl (by first | exact .inl rfl | exact .inr rfl) (by first | exact .inl rfl | exact .inr rfl) rfl ?_
  | refine vs_set 8 ‹List.Nodup _› rfl (by first | exact .inl rfl | exact .inr rfl) (by first | exact .inl rfl | exact .inr rfl) rfl ?_
  | refine vs_set 9 ‹List.Nodup _› rfl (by first | exact .inl rfl | exact .inr rfl) (by first | exact .inl rfl | exact .inr rfl) rfl ?_
  | refine vs_set 10 ‹List.Nodup _› rfl (by first | exact .inl rfl | exact .inr rfl) (by first | exact .inl rfl | exact .inr rfl) rfl ?_
  | refine vs_set 11 ‹List.Nodup _› rfl (by first | exact .inl rfl | exact .inr rfl) (by first | exact .inl rfl | exact .inr rfl) rfl ?_)
local macro_rules | `(tactic| walk_at "nl") => `(tactic| first
  | refine vs_newlst 0 ‹List.Nodup _› rfl (by first | exact .inl rfl | exact .inr rfl) (by first | exact .inl rfl | exact .inr rfl) fun _ => ?_
  | refine vs_newlst 1 ‹List.Nodup _› rfl (by first | exact .inl rfl | exact .inr rfl) (by first | exact .inl rfl | exact .inr rfl) fun _ => ?_
  | refine vs_newlst 2 ‹List.Nodup _› rfl (by first | exact .inl rfl | exact .inr rfl) (by first | exact .inl rfl | exact .inr rfl) fun _ => ?_
  | refine vs_newlst 3 ‹List.Nodup _› rfl (by first | exact .inl rfl | exact .inr rfl) (by first | exact .inl rfl | exact .inr rfl) fun _ => ?_
  | refine vs_newlst 4 ‹List.Nodup _› rfl (by first | exact .inl rfl | exact .inr rfl) (by first | exact .inl rfl | exact .inr rfl) fun _ => ?_
  | refine vs_newlst 5 ‹List.Nodup _› rfl (by first | exact .inl rfl | exact .inr rfl) (by first | exact .inl rfl | exact .inr rfl) fun _ => ?_
  | refine vs_newlst 6 ‹List.Nodup _› rfl (by first | exact .inl rfl | exact .inr rfl) (by first | exact .inl rfl | exact .inr rfl) fun _ => ?_
  | refine vs_newlst 7 ‹List.Nodup _› rfl (by first | exact .inl rfl | exact .inr rfl) (by first | exact .inl rfl | exact .inr rfl) fun _ => ?_
  | refine vs_newlst 8 ‹List.Nodup _› rfl (by first | exact .inl rfl | exact .inr rfl) (by first | exact .inl rfl | exact .inr rfl) fun _ => ?_
  | refine vs_newlst 9 ‹List.Nodup _› rfl (by first | exact .inl rfl | exact .inr rfl) (by first | exact .inl rfl | exact .inr rfl) fun _ => ?_
  | refine vs_newlst 10 ‹List.Nodup _› rfl (by first | exact .inl rfl | exact .inr rfl) (by first | exact .inl rfl | exact .inr rfl) fun _ => ?_
  | refine vs_newlst 11 ‹List.Nodup _› rfl (by first | exact .inl rfl | exact .inr rfl) (by first | exact .inl rfl | exact .inr rfl) fun _ => ?_)
local macro_rules | `(tactic| walk_at "gn") => `(tactic| first
  | refine vg_name 0 ‹List.Nodup _› rfl (by first | exact .inl rfl | exact .inr rfl) (by first | exact .inl rfl | exact .inr rfl) (by decide) ?_
  | refine vg_name 1 ‹List.Nodup _› rfl (by first | exact .inl rfl | exact .inr rfl) (by first | exact .inl rfl | exact .inr rfl) (by decide) ?_
  | refine vg_name 2 ‹List.Nodup _› rfl (by first | exact .inl rfl | exact .inr rfl) (by first | exact .inl rfl | exact .inr rfl) (by decide) ?_
  | refine vg_name 3 ‹List.Nodup _› rfl (by first | exact .inl rfl | exact .inr rfl) (by first | exact .inl rfl | exact .inr rfl) (by decide) ?_
  | refine vg_name 4 ‹List.Nodup _› rfl (by first | exact .inl rfl | exact .inr rfl) (by first | exact .inl rfl | exact .inr rfl) (by decide) ?_
  | refine vg_name 5 ‹List.Nodup _› rfl (by first | exact .inl rfl | exact .inr rfl) (by first | exact .inl rfl | exact .inr rfl) (by decide) ?_
  | refine vg_name 6 ‹List.Nodup _› rfl (by first | exact .inl rfl | exact .inr rfl) (by first | exact .inl rfl | exact .inr rfl) (by decide) ?_
  | refine vg_name 7 ‹List.Nodup _› rfl (by first | exact .inl rfl | exact .inr rfl) (by first | exact .inl rfl | exact .inr rfl) (by decide) ?_
  | refine vg_name 8 ‹List.Nodup _› rfl (by first | exact .inl rfl | exact .inr rfl) (by first | exact .inl rfl | exact .inr rfl) (by decide) ?_
  | refine vg_name 9 ‹List.Nodup _› rfl (by first | exact .inl rfl | exact .inr rfl) (by first | exact .inl rfl | exact .inr rfl) (by decide) ?_
  | refine vg_name 10 ‹List.Nodup _› rfl (by first | exact .inl rfl | exact .inr rfl) (by first | exact .inl rfl | exact .inr rfl) (by decide) ?_
  | refine vg_name 11 ‹List.Nodup _› rfl (by first | exact .inl rfl | exact .inr rfl) (by first | exact .inl rfl | exact .inr rfl) (by decide) ?_)
local macro_rules | `(tactic| walk_at "k") => `(tactic| first
  | (with_reducible show IntW _ _; refine int_i ?_)
  | (with_reducible show StrW _ _; refine str_i ?_)
  | (with_reducible show LstW _ _; refine lst_i ?_)
  | (with_reducible show TupW _ _; refine tup_i ?_)
  | (with_reducible show BlW _ _; refine bl_i ?_)
  | (with_reducible show SeqW _ _; first | refine seqL_i ?_ | refine seqT_i ?_)
  | (with_reducible show LenW _ _; first | refine lenL_i ?_ | refine lenT_i ?_)
  | (with_reducible show IxW _ _ _; first | refine ixL_i 0 rfl rfl ?_ | refine ixL_i 1 rfl rfl ?_ | refine ixL_i 2 rfl rfl ?_ | refine ixT_i 0 rfl rfl ?_ | refine ixT_i 1 rfl rfl ?_)
  | (with_reducible show SlW _ _ _ _; first | refine slL_from 1 rfl ?_ | refine slL_from 2 rfl ?_ | refine slT_from 1 rfl ?_)
  | (show WE _ _ _ _; walk_at "e")
  | (show WT _ _ _ _; walk_at "t")
  | (show WSs _ _ _ _ _; first | refine wss_cons ?_ | refine wss_nil ?_)
  | (show WS _ _ _ _ _; first | refine ws_if ?_ | refine ws_ret ?_ | refine ws_retN ?_ | (show WS _ _ (.Assign [.Name _ _] (.List [] _) _) _ _; walk_at "nl") | (show WS _ _ (.Assign [.Name _ _] _ _) _ _; walk_at "ss"))
  | (show WG _ _ _ _ _ _; first | refine xg_tup rfl rfl rfl ?_ | walk_at "gn")
  | (show WGs _ _ _ _ _ _; first | refine vgs_cons rfl ?_ | refine vgs_nil ?_)
  | (show WAs _ _ _ _; first | refine wa_nil ?_ | refine wa_star ?_ | refine wa_cons ?_)
  | (show WTw _ _ _ _; first | refine ww_or ?_ | refine ww_and ?_ | refine ww_or1 ?_ | refine ww_and1 ?_)
  | (show WO _ _ _ _; first | refine wo_none ?_ | refine wo_int ?_)
  | refine fam_i fun _ _ _ _ _ => ?_
  | refine iteT ?_
  | refine iteF ?_
  | refine ⟨rfl, ?_⟩
  | refine ⟨_, rfl, ?_⟩
  | refine ⟨lit_line rfl, ?_⟩
  | refine ⟨_, .inl rfl, ?_⟩
  | refine ⟨_, .inr rfl, ?_⟩
  | walk_at "x")
local macro_rules | `(tactic| walk_at "x") => `(tactic| first
  | refine ⟨_, _, _, rfl, rfl, TbF.cl ‹_›, TbF.nf ‹_›, ?_⟩ | refine ⟨_, _, _, rfl, rfl, TbF.cl ‹_›, TbF.nh ‹_›, ?_⟩)
section
variable {P : Program} {w : World} {K : PySem.W.Frag} {mg : Str → Option Value} {base : Heap} {CT : Addr}
abbrev fTableFinds (CT : Addr) : DSpec := fun ws P => ∃ hs, ws = [wTab CT hs] ∧ P (wl (hs.map (·.1)))
theorem sc_table_finds : FnScope ["self"] ["self"] (C8.fnScope (mth 52 1)) := C8.fnScope_by (by decide +kernel)
theorem ok_table_finds (G : MDef K CT "finds" "Table.finds" (mth 52 1)) (B : TbF K mg CT) (T : Txt K mg) : C8.Met P w K mg base 1 CT "finds" (spD (fTableFinds CT)) [] := by
  have nd := sc_table_finds.nd
  refine met_D G sc_table_finds (fun _ _ _ _ _ _ us hl => match us, hl with | [_], _ => rfl) (fun ws P ⟨fs, e, _⟩ => by rw [e]; rfl) fun f cdv A outer s H E ex T' ws P' hr h => ?_
  obtain ⟨hs, rfl, p⟩ := h
  refine wss_cons (ws_ret (x_listX ‹Txt _ _› rfl rfl ?_))
  repeat walk_at "k"
  exact p
abbrev fTableHas (CT : Addr) : DSpec := fun ws P => ∃ hs m, ws = [wTab CT hs, .str m] ∧ P (.bl (decide (m ∈ hs.map (·.1))))
theorem sc_table_contains : FnScope ["self", "name"] ["self", "name"] (C8.fnScope (mth 52 8)) := C8.fnScope_by (by decide +kernel)
theorem ok_table_contains (G : MDef K CT "__contains__" "Table.__contains__" (mth 52 8)) (B : TbF K mg CT) (T : Txt K mg) : C8.Met P w K mg base 1 CT "__contains__" (spD (fTableHas CT)) [] := by
  have nd := sc_table_contains.nd
  refine met_D G sc_table_contains (fun _ _ _ _ _ _ us hl => match us, hl with | [_, _], _ => rfl) (fun ws P ⟨hs, m, e, _⟩ => by rw [e]; rfl) fun f cdv A outer s H E ex T' ws P' hr h => ?_
  obtain ⟨hs, m, rfl, p⟩ := h
  refine wss_cons (ws_ret (x_and (x_isi_str ‹Txt _ _› rfl rfl rfl rfl ?_)))
  walk_at "n"
  refine ⟨rfl, ?_⟩
  refine bl_i ?_
  refine iteT ?_
  refine we_one ?_
  refine x_inX rfl ?_
  repeat walk_at "k"
  exact ⟨_, _, rfl, rfl, p⟩
abbrev fKindsOf (CT : Addr) : DSpec := fun ws P => ∃ (hs : List Hol) (h : Hol) (i : Nat), ws = [wTab CT hs, .str h.1] ∧ hs[i]? = some h ∧ (hs.map (·.1)).Nodup ∧ P (wl h.2)
theorem sc_table_kinds_of : FnScope ["self", "name"] ["self", "name"] (C8.fnScope (mth 52 3)) := C8.fnScope_by (by decide +kernel)
theorem ok_table_kinds_of (G : MDef K CT "kinds_of" "Table.kinds_of" (mth 52 3)) (B : TbF K mg CT) (T : Txt K mg) (c1 : C8.Met P w K mg base 1 CT "__contains__" (spD (fTableHas CT)) []) : C8.Met P w K mg base 2 CT "kinds_of" (spD (fKindsOf CT)) [] := by
  have nd := sc_table_kinds_of.nd
  refine met_D G sc_table_kinds_of (fun _ _ _ _ _ _ us hl => match us, hl with | [_, _], _ => rfl) (fun ws P ⟨hs, h, i, e, _⟩ => by rw [e]; rfl) fun f cdv A outer s H E ex T' ws P' hr h => ?_
  obtain ⟨hs, h, i, rfl, hi, hnd, p⟩ := h
  have hn : (hs.map (·.1))[i]? = some h.1 := by rw [List.getElem?_map, hi]; rfl
  have hfst : ∀ m, m < i → (hs.map (·.1))[m]? ≠ some h.1 := fun m hm e => not_before hnd hn (List.mem_iff_getElem?.mpr ⟨m, by rw [List.getElem?_take, if_pos hm]; exact e⟩)
  refine wss_cons (ws_if (xt_ninOwn c1 ‹Room _ _› (by decide) rfl ?_))
  repeat walk_at "n"
  refine ⟨_, rfl, hs, h.1, rfl, _, rfl, ?_⟩
  refine ifN (List.mem_of_getElem? hn) ?_
  refine wss_nil ?_
  refine wss_cons (ws_ret (x_list ‹Txt _ _› rfl rfl (xe_ix (fun _ _ => rfl) ?_)))
  repeat walk_at "k"
  refine x_tindexX rfl rfl rfl rfl rfl ?_
  repeat walk_at "k"
  refine ⟨i, _, rfl, hn, hfst, ?_⟩
  refine ixT_i i rfl (by rw [List.getElem?_map, hi]; rfl) ?_
  repeat walk_at "k"
  exact p
abbrev fTableText (CT : Addr) : DSpec := fun ws P => ∃ hs U, ws = [wTab CT hs] ∧ IsTab hs U ∧ P (.str (rowsT (hs.map hRow)))
theorem sc_table_text : FnScope ["self", "rows", "find", "row"] ["self"] (C8.fnScope (mth 52 6)) := C8.fnScope_by (by decide +kernel)
theorem ok_table_text (G : MDef K CT "text" "Table.text" (mth 52 6)) (B : TbF K mg CT) (T : Txt K mg) (c1 : C8.Cal P w K mg base 1 "joined_lines" (spD fJoinedLines) []) (c2 : C8.Met P w K mg base 2 CT "kinds_of" (spD (fKindsOf CT)) []) : C8.Met P w K mg base 3 CT "text" (spD (fTableText CT)) [] := by
  have nd := sc_table_text.nd
  refine met_D G sc_table_text (fun _ _ _ _ _ _ us hl => match us, hl with | [_], _ => rfl) (fun ws P ⟨hs, U, e, _⟩ => by rw [e]; rfl) fun f cdv A outer s H E ex T' ws P' hr h => ?_
  obtain ⟨hs, U, rfl, hm, p⟩ := h
  have h12 := hm.len
  have hrows := tab_rows hm
  refine wss_cons (vs_setLc 1 [("find", 2)] rfl nd rfl rfl (sw_true rfl rfl rfl (by decide +kernel)) (blkOk_by (own := [("find", 2)]) (N := ["self", "rows", "find", "row"]) (sc := C8.fnScope (mth 52 6)) (by decide +kernel)) (wlc_M (wi_tpx ?_)))
  repeat walk_at "k"
  refine ⟨by rw [strs_len, List.length_map]; exact line_of (by omega), fun i _ => (hs[i]?).elim .non (fun h => wl (hRow h)), fun i d hd Dd => ?_, ?_⟩
  · obtain ⟨z, hz, rfl⟩ := strs_get hd
    rw [List.getElem?_map] at hz
    obtain ⟨h, hh, rfl⟩ : ∃ h, hs[i]? = some h ∧ z = h.1 := by
      cases q : hs[i]? with
      | none => rw [q] at hz; cases hz
      | some h => rw [q] at hz; cases hz; exact ⟨h, rfl, rfl⟩
    have h10 := (hm.wd h (List.mem_of_getElem? hh)).len
    repeat walk_at "k"
    refine we_mt c2 ‹Room _ _› (by decide) ?_
    repeat walk_at "n"
    refine ⟨_, rfl, rfl, ?_⟩
    repeat walk_at "k"
    refine ⟨hs, h, i, rfl, hh, hm.nd, ?_⟩
    repeat walk_at "k"
    refine ⟨line_of (by rw [List.length_cons, List.length_cons, List.append_nil, strs_len]; omega), ?_⟩
    show _ = Option.elim _ _ _
    rw [hh]
    simp
  have e0 : ((hs.map (·.1)).map W.str).mapIdx (fun i _ => (hs[i]?).elim W.non fun h => wl (hRow h)) = (hs.map hRow).map wl := by
    rw [List.map_map, List.map_map]
    exact idx_map
  rw [e0]
  refine wss_cons (ws_ret (we_c c1 ‹Room _ _› (by decide) rfl ?_))
  refine wa_cons (we_lc [("row", 3)] rfl nd (blkOk_by (own := [("row", 3)]) (N := ["self", "rows", "find", "row"]) (sc := C8.fnScope (mth 52 6)) (by decide +kernel)) (wlc_M (x_iterL ?_)))
  repeat walk_at "k"
  refine ⟨by rw [List.length_map, List.length_map]; exact line_of (by omega), fun i _ => ((hs.map hRow)[i]?).elim .non (fun r => .str (rowT r)), fun i d hd Dd => ?_, ?_⟩
  · obtain ⟨r, hr', rfl⟩ := rowsW_get hd
    repeat walk_at "k"
    refine ⟨row_sum (hrows r (List.mem_of_getElem? hr')), ?_⟩
    show _ = Option.elim _ _ _
    rw [hr']
    rfl
  rw [idx_map]
  repeat walk_at "k"
  refine ⟨(hs.map hRow).map rowT, by simp only [wl, List.map_map]; rfl, rows_lns hrows (by rw [List.length_map]; omega), p⟩
theorem sc_table_str : FnScope ["self"] ["self"] (C8.fnScope (mth 52 11)) := C8.fnScope_by (by decide +kernel)
theorem ok_table_str (G : MDef K CT "__str__" "Table.__str__" (mth 52 11)) (B : TbF K mg CT) (T : Txt K mg) (c1 : C8.Met P w K mg base 3 CT "text" (spD (fTableText CT)) []) : C8.Met P w K mg base 4 CT "__str__" (spD (fTableText CT)) [] := by
  have nd := sc_table_str.nd
  refine met_D G sc_table_str (fun _ _ _ _ _ _ us hl => match us, hl with | [_], _ => rfl) (fun ws P ⟨fs, U, e, _⟩ => by rw [e]; rfl) fun f cdv A outer s H E ex T' ws P' hr h => ?_
  obtain ⟨hs, U, rfl, hm, p⟩ := h
  refine wss_cons (ws_ret (x_str ‹Txt _ _› rfl rfl (we_mt0 c1 ‹Room _ _› (by decide) ?_)))
  walk_at "n"
  refine ⟨_, rfl, rfl, hs, U, rfl, hm, ?_⟩
  repeat walk_at "k"
  exact p
theorem eqW_wx {zs : List Str} (h : Nms zs) {P : Bool → Prop} (p : P true) : EqW (wx zs) (wx zs) P := by
  have e : (wx zs).py = (wt zs).py := by rw [W.py, W.py]
  refine ⟨oks_map _ str_ok zs, oks_map _ str_ok zs, ?_, ?_, ?_⟩
  · show SeqAt.shaped (wx zs).py = true
    rw [e]; exact shp_wt h
  · show SeqAt.shaped (wx zs).py = true
    rw [e]; exact shp_wt h
  · show P (PyData.eqv (wx zs).py (wx zs).py)
    rw [e, eqv_wt h]; exact p
theorem eqW_ks {hs : List Hol} (h : ∀ q ∈ hs, Nms q.2) {P : Bool → Prop} (p : P true) : EqW (wKs hs) (wKs hs) P := by
  have lay : (wKs hs).py.canLay0 = true := by
    rw [W.py, pys_map, PyData.canLay0]
    exact lay_map _ _ fun q hq => lay_wt (h q hq)
  have s := shp_of lay (by
    rw [W.py, pys_map, PyData.depth]
    have := dep_map (fun q : Hol => (wt q.2).py) 1 hs fun q _ => dep_wt
    omega)
  exact ⟨oks_map _ (fun q : Hol => (ok_wt : (wt q.2).ok = true)) hs, oks_map _ (fun q : Hol => (ok_wt : (wt q.2).ok = true)) hs, s, s, by rw [show PyData.eqv (wKs hs).py (wKs hs).py = true from SeqAt.eqv_refl _ lay]; exact p⟩
abbrev fTableEq (CT : Addr) : DSpec := fun ws P => ∃ hs, ws = [wTab CT hs, wTab CT hs] ∧ (∀ h ∈ hs, IsNm h.1 ∧ Nms h.2) ∧ P (.bl true)
theorem sc_table_eq : FnScope ["self", "other"] ["self", "other"] (C8.fnScope (mth 52 9)) := C8.fnScope_by (by decide +kernel)
theorem ok_table_eq (G : MDef K CT "__eq__" "Table.__eq__" (mth 52 9)) (B : TbF K mg CT) (T : Txt K mg) : C8.Met P w K mg base 1 CT "__eq__" (spD (fTableEq CT)) [] := by
  have nd := sc_table_eq.nd
  refine met_D G sc_table_eq (fun _ _ _ _ _ _ us hl => match us, hl with | [_, _], _ => rfl) (fun ws P ⟨hs, e, _⟩ => by rw [e]; rfl) fun f cdv A outer s H E ex T' ws P' hr h => ?_
  obtain ⟨hs, rfl, hn, p⟩ := h
  refine wss_cons (ws_if (wt_not (x_val (by intro _; rfl) (we_isiOwn (by rfl) ‹Txt _ _› B.ic (by rfl) B.g ?_))))
  walk_at "n"
  refine ⟨_, rfl, ?_⟩
  repeat walk_at "k"
  refine eqW_wx (fun z hz => by obtain ⟨h, hh, rfl⟩ := List.mem_map.mp hz; exact (hn h hh).1) ?_
  repeat walk_at "k"
  refine eqW_ks (fun q hq => (hn q hq).2) ?_
  exact p
abbrev fTableRead (CT : Addr) : DSpec := fun ws P => ∃ hs U, ws = [.str (rowsT (hs.map hRow))] ∧ IsTab hs U ∧ P (wTab CT hs)
theorem sc_table_read : FnScope ["text"] ["text"] (C8.fnScope (mth 52 7)) := C8.fnScope_by (by decide +kernel)
theorem srt_self {hs : List Hol} {U : List Str} (h : IsTab hs U) : Srt hs hs := ⟨h.asc, fun _ => Iff.rfl, fun q hq => ⟨h.kas q hq, q, hq, rfl, fun _ => Iff.rfl⟩⟩
theorem ok_table_read (G : SDef K CT "read" "Table.read" (mth 52 7)) (T : Txt K mg) (c1 : C8.Cal P w K mg base 4 "read_holdings" (spD fReadHoldings) []) (c2 : C8.Mak P w K mg base 4 "Table" CT (spI CT fTableInit) []) : SMet P w K mg base 6 CT "read" ["text"] (spD (fTableRead CT)) := by
  have nd := sc_table_read.nd
  refine sm_D G sc_table_read (fun _ _ _ _ _ _ us hl => match us, hl with | [_], _ => rfl) (fun _ _ _ _ _ _ us hl => match us, hl with | [_], _ => rfl) (fun ws P ⟨hs, U, e, _⟩ => by rw [e]; rfl) fun f cdv A outer s H E ex T' ws P' hr h => ?_
  obtain ⟨hs, U, rfl, hm, p⟩ := h
  refine wss_cons (ws_ret (we_mk c2 ‹Room _ _› (by decide) rfl (wa_cons (we_c c1 ‹Room _ _› (by decide) rfl (wa_cons ?_)))))
  walk_at "n"
  refine wa_nil ⟨hs, U, rfl, hm, wa_nil ?_⟩
  exact ⟨fun f => f = tabFs hs, ⟨hs, hs, U, wWord, rfl, .inr rfl, hm.toIsHols, srt_self hm, rfl⟩, fun _ e => by rw [e]; exact p⟩
end
end K11
/-! PE1 -/
namespace K11
open PySem PySem.Spec PyProof.Rows L2
local macro_rules | `(tactic| walk_at "n") => `(tactic| first
  | refine we_name 0 rfl (by first | exact .inl rfl | exact .inr (.inl rfl) | exact .inr (.inr rfl)) rfl ?_
  | refine we_name 1 rfl (by first | exact .inl rfl | exact .inr (.inl rfl) | exact .inr (.inr rfl)) rfl ?_
  | refine we_name 2 rfl (by first | exact .inl rfl | exact .inr (.inl rfl) | exact .inr (.inr rfl)) rfl ?_
  | refine we_name 3 rfl (by first | exact .inl rfl | exact .inr (.inl rfl) | exact .inr (.inr rfl)) rfl ?_
  | refine we_name 4 rfl (by first | exact .inl rfl | exact .inr (.inl rfl) | exact .inr (.inr rfl)) rfl ?_
  | refine we_name 5 rfl (by first | exact .inl rfl | exact .inr (.inl rfl) | exact .inr (.inr rfl)) rfl ?_
  | refine we_name 6 rfl (by first | exact .inl rfl | exact .inr (.inl rfl) | exact .inr (.inr rfl)) rfl ?_
  | refine we_name 7 rfl (by first | exact .inl rfl | exact .inr (.inl rfl) | exact .inr (.inr rfl)) rfl ?_
  | refine we_name 8 rfl (by first | exact .inl rfl | exact .inr (.inl rfl) | exact .inr (.inr rfl)) rfl ?_
  | refine we_name 9 rfl (by first | exact .inl rfl | exact .inr (.inl rfl) | exact .inr (.inr rfl)) rfl ?_
  | refine we_name 10 rfl (by first | exact .inl rfl | exact .inr (.inl rfl) | exact .inr (.inr rfl)) rfl ?_
  | refine we_name 11 rfl (by first | exact .inl rfl | exact .inr (.inl rfl) | exact .inr (.inr rfl)) rfl ?_
  | refine we_name 12 rfl (by first | exact .inl rfl | exact .inr (.inl rfl) | exact .inr (.inr rfl)) rfl ?_
  | refine we_name 13 rfl (by first | exact .inl rfl | exact .inr (.inl rfl) | exact .inr (.inr rfl)) rfl ?_
  | refine we_gint rfl (Txt.mLetters ‹_›) ?_
  | refine we_gstr rfl (Txt.letters ‹_›) ?_
  | refine we_gint rfl (Tx2.mFB ‹_›) ?_
  | refine we_gint rfl (Tx2.mW ‹_›) ?_
  | refine we_gint rfl (Tx2.mF ‹_›) ?_
  | refine we_gint rfl (Tx2.mFT ‹_›) ?_
  | refine we_gint rfl (Tx2.mK ‹_›) ?_)
local macro_rules | `(tactic| walk_at "cmp") => `(tactic| first
  | refine xt_eq ‹Room _ _› ?_
  | refine xt_ne ‹Room _ _› ?_
  | refine xt_lt ?_
  | refine xt_le ?_
  | refine xt_gt ?_
  | refine xt_ge ?_
  | refine wt_isN ?_
  | refine xt_in rfl ?_
  | refine xt_nin rfl ?_
  | refine x_chain (by with_unfolding_all rfl) ?_)
local macro_rules | `(tactic| walk_at "ecmp") => `(tactic| first
  | refine xe_eq ‹Room _ _› ?_
  | refine xe_ne ‹Room _ _› ?_
  | refine xe_lt ?_
  | refine xe_le ?_
  | refine xe_gt ?_
  | refine xe_ge ?_
  | refine we_isN ?_
  | refine xe_in rfl ?_
  | refine xe_nin rfl ?_)
local macro_rules | `(tactic| walk_at "t") => `(tactic| first
  | (show WT _ _ (.Compare _ _ _ _) _; walk_at "cmp")
  | refine wt_or ?_
  | refine wt_and ?_
  | refine wt_not ?_
  | refine x_val (by intro _; rfl) ?_)
local macro_rules | `(tactic| walk_at "b") => `(tactic| first
  | refine x_lenSet ‹Txt _ _› rfl rfl rfl rfl rfl ?_
  | refine xe_len ‹Txt _ _› rfl rfl ?_
  | refine x_isi_str ‹Txt _ _› rfl rfl rfl rfl ?_
  | refine x_isi_tup ‹Txt _ _› rfl rfl rfl rfl ?_
  | refine x_isi_lst ‹Txt _ _› rfl rfl rfl rfl ?_
  | refine x_isi_bool ‹Txt _ _› rfl rfl rfl rfl ?_
  | refine x_isi_int ‹Txt _ _› rfl rfl rfl rfl ?_
  | refine x_isi_lt ‹Txt _ _› rfl rfl rfl rfl rfl ?_
  | refine x_all ‹Txt _ _› rfl rfl rfl ?_
  | refine x_tuple ‹Txt _ _› rfl rfl ?_
  | refine x_list ‹Txt _ _› rfl rfl ?_
  | refine x_sorted ‹Txt _ _› rfl rfl ?_
  | refine x_str ‹Txt _ _› rfl rfl ?_
  | refine x_int ‹Txt _ _› rfl rfl ?_
  | refine x_min ‹Txt _ _› rfl rfl rfl rfl rfl ?_)
local macro_rules | `(tactic| walk_at "e") => `(tactic| first
  | (show WE _ _ (.Name _ _) _; walk_at "n")
  | (show WE _ _ (.Constant _ _ _) _; first | refine we_int ?_ | refine we_str ?_ | refine we_bl ?_ | refine we_non ?_)
  | (show WE _ _ (.Call (.Name _ _) _ _ _) _; walk_at "b")
  | (show WE _ _ (.Compare _ _ _ _) _; walk_at "ecmp")
  | (show WE _ _ (.Subscript _ _ _) _; first | refine xe_sl ?_ | refine xe_ix (fun _ _ => rfl) ?_)
  | (show WE _ _ (.BinOp _ _ _ _) _; first | refine xe_add ?_ | refine xe_sub ?_ | refine xe_mul ?_ | refine xe_mod ?_ | refine xe_fdiv ?_)
  | (show WE _ _ (.Call (.Attribute _ _ _) _ _ _) _; first | refine x_split rfl rfl rfl ?_ | refine x_join rfl rfl rfl ?_)
  | (show WE _ _ (.Attribute _ _ _) _; refine we_fld ?_ rfl)
  | refine we_lst (k := 0) ?_
  | refine we_tup (k := _) ?_
  | refine we_if ?_
  | refine x_and ?_
  | refine x_or ?_
  | refine we_one ?_
  | refine x_not ?_
  | refine x_fstr2 ?_
  | refine we_neg ?_)
local macro_rules | `(tactic| walk_at "ss") => `(tactic| first
  | refine vs_set 0 ‹List.Nodup _› rfl (by first | exact .inl rfl | exact .inr rfl) (by first | exact .inl rfl | exact .inr rfl) rfl ?_
  | refine vs_set 1 ‹List.Nodup _› rfl (by first | exact .inl rfl | exact .inr rfl) (by first | exact .inl rfl | exact .inr rfl) rfl ?_
  | refine vs_set 2 ‹List.Nodup _› rfl (by first | exact .inl rfl | exact .inr rfl) (by first | exact .inl rfl | exact .inr rfl) rfl ?_
  | refine vs_set 3 ‹List.Nodup _› rfl (by first | exact .inl rfl | exact .inr rfl) (by first | exact .inl rfl | exact .inr rfl) rfl ?_
  | refine vs_set 4 ‹List.Nodup _› rfl (by first | exact .inl rfl | exact .inr rfl) (by first | exact .inl rfl | exact .inr rfl) rfl ?_
  | refine vs_set 5 ‹List.Nodup _› rfl (by first | exact .inl rfl | exact .inr rfl) (by first | exact .inl rfl | exact .inr rfl) rfl ?_
  | refine vs_set 6 ‹List.Nodup _› rfl (by first | exact .inl rfl | exact .inr rfl) (by first | exact .inl rfl | exact .inr rfl) rfl ?_
  | refine vs_set 7 ‹List.Nodup _› rfl (by first | exact .inl rfl | exact .inr rfl) (by first | exact .inl rfl | exact .inr rfl) rfl ?_
  | refine vs_set 8 ‹List.Nodup _› rfl (by first | exact .inl rfl | exact .inr rfl) (by first | exact .inl rfl | exact .inr rfl) rfl ?_
  | refine vs_set 9 ‹List.Nodup _› rfl (by first | exact .inl rfl | exact .inr rfl) (by first | exact .inl rfl | exact .inr rfl) rfl ?_
  | refine vs_set 10 ‹List.Nodup _› rfl (by first | exact .inl rfl | exact .inr rfl) (by first | exact .inl rfl | exact .inr rfl) rfl ?_
  | refine vs_set 11 ‹List.Nodup _› rfl (by first | exact .inl rfl | exact .inr rfl) (by first | exact .inl rfl | exact .inr rfl) rfl ?_)
local macro_rules | `(tactic| walk_at "nl") => `(tactic| first
  | refine vs_newlst 0 ‹List.Nodup _› rfl (by first | exact .inl rfl | exact .inr rfl) (by first | exact .inl rfl | exact .inr rfl) fun _ => ?_
  | refine vs_newlst 1 ‹List.Nodup _› rfl (by first | exact .inl rfl | exact .inr rfl) (by first | exact .inl rfl | exact .inr rfl) fun _ => ?_
  | refine vs_newlst 2 ‹List.Nodup _› rfl (by first | exact .inl rfl | exact .inr rfl) (by first | exact .inl rfl | exact .inr rfl) fun _ => ?_
  | refine vs_newlst 3 ‹List.Nodup _› rfl (by first | exact .inl rfl | exact .inr rfl) (by first | exact .inl rfl | exact .inr rfl) fun _ => ?_
  | refine vs_newlst 4 ‹List.Nodup _› rfl (by first | exact .inl rfl | exact .inr rfl) (by first | exact .inl rfl | exact .inr rfl) fun _ => ?_
  | refine vs_newlst 5 ‹List.Nodup _› rfl (by first | exact .inl rfl | exact .inr rfl) (by first | exact .inl rfl | exact .inr rfl) fun _ => ?_
  | refine vs_newlst 6 ‹List.Nodup _› rfl (by first | exact .inl rfl | exact .inr rfl) (by first | exact .inl rfl | exact .inr rfl) fun _ => ?_
  | refine vs_newlst 7 ‹List.Nodup _› rfl (by first | exact .inl rfl | exact .inr rfl) (by first | exact .inl rfl | exact .inr rfl) fun _ => ?_
  | refine vs_newlst 8 ‹List.Nodup _› rfl (by first | exact .inl rfl | exact .inr rfl) (by first | exact .inl rfl | exact .inr rfl) fun _ => ?_
  | refine vs_newlst 9 ‹List.Nodup _› rfl (by first | exact .inl rfl | exact .inr rfl) (by first | exact .inl rfl | exact .inr rfl) fun _ => ?_
  | refine vs_newlst 10 ‹List.Nodup _› rfl (by first | exact .inl rfl | exact .inr rfl) (by first | exact .inl rfl | exact .inr rfl) fun _ => ?_
  | refine vs_newlst 11 ‹List.Nodup _› rfl (by first | exact .inl rfl | exact .inr rfl) (by first | exact .inl rfl | exact .inr rfl) fun _ => ?_)
local macro_rules | `(tactic| walk_at "gn") => `(tactic| first
  | refine vg_name 0 ‹List.Nodup _› rfl (by first | exact .inl rfl | exact .inr rfl) (by first | exact .inl rfl | exact .inr rfl) (by decide) ?_
  | refine vg_name 1 ‹List.Nodup _› rfl (by first | exact .inl rfl | exact .inr rfl) (by first | exact .inl rfl | exact .inr rfl) (by decide) ?_
  | refine vg_name 2 ‹List.Nodup _› rfl (by first | exact .inl rfl | exact .inr rfl) (by first | exact .inl rfl | exact .inr rfl) (by decide) ?_
  | refine vg_name 3 ‹List.Nodup _› rfl (by first | exact .inl rfl | exact .inr rfl) (by first | exact .inl rfl | exact .inr rfl) (by decide) ?_
  | refine vg_name 4 ‹List.Nodup _› rfl (by first | exact .inl rfl | exact .inr rfl) (by first | exact .inl rfl | exact .inr rfl) (by decide) ?_
  | refine vg_name 5 ‹List.Nodup _› rfl (by first | exact .inl rfl | exact .inr rfl) (by first | exact .inl rfl | exact .inr rfl) (by decide) ?_
  | refine vg_name 6 ‹List.Nodup _› rfl (by first | exact .inl rfl | exact .inr rfl) (by first | exact .inl rfl | exact .inr rfl) (by decide) ?_
  | refine vg_name 7 ‹List.Nodup _› rfl (by first | exact .inl rfl | exact .inr rfl) (by first | exact .inl rfl | exact .inr rfl) (by decide) ?_
  | refine vg_name 8 ‹List.Nodup _› rfl (by first | exact .inl rfl | exact .inr rfl) (by first | exact .inl rfl | exact .inr rfl) (by decide) ?_
  | refine vg_name 9 ‹List.Nodup _› rfl (by first | exact .inl rfl | exact .inr rfl) (by first | exact .inl rfl | exact .inr rfl) (by decide) ?_
  | refine vg_name 10 ‹List.Nodup _› rfl (by first | exact .inl rfl | exact .inr rfl) (by first | exact .inl rfl | exact .inr rfl) (by decide) ?_
  | refine vg_name 11 ‹List.Nodup _› rfl (by first | exact .inl rfl | exact .inr rfl) (by first | exact .inl rfl | exact .inr rfl) (by decide) ?_)
local macro_rules | `(tactic| walk_at "k") => `(tactic| first
  | (with_reducible show IntW _ _; refine int_i ?_)
  | (with_reducible show StrW _ _; refine str_i ?_)
  | (with_reducible show LstW _ _; refine lst_i ?_)
  | (with_reducible show TupW _ _; refine tup_i ?_)
  | (with_reducible show BlW _ _; refine bl_i ?_)
  | (with_reducible show SeqW _ _; first | refine seqL_i ?_ | refine seqT_i ?_)
  | (with_reducible show LenW _ _; first | refine lenL_i ?_ | refine lenT_i ?_)
  | (with_reducible show IxW _ _ _; first | refine ixL_i 0 rfl rfl ?_ | refine ixL_i 1 rfl rfl ?_ | refine ixL_i 2 rfl rfl ?_ | refine ixT_i 0 rfl rfl ?_ | refine ixT_i 1 rfl rfl ?_)
  | (with_reducible show SlW _ _ _ _; first | refine slL_from 1 rfl ?_ | refine slL_from 2 rfl ?_ | refine slT_from 1 rfl ?_)
  | (show WE _ _ _ _; walk_at "e")
  | (show WT _ _ _ _; walk_at "t")
  | (show WSs _ _ _ _ _; first | refine wss_cons ?_ | refine wss_nil ?_)
  | (show WS _ _ _ _ _; first | refine ws_if ?_ | refine ws_ret ?_ | refine ws_retN ?_ | (show WS _ _ (.Assign [.Name _ _] (.List [] _) _) _ _; walk_at "nl") | (show WS _ _ (.Assign [.Name _ _] _ _) _ _; walk_at "ss"))
  | (show WG _ _ _ _ _ _; first | refine xg_tup rfl rfl rfl ?_ | walk_at "gn")
  | (show WGs _ _ _ _ _ _; first | refine vgs_cons rfl ?_ | refine vgs_nil ?_)
  | (show WAs _ _ _ _; first | refine wa_nil ?_ | refine wa_star ?_ | refine wa_cons ?_)
  | (show WTw _ _ _ _; first | refine ww_or ?_ | refine ww_and ?_ | refine ww_or1 ?_ | refine ww_and1 ?_)
  | (show WO _ _ _ _; first | refine wo_none ?_ | refine wo_int ?_)
  | refine fam_i fun _ _ _ _ _ => ?_
  | refine iteT ?_
  | refine iteF ?_
  | refine ⟨rfl, ?_⟩
  | refine ⟨_, rfl, ?_⟩
  | refine ⟨lit_line rfl, ?_⟩
  | refine ⟨_, .inl rfl, ?_⟩
  | refine ⟨_, .inr rfl, ?_⟩
  | walk_at "x")
/-! ### the law's state: its rules for the step tactic -/
local macro_rules | `(tactic| walk_at "e") => `(tactic| (show WE _ _ (.Subscript (.Name _ _) (.Constant _ _ _) _) _; refine we_st 0 rfl (.inl rfl) rfl rfl (by decide) fun _ _ => ?_))
local macro_rules | `(tactic| walk_at "x") => `(tactic| first
  | (show WS _ _ (.Assign [.Subscript _ _ _] _ _) _ _; refine ws_st 0 rfl (.inl rfl) rfl rfl (by decide) ?_) | refine x_abs ‹Txt _ _› rfl rfl ?_ | refine xe_pow ?_)
section
variable {P : Program} {w : World} {K : PySem.W.Frag} {mg : Str → Option Value} {base : Heap}
/-- a number below n -/
abbrev fDraw : DSpec := fun ws P => ∃ n : Int, ws = [.int n] ∧ 0 < n ∧ n < 1073741824 ∧ ∀ k : Nat, (k : Int) < n → P (.int k)
theorem sc_law_draw : FnScope ["_law_state", "_law_many", "_law_cell", "_law_digit", "_law_base"] ["_law_state", "_law_many"] (C8.fnScope (top 55)) := C8.fnScope_by (by decide +kernel)
theorem mod_nat {i n : Int} (h : 0 < n) : ∃ k : Nat, (k : Int) < n ∧ i % n = k := ⟨(i % n).toNat, by rw [Int.toNat_of_nonneg (Int.emod_nonneg _ (by omega))]; exact Int.emod_lt_of_pos _ h, by rw [Int.toNat_of_nonneg (Int.emod_nonneg _ (by omega))]⟩
theorem ok_law_draw (G : GDef K mg "_law_draw" (top 55)) (T : Txt K mg) : C8.Cal P w K mg base 1 "_law_draw" (spS fDraw) [] := by
  have nd := sc_law_draw.nd
  refine cal_S G sc_law_draw (fun _ _ _ _ _ _ us hl => match us, hl with | [_, _], _ => rfl) (fun ws P ⟨n, e, _⟩ => by rw [e]; rfl) (by simp) fun f cdv A outer s H E st' ex T' ws P' hr h => ?_
  obtain ⟨n, rfl, hn, hn2, p⟩ := h
  have fin : ∀ i : Int, P' (.int (i % n)) := fun i => by
    obtain ⟨k, h1, h2⟩ := mod_nat (i := i) hn
    rw [h2]
    exact p k h1
  have tail : ∀ r2 : Option Th, WSs (bx P w K mg base ["_law_state", "_law_many", "_law_cell", "_law_digit", "_law_base"] "_law_draw" (top 55) f cdv A outer s H E) ⟨[some (.adr st'.1), some (.dat (.int n)), r2, none, none], [], some st', ex, T'⟩ ((C8.fnBody (top 55)).drop 1) (fun _ => P' .non) P' := fun r2 => by
    repeat walk_at "k"
    rename_i i _
    by_cases h0 : 0 < i
    · refine ifD h0 ?_
      repeat walk_at "k"
      refine ⟨hn, ?_⟩
      repeat walk_at "k"
      refine ⟨⟨hn, hn2⟩, _, rfl, (fun z => by cases z), ?_⟩
      repeat walk_at "k"
      exact fin _
    · refine ifDn h0 ?_
      repeat walk_at "k"
      refine ⟨(fun z => by cases z), ?_⟩
      repeat walk_at "k"
      refine ⟨.inr ⟨by decide, by decide⟩, ?_⟩
      repeat walk_at "k"
      refine ⟨by decide, ?_⟩
      repeat walk_at "k"
      rename_i a _ b _
      have hb := Int.emod_nonneg (a + b * 7919) (b := 2147483563) (by decide)
      have hb2 := Int.emod_lt_of_pos (a + b * 7919) (b := 2147483563) (by decide)
      refine ⟨_, _, rfl, rfl, ⟨by decide, by decide, by omega⟩, ?_⟩
      repeat walk_at "k"
      refine ⟨.inl ⟨by decide, by decide⟩, ?_⟩
      repeat walk_at "k"
      refine ⟨by decide, _, rfl, (fun z => by cases z), ?_⟩
      repeat walk_at "k"
      refine ⟨⟨by decide, by decide⟩, ?_⟩
      repeat walk_at "k"
      refine ⟨by decide, ?_⟩
      repeat walk_at "k"
      refine ⟨.inr ⟨by decide, by decide⟩, ?_⟩
      repeat walk_at "k"
      refine ⟨hn, ?_⟩
      exact fin _
  refine wss_cons (ws_cell 0 2 ‹Txt _ _› rfl nd rfl (.inl rfl) rfl (.inl rfl) (.inl rfl) rfl (by decide) rfl ?_ (tail none) fun z => ?_)
  · repeat walk_at "k"
    trivial
  · repeat walk_at "k"
    rename_i i1 h1
    refine ⟨fun _ => by have := h1 rfl; omega, ?_⟩
    repeat walk_at "k"
    intro b
    repeat walk_at "k"
    refine ⟨_, _, rfl, rfl, ⟨by decide, by decide, by decide⟩, ?_⟩
    by_cases hb : (10 : Int) ^ (18 : Int).toNat ≤ b
    · refine ifD hb ?_
      repeat walk_at "k"
      intro b2
      refine ⟨_, rfl, (fun z => by cases z), ?_⟩
      exact wss_nil (wss_nil (tail _))
    · refine ifDn hb ?_
      exact wss_nil (wss_nil (tail _))
end
end K11
/-! PE2 -/
namespace K11
open PySem PySem.Spec PyProof.Rows L2
local macro_rules | `(tactic| walk_at "n") => `(tactic| first
  | refine we_name 0 rfl (by first | exact .inl rfl | exact .inr (.inl rfl) | exact .inr (.inr rfl)) rfl ?_
  | refine we_name 1 rfl (by first | exact .inl rfl | exact .inr (.inl rfl) | exact .inr (.inr rfl)) rfl ?_
  | refine we_name 2 rfl (by first | exact .inl rfl | exact .inr (.inl rfl) | exact .inr (.inr rfl)) rfl ?_
  | refine we_name 3 rfl (by first | exact .inl rfl | exact .inr (.inl rfl) | exact .inr (.inr rfl)) rfl ?_
  | refine we_name 4 rfl (by first | exact .inl rfl | exact .inr (.inl rfl) | exact .inr (.inr rfl)) rfl ?_
  | refine we_name 5 rfl (by first | exact .inl rfl | exact .inr (.inl rfl) | exact .inr (.inr rfl)) rfl ?_
  | refine we_name 6 rfl (by first | exact .inl rfl | exact .inr (.inl rfl) | exact .inr (.inr rfl)) rfl ?_
  | refine we_name 7 rfl (by first | exact .inl rfl | exact .inr (.inl rfl) | exact .inr (.inr rfl)) rfl ?_
  | refine we_name 8 rfl (by first | exact .inl rfl | exact .inr (.inl rfl) | exact .inr (.inr rfl)) rfl ?_
  | refine we_name 9 rfl (by first | exact .inl rfl | exact .inr (.inl rfl) | exact .inr (.inr rfl)) rfl ?_
  | refine we_name 10 rfl (by first | exact .inl rfl | exact .inr (.inl rfl) | exact .inr (.inr rfl)) rfl ?_
  | refine we_name 11 rfl (by first | exact .inl rfl | exact .inr (.inl rfl) | exact .inr (.inr rfl)) rfl ?_
  | refine we_name 12 rfl (by first | exact .inl rfl | exact .inr (.inl rfl) | exact .inr (.inr rfl)) rfl ?_
  | refine we_name 13 rfl (by first | exact .inl rfl | exact .inr (.inl rfl) | exact .inr (.inr rfl)) rfl ?_
  | refine we_gint rfl (Txt.mLetters ‹_›) ?_
  | refine we_gstr rfl (Txt.letters ‹_›) ?_
  | refine we_gint rfl (Tx2.mFB ‹_›) ?_
  | refine we_gint rfl (Tx2.mW ‹_›) ?_
  | refine we_gint rfl (Tx2.mF ‹_›) ?_
  | refine we_gint rfl (Tx2.mFT ‹_›) ?_
  | refine we_gint rfl (Tx2.mK ‹_›) ?_)
local macro_rules | `(tactic| walk_at "cmp") => `(tactic| first
  | refine xt_eq ‹Room _ _› ?_
  | refine xt_ne ‹Room _ _› ?_
  | refine xt_lt ?_
  | refine xt_le ?_
  | refine xt_gt ?_
  | refine xt_ge ?_
  | refine wt_isN ?_
  | refine xt_in rfl ?_
  | refine xt_nin rfl ?_
  | refine x_chain (by with_unfolding_all rfl) ?_)
local macro_rules | `(tactic| walk_at "ecmp") => `(tactic| first
  | refine xe_eq ‹Room _ _› ?_
  | refine xe_ne ‹Room _ _› ?_
  | refine xe_lt ?_
  | refine xe_le ?_
  | refine xe_gt ?_
  | refine xe_ge ?_
  | refine we_isN ?_
  | refine xe_in rfl ?_
  | refine xe_nin rfl ?_)
local macro_rules | `(tactic| walk_at "t") => `(tactic| first
  | (show WT _ _ (.Compare _ _ _ _) _; walk_at "cmp")
  | refine wt_or ?_
  | refine wt_and ?_
  | refine wt_not ?_
  | refine x_val (by intro _; rfl) ?_)
local macro_rules | `(tactic| walk_at "b") => `(tactic| first
  | refine x_lenSet ‹Txt _ _› rfl rfl rfl rfl rfl ?_
  | refine xe_len ‹Txt _ _› rfl rfl ?_
  | refine x_isi_str ‹Txt _ _› rfl rfl rfl rfl ?_
  | refine x_isi_tup ‹Txt _ _› rfl rfl rfl rfl ?_
  | refine x_isi_lst ‹Txt _ _› rfl rfl rfl rfl ?_
  | refine x_isi_bool ‹Txt _ _› rfl rfl rfl rfl ?_
  | refine x_isi_int ‹Txt _ _› rfl rfl rfl rfl ?_
  | refine x_isi_lt ‹Txt _ _› rfl rfl rfl rfl rfl ?_
  | refine x_all ‹Txt _ _› rfl rfl rfl ?_
  | refine x_tuple ‹Txt _ _› rfl rfl ?_
  | refine x_list ‹Txt _ _› rfl rfl ?_
  | refine x_sorted ‹Txt _ _› rfl rfl ?_
  | refine x_str ‹Txt _ _› rfl rfl ?_
  | refine x_int ‹Txt _ _› rfl rfl ?_
  | refine x_min ‹Txt _ _› rfl rfl rfl rfl rfl ?_)
local macro_rules | `(tactic| walk_at "e") => `(tactic| first
  | (show WE _ _ (.Name _ _) _; walk_at "n")
  | (show WE _ _ (.Constant _ _ _) _; first | refine we_int ?_ | refine we_str ?_ | refine we_bl ?_ | refine we_non ?_)
  | (show WE _ _ (.Call (.Name _ _) _ _ _) _; walk_at "b")
  | (show WE _ _ (.Compare _ _ _ _) _; walk_at "ecmp")
  | (show WE _ _ (.Subscript _ _ _) _; first | refine xe_sl ?_ | refine xe_ix (fun _ _ => rfl) ?_)
  | (show WE _ _ (.BinOp _ _ _ _) _; first | refine xe_add ?_ | refine xe_sub ?_ | refine xe_mul ?_ | refine xe_mod ?_ | refine xe_fdiv ?_)
  | (show WE _ _ (.Call (.Attribute _ _ _) _ _ _) _; first | refine x_split rfl rfl rfl ?_ | refine x_join rfl rfl rfl ?_)
  | (show WE _ _ (.Attribute _ _ _) _; refine we_fld ?_ rfl)
  | refine we_lst (k := 0) ?_
  | refine we_tup (k := _) ?_
  | refine we_if ?_
  | refine x_and ?_
  | refine x_or ?_
  | refine we_one ?_
  | refine x_not ?_
  | refine x_fstr2 ?_
  | refine we_neg ?_)
local macro_rules | `(tactic| walk_at "ss") => `(tactic| first
  | refine vs_set 0 ‹List.Nodup _› rfl (by first | exact .inl rfl | exact .inr rfl) (by first | exact .inl rfl | exact .inr rfl) rfl ?_
  | refine vs_set 1 ‹List.Nodup _› rfl (by first | exact .inl rfl | exact .inr rfl) (by first | exact .inl rfl | exact .inr rfl) rfl ?_
  | refine vs_set 2 ‹List.Nodup _› rfl (by first | exact .inl rfl | exact .inr rfl) (by first | exact .inl rfl | exact .inr rfl) rfl ?_
  | refine vs_set 3 ‹List.Nodup _› rfl (by first | exact .inl rfl | exact .inr rfl) (by first | exact .inl rfl | exact .inr rfl) rfl ?_
  | refine vs_set 4 ‹List.Nodup _› rfl (by first | exact .inl rfl | exact .inr rfl) (by first | exact .inl rfl | exact .inr rfl) rfl ?_
  | refine vs_set 5 ‹List.Nodup _› rfl (by first | exact .inl rfl | exact .inr rfl) (by first | exact .inl rfl | exact .inr rfl) rfl ?_
  | refine vs_set 6 ‹List.Nodup _› rfl (by first | exact .inl rfl | exact .inr rfl) (by first | exact .inl rfl | exact .inr rfl) rfl ?_
  | refine vs_set 7 ‹List.Nodup _› rfl (by first | exact .inl rfl | exact .inr rfl) (by first | exact .inl rfl | exact .inr rfl) rfl ?_
  | refine vs_set 8 ‹List.Nodup _› rfl (by first | exact .inl rfl | exact .inr rfl) (by first | exact .inl rfl | exact .inr rfl) rfl ?_
  | refine vs_set 9 ‹List.Nodup _› rfl (by first | exact .inl rfl | exact .inr rfl) (by first | exact .inl rfl | exact .inr rfl) rfl ?_
  | refine vs_set 10 ‹List.Nodup _› rfl (by first | exact .inl rfl | exact .inr rfl) (by first | exact .inl rfl | exact .inr rfl) rfl ?_
  | refine vs_set 11 ‹List.Nodup _› rfl (by first | exact .inl rfl | exact .inr rfl) (by first | exact .inl rfl | exact .inr rfl) rfl ?_)
local macro_rules | `(tactic| walk_at "nl") => `(tactic| first
  | refine vs_newlst 0 ‹List.Nodup _› rfl (by first | exact .inl rfl | exact .inr rfl) (by first | exact .inl rfl | exact .inr rfl) fun _ => ?_
  | refine vs_newlst 1 ‹List.Nodup _› rfl (by first | exact .inl rfl | exact .inr rfl) (by first | exact .inl rfl | exact .inr rfl) fun _ => ?_
  | refine vs_newlst 2 ‹List.Nodup _› rfl (by first | exact .inl rfl | exact .inr rfl) (by first | exact .inl rfl | exact .inr rfl) fun _ => ?_
  | refine vs_newlst 3 ‹List.Nodup _› rfl (by first | exact .inl rfl | exact .inr rfl) (by first | exact .inl rfl | exact .inr rfl) fun _ => ?_
  | refine vs_newlst 4 ‹List.Nodup _› rfl (by first | exact .inl rfl | exact .inr rfl) (by first | exact .inl rfl | exact .inr rfl) fun _ => ?_
  | refine vs_newlst 5 ‹List.Nodup _› rfl (by first | exact .inl rfl | exact .inr rfl) (by first | exact .inl rfl | exact .inr rfl) fun _ => ?_
  | refine vs_newlst 6 ‹List.Nodup _› rfl (by first | exact .inl rfl | exact .inr rfl) (by first | exact .inl rfl | exact .inr rfl) fun _ => ?_
  | refine vs_newlst 7 ‹List.Nodup _› rfl (by first | exact .inl rfl | exact .inr rfl) (by first | exact .inl rfl | exact .inr rfl) fun _ => ?_
  | refine vs_newlst 8 ‹List.Nodup _› rfl (by first | exact .inl rfl | exact .inr rfl) (by first | exact .inl rfl | exact .inr rfl) fun _ => ?_
  | refine vs_newlst 9 ‹List.Nodup _› rfl (by first | exact .inl rfl | exact .inr rfl) (by first | exact .inl rfl | exact .inr rfl) fun _ => ?_
  | refine vs_newlst 10 ‹List.Nodup _› rfl (by first | exact .inl rfl | exact .inr rfl) (by first | exact .inl rfl | exact .inr rfl) fun _ => ?_
  | refine vs_newlst 11 ‹List.Nodup _› rfl (by first | exact .inl rfl | exact .inr rfl) (by first | exact .inl rfl | exact .inr rfl) fun _ => ?_)
local macro_rules | `(tactic| walk_at "gn") => `(tactic| first
  | refine vg_name 0 ‹List.Nodup _› rfl (by first | exact .inl rfl | exact .inr rfl) (by first | exact .inl rfl | exact .inr rfl) (by decide) ?_
  | refine vg_name 1 ‹List.Nodup _› rfl (by first | exact .inl rfl | exact .inr rfl) (by first | exact .inl rfl | exact .inr rfl) (by decide) ?_
  | refine vg_name 2 ‹List.Nodup _› rfl (by first | exact .inl rfl | exact .inr rfl) (by first | exact .inl rfl | exact .inr rfl) (by decide) ?_
  | refine vg_name 3 ‹List.Nodup _› rfl (by first | exact .inl rfl | exact .inr rfl) (by first | exact .inl rfl | exact .inr rfl) (by decide) ?_
  | refine vg_name 4 ‹List.Nodup _› rfl (by first | exact .inl rfl | exact .inr rfl) (by first | exact .inl rfl | exact .inr rfl) (by decide) ?_
  | refine vg_name 5 ‹List.Nodup _› rfl (by first | exact .inl rfl | exact .inr rfl) (by first | exact .inl rfl | exact .inr rfl) (by decide) ?_
  | refine vg_name 6 ‹List.Nodup _› rfl (by first | exact .inl rfl | exact .inr rfl) (by first | exact .inl rfl | exact .inr rfl) (by decide) ?_
  | refine vg_name 7 ‹List.Nodup _› rfl (by first | exact .inl rfl | exact .inr rfl) (by first | exact .inl rfl | exact .inr rfl) (by decide) ?_
  | refine vg_name 8 ‹List.Nodup _› rfl (by first | exact .inl rfl | exact .inr rfl) (by first | exact .inl rfl | exact .inr rfl) (by decide) ?_
  | refine vg_name 9 ‹List.Nodup _› rfl (by first | exact .inl rfl | exact .inr rfl) (by first | exact .inl rfl | exact .inr rfl) (by decide) ?_
  | refine vg_name 10 ‹List.Nodup _› rfl (by first | exact .inl rfl | exact .inr rfl) (by first | exact .inl rfl | exact .inr rfl) (by decide) ?_
  | refine vg_name 11 ‹List.Nodup _› rfl (by first | exact .inl rfl | exact .inr rfl) (by first | exact .inl rfl | exact .inr rfl) (by decide) ?_)
local macro_rules | `(tactic| walk_at "k") => `(tactic| first
  | (with_reducible show IntW _ _; refine int_i ?_)
  | (with_reducible show StrW _ _; refine str_i ?_)
  | (with_reducible show LstW _ _; refine lst_i ?_)
  | (with_reducible show TupW _ _; refine tup_i ?_)
  | (with_reducible show BlW _ _; refine bl_i ?_)
  | (with_reducible show SeqW _ _; first | refine seqL_i ?_ | refine seqT_i ?_)
  | (with_reducible show LenW _ _; first | refine lenL_i ?_ | refine lenT_i ?_)
  | (with_reducible show IxW _ _ _; first | refine ixL_i 0 rfl rfl ?_ | refine ixL_i 1 rfl rfl ?_ | refine ixL_i 2 rfl rfl ?_ | refine ixT_i 0 rfl rfl ?_ | refine ixT_i 1 rfl rfl ?_)
  | (with_reducible show SlW _ _ _ _; first | refine slL_from 1 rfl ?_ | refine slL_from 2 rfl ?_ | refine slT_from 1 rfl ?_)
  | (show WE _ _ _ _; walk_at "e")
  | (show WT _ _ _ _; walk_at "t")
  | (show WSs _ _ _ _ _; first | refine wss_cons ?_ | refine wss_nil ?_)
  | (show WS _ _ _ _ _; first | refine ws_if ?_ | refine ws_ret ?_ | refine ws_retN ?_ | (show WS _ _ (.Assign [.Name _ _] (.List [] _) _) _ _; walk_at "nl") | (show WS _ _ (.Assign [.Name _ _] _ _) _ _; walk_at "ss"))
  | (show WG _ _ _ _ _ _; first | refine xg_tup rfl rfl rfl ?_ | walk_at "gn")
  | (show WGs _ _ _ _ _ _; first | refine vgs_cons rfl ?_ | refine vgs_nil ?_)
  | (show WAs _ _ _ _; first | refine wa_nil ?_ | refine wa_star ?_ | refine wa_cons ?_)
  | (show WTw _ _ _ _; first | refine ww_or ?_ | refine ww_and ?_ | refine ww_or1 ?_ | refine ww_and1 ?_)
  | (show WO _ _ _ _; first | refine wo_none ?_ | refine wo_int ?_)
  | refine fam_i fun _ _ _ _ _ => ?_
  | refine iteT ?_
  | refine iteF ?_
  | refine ⟨rfl, ?_⟩
  | refine ⟨_, rfl, ?_⟩
  | refine ⟨lit_line rfl, ?_⟩
  | refine ⟨_, .inl rfl, ?_⟩
  | refine ⟨_, .inr rfl, ?_⟩
  | walk_at "x")
local macro_rules | `(tactic| walk_at "e") => `(tactic| (show WE _ _ (.Subscript (.Name _ _) (.Constant _ _ _) _) _; refine we_st 0 rfl (.inl rfl) rfl rfl (by decide) fun _ _ => ?_))
local macro_rules | `(tactic| walk_at "x") => `(tactic| first
  | (show WS _ _ (.Assign [.Subscript _ _ _] _ _) _ _; refine ws_st 0 rfl (.inl rfl) rfl rfl (by decide) ?_) | refine x_abs ‹Txt _ _› rfl rfl ?_ | refine xe_pow ?_)
section
variable {P : Program} {w : World} {K : PySem.W.Frag} {mg : Str → Option Value} {base : Heap}
abbrev fPick : DSpec := fun ws P => ∃ ds : List W, ws = [.lst ds] ∧ ds ≠ [] ∧ ds.length ≤ 1000 ∧ ∀ d ∈ ds, P d
theorem sc_law_pick : FnScope ["_law_state", "_law_pool"] ["_law_state", "_law_pool"] (C8.fnScope (top 56)) := C8.fnScope_by (by decide +kernel)
theorem ok_law_pick (G : GDef K mg "_law_pick" (top 56)) (T : Txt K mg) (c1 : C8.Cal P w K mg base 1 "_law_draw" (spS fDraw) []) : C8.Cal P w K mg base 2 "_law_pick" (spS fPick) [] := by
  have nd := sc_law_pick.nd
  refine cal_S G sc_law_pick (fun _ _ _ _ _ _ us hl => match us, hl with | [_, _], _ => rfl) (fun ws P ⟨n, e, _⟩ => by rw [e]; rfl) (by simp) fun f cdv A outer s H E st' ex T' ws P' hr h => ?_
  obtain ⟨ds, rfl, hne, hl, p⟩ := h
  have h1 := List.length_pos_iff.mpr hne
  refine wss_cons (ws_ret (xe_ix (fun _ _ => rfl) ?_))
  walk_at "n"
  refine we_cs 0 c1 ‹Room _ _› (by decide) rfl rfl (.inl rfl) rfl rfl ?_
  repeat walk_at "k"
  refine ⟨by omega, by omega, fun k hk => ?_⟩
  refine ixL_i k rfl (List.getElem?_eq_getElem (by omega)) ?_
  exact p _ (List.getElem_mem _)
abbrev fShuffle : DSpec := fun ws P => ∃ ds : List W, ws = [.lst ds] ∧ ds.length ≤ 1000 ∧ ∀ es, es.Perm ds → P (.lst es)
theorem sc_law_shuffle : FnScope ["_law_state", "_law_pool", "_law_some", "_law_x"] ["_law_state", "_law_pool"] (C8.fnScope (top 57)) := C8.fnScope_by (by decide +kernel)
theorem ok_law_shuffle (G : GDef K mg "_law_shuffle" (top 57)) (T : Txt K mg) (c1 : C8.Cal P w K mg base 1 "_law_draw" (spS fDraw) []) : C8.Cal P w K mg base 2 "_law_shuffle" (spS fShuffle) [] := by
  have nd := sc_law_shuffle.nd
  refine cal_S G sc_law_shuffle (fun _ _ _ _ _ _ us hl => match us, hl with | [_, _], _ => rfl) (fun ws P ⟨n, e, _⟩ => by rw [e]; rfl) (by simp) fun f cdv A outer s H E st' ex T' ws P' hr h => ?_
  obtain ⟨ds, rfl, hl, p⟩ := h
  repeat walk_at "k"
  rename_i l
  refine ws_for [3] PassesOwn.never rfl (x_iterL ?_)
  repeat walk_at "k"
  refine ⟨fun i c1 => ∃ (r3 : Option Th) (es : List W), es.Perm (ds.take i) ∧ c1 = ⟨[some (.adr st'.1), some (.dat (.lst ds)), some (.adr l), r3], [(l, .lst es)], some st', ex, T'⟩, ⟨_, _, .refl _, rfl⟩, fun i c1' d hd ⟨r3, es, hp, e⟩ => ?_, fun c1' ⟨r3, es, hp, e⟩ => ?_⟩
  · subst e
    have hlen : es.length ≤ 1000 := by rw [hp.length_eq, List.length_take]; omega
    repeat walk_at "k"
    dsimp only
    refine ws_insert (c := ⟨_, _, _, _, _⟩) 2 rfl (.inl rfl) rfl (μ1 := []) (μ2 := []) rfl ?_ (fun a b d => ps_expr (pe_bm PySem.F.plainAttrs_list PySem.F.slot_list_insert PySem.F.type_list_insert mt_insert a (pa_cons b (pa_cons d pa_nil))))
    refine v_borrow 2 rfl (we_cs 0 c1 ‹Room _ _› (by decide) rfl rfl (.inl rfl) rfl rfl ?_)
    repeat walk_at "k"
    refine ⟨by omega, by omega, fun k hk => ?_⟩
    refine ⟨⟨_, rfl⟩, ?_⟩
    repeat walk_at "k"
    refine ⟨by omega, line6 (by omega), ?_⟩
    repeat walk_at "k"
    refine ⟨_, _, ?_, rfl⟩
    rw [List.take_add_one, hd]
    refine List.Perm.trans ?_ (hp.append_right [d])
    have e1 : es.take k ++ [d] ++ es.drop k = es.take k ++ d :: es.drop k := by rw [List.append_assoc]; rfl
    rw [e1]
    refine List.perm_middle.trans ?_
    rw [List.take_append_drop]
    exact (List.perm_append_singleton d es).symm
  · subst e
    rw [List.take_length] at hp
    refine v_freeze 2 rfl ?_
    repeat walk_at "k"
    exact p es hp
abbrev abcS : Str := "abcdefghijklmnopqrstuvwxyz"
abbrev fLetters : DSpec := fun ws P => ws = [] ∧ P (.str abcS)
theorem sc_law_letters : FnScope [] [] (C8.fnScope (top 58)) := C8.fnScope_by (by decide +kernel)
theorem ok_law_letters (G : GDef K mg "_law_letters" (top 58)) : C8.Cal P w K mg base 1 "_law_letters" (spD fLetters) [] := by
  have nd := sc_law_letters.nd
  refine cal_D G sc_law_letters (fun _ _ _ _ _ _ us hl => match us, hl with | [], _ => rfl) (fun ws P h => by rw [h.1]; rfl) fun f cdv A outer s H E ex T' ws P' hr h => ?_
  obtain ⟨rfl, p⟩ := h
  repeat walk_at "k"
  exact p
/-- a text of 1 to n letters -/
def IsNmN (n : Nat) (z : Str) : Prop := 1 ≤ z.length ∧ z.length ≤ n ∧ ∀ c ∈ z.cps.toList, 97 ≤ c ∧ c ≤ 122
abbrev fWordL : DSpec := fun ws P => ∃ n : Nat, ws = [.int n] ∧ 0 < n ∧ n ≤ 6 ∧ ∀ z, IsNmN n z → P (.str z)
theorem sc_law_word : FnScope ["_law_state", "_law_longest", "_law_k"] ["_law_state", "_law_longest"] (C8.fnScope (top 59)) := C8.fnScope_by (by decide +kernel)
theorem abc_get {k : Nat} (h : k < 26) : ∃ c, abcS.cps.toList[k]? = some c ∧ 97 ≤ c ∧ c ≤ 122 := by
  have : ∀ k : Fin 26, ∃ c, abcS.cps.toList[k.val]? = some c ∧ 97 ≤ c ∧ c ≤ 122 := by decide +kernel
  exact this ⟨k, h⟩
theorem letters_of : ∀ {acc : List W}, (∀ (i : Nat) y, acc[i]? = some y → ∃ c : Nat, y = .str ⟨#[c]⟩ ∧ 97 ≤ c ∧ c ≤ 122) → ∃ cs : List Nat, acc = (cs.map fun c => (⟨#[c]⟩ : Str)).map W.str ∧ cs.length = acc.length ∧ ∀ c ∈ cs, 97 ≤ c ∧ c ≤ 122
  | [], _ => ⟨[], rfl, rfl, fun _ h => (nomatch h)⟩
  | y :: acc, h => by
    obtain ⟨c, rfl, h1⟩ := h 0 _ rfl
    obtain ⟨cs, rfl, h2, h3⟩ := letters_of (acc := acc) fun i y e => h (i + 1) y e
    refine ⟨c :: cs, rfl, by rw [List.length_cons, h2]; rfl, fun d hd => ?_⟩
    rcases List.mem_cons.mp hd with rfl | hd
    · exact h1
    · exact h3 d hd
theorem joinL_singles : ∀ cs : List Nat, TL.joinL [] (cs.map fun c => [c]) = cs
  | [] => rfl
  | [c] => rfl
  | c :: d :: cs => by
    show [c] ++ ([] ++ TL.joinL [] ((d :: cs).map fun c => [c])) = c :: d :: cs
    rw [joinL_singles (d :: cs)]
    rfl
theorem join_letters (cs : List Nat) : TL.tl (Txt.join "" (cs.map fun c => (⟨#[c]⟩ : Str))) = cs := by
  rw [TL.join_eq, TL.tl_join, List.map_map]
  exact joinL_singles cs
theorem ok_law_word (G : GDef K mg "_law_word" (top 59)) (T : Txt K mg) (c1 : C8.Cal P w K mg base 1 "_law_draw" (spS fDraw) []) (c2 : C8.Cal P w K mg base 1 "_law_letters" (spD fLetters) []) : C8.Cal P w K mg base 2 "_law_word" (spS fWordL) [] := by
  have nd := sc_law_word.nd
  refine cal_S G sc_law_word (fun _ _ _ _ _ _ us hl => match us, hl with | [_, _], _ => rfl) (fun ws P ⟨n, e, _⟩ => by rw [e]; rfl) (by simp) fun f cdv A outer s H E st' ex T' ws P' hr h => ?_
  obtain ⟨n, rfl, h0, h6, p⟩ := h
  refine wss_cons (ws_ret (x_join rfl rfl rfl ?_))
  repeat walk_at "k"
  refine we_lc [("_law_k", 2)] rfl nd (blkOk_by (own := [("_law_k", 2)]) (N := ["_law_state", "_law_longest", "_law_k"]) (sc := C8.fnScope (top 59)) (by decide +kernel)) (wlc_A (x_range ‹Txt _ _› rfl rfl ?_))
  repeat walk_at "k"
  refine we_cs 0 c1 ‹Room _ _› (by decide) rfl rfl (by first | exact .inl rfl | exact .inr (.inl rfl) | exact .inr (.inr rfl)) rfl rfl ?_
  repeat walk_at "k"
  refine ⟨by omega, by omega, fun k hk => ?_⟩
  repeat walk_at "k"
  dsimp only
  repeat walk_at "k"
  have hn : ((1 : Int) + (k : Int)).toNat = 1 + k := by omega
  refine ⟨by omega, by omega, by rw [rangeW_len, hn]; exact line6 (by omega), fun _ y => ∃ c : Nat, y = .str ⟨#[c]⟩ ∧ 97 ≤ c ∧ c ≤ 122, fun i d hd Dd => ?_, fun acc hl ha => ?_⟩
  · obtain ⟨hi, rfl⟩ := rangeW_get hd
    refine fam_i fun _ _ _ _ _ => ?_
    walk_at "k"
    refine fam_i fun _ _ _ _ _ => ?_
    refine xe_ix (fun _ _ => rfl) (we_c0 c2 ‹Room _ _› (by decide) rfl ⟨rfl, ?_⟩)
    refine we_cs 0 c1 ‹Room _ _› (by decide) rfl rfl (by first | exact .inl rfl | exact .inr (.inl rfl) | exact .inr (.inr rfl)) rfl rfl ?_
    repeat walk_at "k"
    refine ⟨by decide, by decide, fun j hj => ?_⟩
    obtain ⟨c, h1, h2⟩ := abc_get (k := j) (by omega)
    exact ixS_i j rfl (line6 (by decide)) h1 ⟨c, rfl, h2⟩
  · rw [rangeW_len, hn] at hl
    obtain ⟨cs, rfl, h1, h2⟩ := letters_of ha
    have e0 : ("" : Str).length = 0 := rfl
    refine ⟨cs.map fun c => (⟨#[c]⟩ : Str), rfl, ?_, ?_⟩
    · rw [List.map_map]
      have : (cs.map ((fun x : Str => x.length) ∘ fun c => (⟨#[c]⟩ : Str))).sum ≤ cs.length * 1 := by
        have := sum_le (zs := cs.map fun c => (⟨#[c]⟩ : Str)) (k := 1) fun z hz => by obtain ⟨c, _, rfl⟩ := List.mem_map.mp hz; exact Nat.le_refl _
        rw [List.map_map, List.length_map] at this
        exact this
      rw [e0, h1, hl] at *
      omega
    · refine p _ ⟨?_, ?_, fun c hc => ?_⟩
      · rw [TL.len_tl, join_letters, h1, hl]; omega
      · rw [TL.len_tl, join_letters, h1, hl]; omega
      · have hc : c ∈ TL.tl (Txt.join "" (cs.map fun c => (⟨#[c]⟩ : Str))) := hc
        rw [join_letters] at hc
        exact h2 c hc
end
end K11
namespace K11
open PySem PySem.Spec PyProof.Rows L2
local macro_rules | `(tactic| walk_at "n") => `(tactic| first
  | refine we_name 0 rfl (by first | exact .inl rfl | exact .inr (.inl rfl) | exact .inr (.inr rfl)) rfl ?_
  | refine we_name 1 rfl (by first | exact .inl rfl | exact .inr (.inl rfl) | exact .inr (.inr rfl)) rfl ?_
  | refine we_name 2 rfl (by first | exact .inl rfl | exact .inr (.inl rfl) | exact .inr (.inr rfl)) rfl ?_
  | refine we_name 3 rfl (by first | exact .inl rfl | exact .inr (.inl rfl) | exact .inr (.inr rfl)) rfl ?_
  | refine we_name 4 rfl (by first | exact .inl rfl | exact .inr (.inl rfl) | exact .inr (.inr rfl)) rfl ?_
  | refine we_name 5 rfl (by first | exact .inl rfl | exact .inr (.inl rfl) | exact .inr (.inr rfl)) rfl ?_
  | refine we_name 6 rfl (by first | exact .inl rfl | exact .inr (.inl rfl) | exact .inr (.inr rfl)) rfl ?_
  | refine we_name 7 rfl (by first | exact .inl rfl | exact .inr (.inl rfl) | exact .inr (.inr rfl)) rfl ?_
  | refine we_name 8 rfl (by first | exact .inl rfl | exact .inr (.inl rfl) | exact .inr (.inr rfl)) rfl ?_
  | refine we_name 9 rfl (by first | exact .inl rfl | exact .inr (.inl rfl) | exact .inr (.inr rfl)) rfl ?_
  | refine we_name 10 rfl (by first | exact .inl rfl | exact .inr (.inl rfl) | exact .inr (.inr rfl)) rfl ?_
  | refine we_name 11 rfl (by first | exact .inl rfl | exact .inr (.inl rfl) | exact .inr (.inr rfl)) rfl ?_
  | refine we_name 12 rfl (by first | exact .inl rfl | exact .inr (.inl rfl) | exact .inr (.inr rfl)) rfl ?_
  | refine we_name 13 rfl (by first | exact .inl rfl | exact .inr (.inl rfl) | exact .inr (.inr rfl)) rfl ?_
  | refine we_name 14 rfl (by first | exact .inl rfl | exact .inr (.inl rfl) | exact .inr (.inr rfl)) rfl ?_
  | refine we_name 15 rfl (by first | exact .inl rfl | exact .inr (.inl rfl) | exact .inr (.inr rfl)) rfl ?_
  | refine we_gint rfl (Txt.mLetters ‹_›) ?_
  | refine we_gstr rfl (Txt.letters ‹_›) ?_
  | refine we_gint rfl (Tx2.mFB ‹_›) ?_
  | refine we_gint rfl (Tx2.mW ‹_›) ?_
  | refine we_gint rfl (Tx2.mF ‹_›) ?_
  | refine we_gint rfl (Tx2.mFT ‹_›) ?_
  | refine we_gint rfl (Tx2.mK ‹_›) ?_)
local macro_rules | `(tactic| walk_at "cmp") => `(tactic| first
  | refine xt_eq ‹Room _ _› ?_
  | refine xt_ne ‹Room _ _› ?_
  | refine xt_lt ?_
  | refine xt_le ?_
  | refine xt_gt ?_
  | refine xt_ge ?_
  | refine wt_isN ?_
  | refine xt_in rfl ?_
  | refine xt_nin rfl ?_
  | refine x_chain (by with_unfolding_all rfl) ?_)
local macro_rules | `(tactic| walk_at "ecmp") => `(tactic| first
  | refine xe_eq ‹Room _ _› ?_
  | refine xe_ne ‹Room _ _› ?_
  | refine xe_lt ?_
  | refine xe_le ?_
  | refine xe_gt ?_
  | refine xe_ge ?_
  | refine we_isN ?_
  | refine xe_in rfl ?_
  | refine xe_nin rfl ?_)
local macro_rules | `(tactic| walk_at "t") => `(tactic| first
  | (show WT _ _ (.Compare _ _ _ _) _; walk_at "cmp")
  | refine wt_or ?_
  | refine wt_and ?_
  | refine wt_not ?_
  | refine x_val (by intro _; rfl) ?_)
local macro_rules | `(tactic| walk_at "b") => `(tactic| first
  | refine x_lenSet ‹Txt _ _› rfl rfl rfl rfl rfl ?_
  | refine xe_len ‹Txt _ _› rfl rfl ?_
  | refine x_isi_str ‹Txt _ _› rfl rfl rfl rfl ?_
  | refine x_isi_tup ‹Txt _ _› rfl rfl rfl rfl ?_
  | refine x_isi_lst ‹Txt _ _› rfl rfl rfl rfl ?_
  | refine x_isi_bool ‹Txt _ _› rfl rfl rfl rfl ?_
  | refine x_isi_int ‹Txt _ _› rfl rfl rfl rfl ?_
  | refine x_isi_lt ‹Txt _ _› rfl rfl rfl rfl rfl ?_
  | refine x_all ‹Txt _ _› rfl rfl rfl ?_
  | refine x_tuple ‹Txt _ _› rfl rfl ?_
  | refine x_list ‹Txt _ _› rfl rfl ?_
  | refine x_sorted ‹Txt _ _› rfl rfl ?_
  | refine x_str ‹Txt _ _› rfl rfl ?_
  | refine x_int ‹Txt _ _› rfl rfl ?_
  | refine x_min ‹Txt _ _› rfl rfl rfl rfl rfl ?_)
local macro_rules | `(tactic| walk_at "e") => `(tactic| first
  | (show WE _ _ (.Name _ _) _; walk_at "n")
  | (show WE _ _ (.Constant _ _ _) _; first | refine we_int ?_ | refine we_str ?_ | refine we_bl ?_ | refine we_non ?_)
  | (show WE _ _ (.Call (.Name _ _) _ _ _) _; walk_at "b")
  | (show WE _ _ (.Compare _ _ _ _) _; walk_at "ecmp")
  | (show WE _ _ (.Subscript _ _ _) _; first | refine xe_sl ?_ | refine xe_ix (fun _ _ => rfl) ?_)
  | (show WE _ _ (.BinOp _ _ _ _) _; first | refine xe_add ?_ | refine xe_sub ?_ | refine xe_mul ?_ | refine xe_mod ?_ | refine xe_fdiv ?_)
  | (show WE _ _ (.Call (.Attribute _ _ _) _ _ _) _; first | refine x_split rfl rfl rfl ?_ | refine x_join rfl rfl rfl ?_)
  | (show WE _ _ (.Attribute _ _ _) _; refine we_fld ?_ rfl)
  | refine we_lst (k := 0) ?_
  | refine we_tup (k := _) ?_
  | refine we_if ?_
  | refine x_and ?_
  | refine x_or ?_
  | refine we_one ?_
  | refine x_not ?_
  | refine x_fstr2 ?_
  | refine we_neg ?_)
local macro_rules | `(tactic| walk_at "ss") => `(tactic| first
  | refine vs_set 0 ‹List.Nodup _› rfl (by first | exact .inl rfl | exact .inr rfl) (by first | exact .inl rfl | exact .inr rfl) rfl ?_
  | refine vs_set 1 ‹List.Nodup _› rfl (by first | exact .inl rfl | exact .inr rfl) (by first | exact .inl rfl | exact .inr rfl) rfl ?_
  | refine vs_set 2 ‹List.Nodup _› rfl (by first | exact .inl rfl | exact .inr rfl) (by first | exact .inl rfl | exact .inr rfl) rfl ?_
  | refine vs_set 3 ‹List.Nodup _› rfl (by first | exact .inl rfl | exact .inr rfl) (by first | exact .inl rfl | exact .inr rfl) rfl ?_
  | refine vs_set 4 ‹List.Nodup _› rfl (by first | exact .inl rfl | exact .inr rfl) (by first | exact .inl rfl | exact .inr rfl) rfl ?_
  | refine vs_set 5 ‹List.Nodup _› rfl (by first | exact .inl rfl | exact .inr rfl) (by first | exact .inl rfl | exact .inr rfl) rfl ?_
  | refine vs_set 6 ‹List.Nodup _› rfl (by first | exact .inl rfl | exact .inr rfl) (by first | exact .inl rfl | exact .inr rfl) rfl ?_
  | refine vs_set 7 ‹List.Nodup _› rfl (by first | exact .inl rfl | exact .inr rfl) (by first | exact .inl rfl | exact .inr rfl) rfl ?_
  | refine vs_set 8 ‹List.Nodup _› rfl (by first | exact .inl rfl | exact .inr rfl) (by first | exact .inl rfl | exact .inr rfl) rfl ?_
  | refine vs_set 9 ‹List.Nodup _› rfl (by first | exact .inl rfl | exact .inr rfl) (by first | exact .inl rfl | exact .inr rfl) rfl ?_
  | refine vs_set 10 ‹List.Nodup _› rfl (by first | exact .inl rfl | exact .inr rfl) (by first | exact .inl rfl | exact .inr rfl) rfl ?_
  | refine vs_set 11 ‹List.Nodup _› rfl (by first | exact .inl rfl | exact .inr rfl) (by first | exact .inl rfl | exact .inr rfl) rfl ?_
  | refine vs_set 12 ‹List.Nodup _› rfl (by first | exact .inl rfl | exact .inr rfl) (by first | exact .inl rfl | exact .inr rfl) rfl ?_
  | refine vs_set 13 ‹List.Nodup _› rfl (by first | exact .inl rfl | exact .inr rfl) (by first | exact .inl rfl | exact .inr rfl) rfl ?_
  | refine vs_set 14 ‹List.Nodup _› rfl (by first | exact .inl rfl | exact .inr rfl) (by first | exact .inl rfl | exact .inr rfl) rfl ?_
  | refine vs_set 15 ‹List.Nodup _› rfl (by first | exact .inl rfl | exact .inr rfl) (by first | exact .inl rfl | exact .inr rfl) rfl ?_)
local macro_rules | `(tactic| walk_at "nl") => `(tactic| first
  | refine vs_newlst 0 ‹List.Nodup _› rfl (by first | exact .inl rfl | exact .inr rfl) (by first | exact .inl rfl | exact .inr rfl) fun _ => ?_
  | refine vs_newlst 1 ‹List.Nodup _› rfl (by first | exact .inl rfl | exact .inr rfl) (by first | exact .inl rfl | exact .inr rfl) fun _ => ?_
  | refine vs_newlst 2 ‹List.Nodup _› rfl (by first | exact .inl rfl | exact .inr rfl) (by first | exact .inl rfl | exact .inr rfl) fun _ => ?_
  | refine vs_newlst 3 ‹List.Nodup _› rfl (by first | exact .inl rfl | exact .inr rfl) (by first | exact .inl rfl | exact .inr rfl) fun _ => ?_
  | refine vs_newlst 4 ‹List.Nodup _› rfl (by first | exact .inl rfl | exact .inr rfl) (by first | exact .inl rfl | exact .inr rfl) fun _ => ?_
  | refine vs_newlst 5 ‹List.Nodup _› rfl (by first | exact .inl rfl | exact .inr rfl) (by first | exact .inl rfl | exact .inr rfl) fun _ => ?_
  | refine vs_newlst 6 ‹List.Nodup _› rfl (by first | exact .inl rfl | exact .inr rfl) (by first | exact .inl rfl | exact .inr rfl) fun _ => ?_
  | refine vs_newlst 7 ‹List.Nodup _› rfl (by first | exact .inl rfl | exact .inr rfl) (by first | exact .inl rfl | exact .inr rfl) fun _ => ?_
  | refine vs_newlst 8 ‹List.Nodup _› rfl (by first | exact .inl rfl | exact .inr rfl) (by first | exact .inl rfl | exact .inr rfl) fun _ => ?_
  | refine vs_newlst 9 ‹List.Nodup _› rfl (by first | exact .inl rfl | exact .inr rfl) (by first | exact .inl rfl | exact .inr rfl) fun _ => ?_
  | refine vs_newlst 10 ‹List.Nodup _› rfl (by first | exact .inl rfl | exact .inr rfl) (by first | exact .inl rfl | exact .inr rfl) fun _ => ?_
  | refine vs_newlst 11 ‹List.Nodup _› rfl (by first | exact .inl rfl | exact .inr rfl) (by first | exact .inl rfl | exact .inr rfl) fun _ => ?_
  | refine vs_newlst 12 ‹List.Nodup _› rfl (by first | exact .inl rfl | exact .inr rfl) (by first | exact .inl rfl | exact .inr rfl) fun _ => ?_
  | refine vs_newlst 13 ‹List.Nodup _› rfl (by first | exact .inl rfl | exact .inr rfl) (by first | exact .inl rfl | exact .inr rfl) fun _ => ?_
  | refine vs_newlst 14 ‹List.Nodup _› rfl (by first | exact .inl rfl | exact .inr rfl) (by first | exact .inl rfl | exact .inr rfl) fun _ => ?_
  | refine vs_newlst 15 ‹List.Nodup _› rfl (by first | exact .inl rfl | exact .inr rfl) (by first | exact .inl rfl | exact .inr rfl) fun _ => ?_)
local macro_rules | `(tactic| walk_at "gn") => `(tactic| first
  | refine vg_name 0 ‹List.Nodup _› rfl (by first | exact .inl rfl | exact .inr rfl) (by first | exact .inl rfl | exact .inr rfl) (by decide) ?_
  | refine vg_name 1 ‹List.Nodup _› rfl (by first | exact .inl rfl | exact .inr rfl) (by first | exact .inl rfl | exact .inr rfl) (by decide) ?_
  | refine vg_name 2 ‹List.Nodup _› rfl (by first | exact .inl rfl | exact .inr rfl) (by first | exact .inl rfl | exact .inr rfl) (by decide) ?_
  | refine vg_name 3 ‹List.Nodup _› rfl (by first | exact .inl rfl | exact .inr rfl) (by first | exact .inl rfl | exact .inr rfl) (by decide) ?_
  | refine vg_name 4 ‹List.Nodup _› rfl (by first | exact .inl rfl | exact .inr rfl) (by first | exact .inl rfl | exact .inr rfl) (by decide) ?_
  | refine vg_name 5 ‹List.Nodup _› rfl (by first | exact .inl rfl | exact .inr rfl) (by first | exact .inl rfl | exact .inr rfl) (by decide) ?_
  | refine vg_name 6 ‹List.Nodup _› rfl (by first | exact .inl rfl | exact .inr rfl) (by first | exact .inl rfl | exact .inr rfl) (by decide) ?_
  | refine vg_name 7 ‹List.Nodup _› rfl (by first | exact .inl rfl | exact .inr rfl) (by first | exact .inl rfl | exact .inr rfl) (by decide) ?_
  | refine vg_name 8 ‹List.Nodup _› rfl (by first | exact .inl rfl | exact .inr rfl) (by first | exact .inl rfl | exact .inr rfl) (by decide) ?_
  | refine vg_name 9 ‹List.Nodup _› rfl (by first | exact .inl rfl | exact .inr rfl) (by first | exact .inl rfl | exact .inr rfl) (by decide) ?_
  | refine vg_name 10 ‹List.Nodup _› rfl (by first | exact .inl rfl | exact .inr rfl) (by first | exact .inl rfl | exact .inr rfl) (by decide) ?_
  | refine vg_name 11 ‹List.Nodup _› rfl (by first | exact .inl rfl | exact .inr rfl) (by first | exact .inl rfl | exact .inr rfl) (by decide) ?_
  | refine vg_name 12 ‹List.Nodup _› rfl (by first | exact .inl rfl | exact .inr rfl) (by first | exact .inl rfl | exact .inr rfl) (by decide) ?_
  | refine vg_name 13 ‹List.Nodup _› rfl (by first | exact .inl rfl | exact .inr rfl) (by first | exact .inl rfl | exact .inr rfl) (by decide) ?_
  | refine vg_name 14 ‹List.Nodup _› rfl (by first | exact .inl rfl | exact .inr rfl) (by first | exact .inl rfl | exact .inr rfl) (by decide) ?_
  | refine vg_name 15 ‹List.Nodup _› rfl (by first | exact .inl rfl | exact .inr rfl) (by first | exact .inl rfl | exact .inr rfl) (by decide) ?_)
local macro_rules | `(tactic| walk_at "k") => `(tactic| first
  | (with_reducible show IntW _ _; refine int_i ?_)
  | (with_reducible show StrW _ _; refine str_i ?_)
  | (with_reducible show LstW _ _; refine lst_i ?_)
  | (with_reducible show TupW _ _; refine tup_i ?_)
  | (with_reducible show BlW _ _; refine bl_i ?_)
  | (with_reducible show SeqW _ _; first | refine seqL_i ?_ | refine seqT_i ?_)
  | (with_reducible show LenW _ _; first | refine lenL_i ?_ | refine lenT_i ?_)
  | (with_reducible show IxW _ _ _; first | refine ixL_i 0 rfl rfl ?_ | refine ixL_i 1 rfl rfl ?_ | refine ixL_i 2 rfl rfl ?_ | refine ixT_i 0 rfl rfl ?_ | refine ixT_i 1 rfl rfl ?_)
  | (with_reducible show SlW _ _ _ _; first | refine slL_from 1 rfl ?_ | refine slL_from 2 rfl ?_ | refine slT_from 1 rfl ?_)
  | (show WE _ _ _ _; walk_at "e")
  | (show WT _ _ _ _; walk_at "t")
  | (show WSs _ _ _ _ _; first | refine wss_cons ?_ | refine wss_nil ?_)
  | (show WS _ _ _ _ _; first | refine ws_if ?_ | refine ws_ret ?_ | refine ws_retN ?_ | (show WS _ _ (.Assign [.Name _ _] (.List [] _) _) _ _; walk_at "nl") | (show WS _ _ (.Assign [.Name _ _] _ _) _ _; walk_at "ss"))
  | (show WG _ _ _ _ _ _; first | refine xg_tup rfl rfl rfl ?_ | walk_at "gn")
  | (show WGs _ _ _ _ _ _; first | refine vgs_cons rfl ?_ | refine vgs_nil ?_)
  | (show WAs _ _ _ _; first | refine wa_nil ?_ | refine wa_star ?_ | refine wa_cons ?_)
  | (show WTw _ _ _ _; first | refine ww_or ?_ | refine ww_and ?_ | refine ww_or1 ?_ | refine ww_and1 ?_)
  | (show WO _ _ _ _; first | refine wo_none ?_ | refine wo_int ?_)
  | refine fam_i fun _ _ _ _ _ => ?_
  | refine iteT ?_
  | refine iteF ?_
  | refine ⟨rfl, ?_⟩
  | refine ⟨_, rfl, ?_⟩
  | refine ⟨lit_line rfl, ?_⟩
  | refine ⟨_, .inl rfl, ?_⟩
  | refine ⟨_, .inr rfl, ?_⟩
  | walk_at "x")
/-! PE3 -/
local macro_rules | `(tactic| walk_at "x") => `(tactic| first
  | refine we_cs 0 ‹C8.Cal _ _ _ _ _ 1 "_law_draw" _ _› ‹Room _ _› (by decide) rfl rfl (by first | exact .inl rfl | exact .inr (.inl rfl) | exact .inr (.inr rfl)) rfl rfl ?_
  | refine we_cs 0 ‹C8.Cal _ _ _ _ _ 2 "_law_pick" _ _› ‹Room _ _› (by decide) rfl rfl (by first | exact .inl rfl | exact .inr (.inl rfl) | exact .inr (.inr rfl)) rfl rfl ?_
  | refine we_cs 0 ‹C8.Cal _ _ _ _ _ 2 "_law_word" _ _› ‹Room _ _› (by decide) rfl rfl (by first | exact .inl rfl | exact .inr (.inl rfl) | exact .inr (.inr rfl)) rfl rfl ?_
  | refine we_cs 0 ‹C8.Cal _ _ _ _ _ 2 "_law_shuffle" _ _› ‹Room _ _› (by decide) rfl rfl (by first | exact .inl rfl | exact .inr (.inl rfl) | exact .inr (.inr rfl)) rfl rfl ?_
  | refine we_c0 ‹C8.Cal _ _ _ _ _ 1 "_law_letters" _ _› ‹Room _ _› (by decide) rfl ⟨rfl, ?_⟩)
/-! ### the law's names -/
def lt (a b k : Nat) : Nat := 97 + (a + b * k % 26) % 26
def sg (a b k : Nat) : Str := if k < 26 then ⟨#[lt a b k]⟩ else ⟨#[lt a b k, 97 + k / 26]⟩
theorem sg_lo {a b i : Nat} (h : i < 26) : (⟨#[lt a b i]⟩ : Str) ++ ("" : Str) = sg a b i := by
  unfold sg
  rw [if_pos h]
  rfl
theorem sg_hi {a b i : Nat} (h : ¬ i < 26) : (⟨#[lt a b i]⟩ : Str) ++ (⟨#[97 + i / 26]⟩ : Str) = sg a b i := by
  unfold sg
  rw [if_neg h]
  rfl
theorem lt_inj {a b i j : Nat} (hb : b ∈ [1, 3, 5, 7, 9, 11, 25]) (hi : i < 26) (hj : j < 26) (e : lt a b i = lt a b j) : i = j := by
  unfold lt at e
  simp only [List.mem_cons, List.mem_nil_iff, or_false] at hb
  rcases hb with rfl | rfl | rfl | rfl | rfl | rfl | rfl <;> omega
theorem lt_mod {a b k : Nat} : lt a b k = lt a b (k % 26) := by
  unfold lt
  rw [Nat.mul_mod b k 26, Nat.mul_mod b (k % 26) 26, Nat.mod_mod]
theorem sg_inj {a b i j : Nat} (hb : b ∈ [1, 3, 5, 7, 9, 11, 25]) (hi : i < 52) (hj : j < 52) (e : sg a b i = sg a b j) : i = j := by
  have key : lt a b i = lt a b j → i % 26 = j % 26 := fun e => by
    rw [lt_mod, lt_mod (k := j)] at e
    exact lt_inj hb (Nat.mod_lt _ (by decide)) (Nat.mod_lt _ (by decide)) e
  unfold sg at e
  by_cases h1 : i < 26 <;> by_cases h2 : j < 26
  · rw [if_pos h1, if_pos h2] at e
    have := key (by injection e with e; injection e with e; injection e)
    omega
  · rw [if_pos h1, if_neg h2] at e
    injection e with e; injection e with e; injection e with _ e; cases e
  · rw [if_neg h1, if_pos h2] at e
    injection e with e; injection e with e; injection e with _ e; cases e
  · rw [if_neg h1, if_neg h2] at e
    have := key (by injection e with e; injection e with e; injection e)
    omega
theorem lt_rng {a b k : Nat} : 97 ≤ lt a b k ∧ lt a b k ≤ 122 := by unfold lt; omega
theorem sg_nm {a b k : Nat} (h : k < 52) : IsNmN 2 (sg a b k) := by
  have := @lt_rng a b k
  unfold sg
  split
  · exact ⟨Nat.le_refl _, Nat.le_succ _, fun c hc => by rw [List.mem_singleton.mp hc]; exact this⟩
  · refine ⟨Nat.le_succ _, Nat.le_refl _, fun c hc => ?_⟩
    rcases List.mem_cons.mp hc with rfl | hc
    · exact this
    · rw [List.mem_singleton.mp hc]; omega
theorem abc_at {k : Nat} (h : k < 26) : abcS.cps.toList[k]? = some (97 + k) := by
  have : ∀ k : Fin 26, abcS.cps.toList[k.val]? = some (97 + k.val) := by decide +kernel
  exact this ⟨k, h⟩
def sgs (a b n : Nat) : List Str := (List.range n).map (sg a b)
theorem sgs_nd {a b n : Nat} (hb : b ∈ [1, 3, 5, 7, 9, 11, 25]) (hn : n ≤ 40) : (sgs a b n).Nodup := by
  unfold sgs
  refine List.nodup_iff_pairwise_ne.mpr (List.pairwise_map.mpr ?_)
  refine List.Pairwise.imp_of_mem ?_ (List.nodup_iff_pairwise_ne.mp List.nodup_range)
  intro i j hi hj hne e
  exact hne (sg_inj hb (by have := List.mem_range.mp hi; omega) (by have := List.mem_range.mp hj; omega) e)
theorem perm_strs {es : List W} {ks : List Str} (h : es.Perm (ks.map W.str)) : ∃ zs : List Str, es = zs.map W.str ∧ zs.Perm ks := by
  let un : W → Str := fun x => match x with | .str z => z | _ => ""
  have e0 : ∀ l : List Str, (l.map W.str).map un = l := fun l => by
    rw [List.map_map]
    exact List.map_id'' (fun _ => rfl) l
  refine ⟨es.map un, ?_, by have := h.map un; rw [e0] at this; exact this⟩
  have : ∀ x ∈ es, W.str (un x) = x := fun x hx => by
    obtain ⟨z, _, rfl⟩ := List.mem_map.mp (h.mem_iff.mp hx)
    rfl
  rw [List.map_map]
  exact (List.map_congr_left (g := id) this).trans (List.map_id es) |>.symm
def knownN : List Str := ["find", "finds", "word", "fact", "before", "first", "last", "lot", "never", "all", "rest", "self"]
theorem known_ok : knownN.Nodup ∧ ∀ z ∈ knownN, 3 ≤ z.length ∧ z.length ≤ 6 ∧ ∀ c ∈ z.cps.toList, 97 ≤ c ∧ c ≤ 122 := by decide +kernel
def insT (x y : List Nat) (z : Str) : Str := (⟨x.toArray⟩ : Str) ++ z ++ (⟨y.toArray⟩ : Str)
theorem insT_tl (x y : List Nat) (z : Str) : TL.tl (insT x y z) = x ++ TL.tl z ++ y := by
  unfold insT
  rw [TL.tl_append, TL.tl_append]
theorem insT_inj {x y : List Nat} {z z' : Str} (h : insT x y z = insT x y z') : z = z' := by
  have := congrArg TL.tl h
  rw [insT_tl, insT_tl] at this
  exact TL.ext_tl (List.append_cancel_left (List.append_cancel_right this))
theorem tag6 {y z : Str} (hy : IsNm y) (hz : IsNmN 1 z) : IsNm ⟨((y ++ z).cps.toList.take 6).toArray⟩ := by
  have e : TL.tl (⟨((y ++ z).cps.toList.take 6).toArray⟩ : Str) = (TL.tl y ++ TL.tl z).take 6 := by
    show ((y ++ z).cps.toList.take 6) = _
    rw [← TL.tl_append]
  have l1 : 1 ≤ (TL.tl y).length := by have := hy.1; rwa [TL.len_tl] at this
  refine ⟨?_, ?_, fun c hc => ?_⟩
  · rw [TL.len_tl, e, List.length_take, List.length_append]; omega
  · rw [TL.len_tl, e, List.length_take]; omega
  · have hc : c ∈ TL.tl (⟨((y ++ z).cps.toList.take 6).toArray⟩ : Str) := hc
    rw [e] at hc
    rcases List.mem_append.mp (List.mem_of_mem_take hc) with m | m
    · exact hy.2.2 c m
    · exact hz.2.2 c m
theorem filt_strs (ss zs : List Str) : (ss.map W.str).filterMap (fun d => match d with | .str z => if z ∈ zs then none else some (W.str z) | _ => none) = (ss.filter fun z => !decide (z ∈ zs)).map W.str := by
  induction ss with
  | nil => rfl
  | cons s ss ih =>
    rw [List.map_cons, List.filterMap_cons, List.filter_cons]
    by_cases h : s ∈ zs
    · rw [show (match W.str s with | .str z => if z ∈ zs then none else some (W.str z) | _ => none) = none from if_pos h]
      rw [if_neg (by simp [h])]
      exact ih
    · rw [show (match W.str s with | .str z => if z ∈ zs then none else some (W.str z) | _ => none) = some (W.str s) from if_neg h]
      rw [if_pos (by simp [h]), List.map_cons]
      exact congrArg (W.str s :: ·) ih
section
variable {P : Program} {w : World} {K : PySem.W.Frag} {mg : Str → Option Value} {base : Heap}
abbrev fNames : DSpec := fun ws P => ∃ n : Nat, ws = [.int n] ∧ n ≤ 40 ∧ ∀ ns : List Str, ns.length = n → Nms ns → ns.Nodup → P (wl ns)
abbrev NNames : List Str := ["_law_state", "_law_many", "_law_first", "_law_stride", "_law_k", "_law_letters_here", "_law_signs", "_law_way", "_law_stem", "_law_spot", "_law_known", "_law_some", "_law_longer", "_law_tag", "_law_spare", "_law_sign"]
theorem sc_law_names : FnScope ["_law_state", "_law_many", "_law_first", "_law_stride", "_law_k", "_law_letters_here", "_law_signs", "_law_way", "_law_stem", "_law_spot", "_law_known", "_law_some", "_law_longer", "_law_tag", "_law_spare", "_law_sign"] ["_law_state", "_law_many"] (C8.fnScope (top 60)) := C8.fnScope_by (by decide +kernel)
/-- the slots of _law_names behind its first four statements -/
abbrev cNm (st' : Addr × Addr) (ex : List Addr) (T' : List (Addr × Str)) (n a b : Nat) (lh : W) (ss : List Str) (way : Nat) (stem : Str) : Cn := ⟨[some (.adr st'.1), some (.dat (.int n)), some (.dat (.int a)), some (.dat (.int b)), none, some (.dat lh), some (.dat (wl ss)), some (.dat (.int way)), some (.dat (.str stem)), none, none, none, none, none, none, none], [], some st', ex, T'⟩
/-- what is known there -/
structure NmOk (n : Nat) (ss : List Str) : Prop where
  hn : n ≤ 40
  len : ss.length = n
  nm : ∀ z ∈ ss, IsNmN 2 z
  nd : ss.Nodup
theorem names_loop (T : Txt K mg) (c1 : C8.Cal P w K mg base 1 "_law_draw" (spS fDraw) []) (c4 : C8.Cal P w K mg base 2 "_law_word" (spS fWordL) []) (c5 : C8.Cal P w K mg base 2 "_law_shuffle" (spS fShuffle) []) {f : Addr} {cdv : Value} {A : Around} {outer : List Env} {s : Shared} {H : Hp} {E : XK} {st' : Addr × Addr} {ex : List Addr} {T' : List (Addr × Str)} {P' : W → Prop} {n a b : Nat} {lh : W} {ss : List Str} {way : Nat} {stem : Str} (hr : Room 2 (A.deeper (envOfC "_law_names" (C8.fnScope (top 60)) s.heap.objs.size f cdv)))
    (ok : NmOk n ss) (p : ∀ ns : List Str, ns.length = n → Nms ns → ns.Nodup → P' (wl ns)) : WSs (bx P w K mg base NNames "_law_names" (top 60) f cdv A outer s H E) (cNm st' ex T' n a b lh ss way stem) ((C8.fnBody (top 60)).drop 6) (fun _ => P' .non) P' := by
  have nd := sc_law_names.nd
  obtain ⟨hn, hsl, hsn, hsd⟩ := ok
  refine wss_cons ?_
  walk_at "k"
  rename_i l
  refine wss_cons (ws_for [4] PassesOwn.never rfl (x_range ‹Txt _ _› rfl rfl ?_))
  repeat walk_at "k"
  refine ⟨by omega, by omega, ?_⟩
  refine ⟨fun i c1 => ∃ (r4 r12 r13 r14 : Option Th) (zs : List Str), zs.length = i ∧ Nms zs ∧ zs.Nodup ∧ c1 = ⟨[some (.adr st'.1), some (.dat (.int n)), some (.dat (.int a)), some (.dat (.int b)), r4, some (.dat lh), some (.dat (wl ss)), some (.dat (.int way)), some (.dat (.str stem)), none, none, some (.adr l), r12, r13, r14, none], [(l, .lst (zs.map W.str))], some st', ex, T'⟩, ⟨_, _, _, _, [], rfl, (fun _ h => nomatch h), List.nodup_nil, rfl⟩, fun i c1' d hd ⟨r4, r12, r13, r14, zs, hzl, hzn, hzd, e⟩ => ?_, fun c1' ⟨r4, r12, r13, r14, zs, hzl, hzn, hzd, e⟩ => ?_⟩
  · subst e
    obtain ⟨hi, rfl⟩ := rangeW_get hd
    walk_at "k"
    walk_at "k"
    walk_at "k"
    refine WE.mono (P := fun w => ∃ lg : Bool, w = .bl lg ∧ (lg = true → 0 < i)) ?_ fun w ⟨lg, e, hlg⟩ => ?_
    · repeat walk_at "k"
      by_cases h0 : (0 : Int) < i
      · refine ifD h0 ?_
        repeat walk_at "k"
        refine ⟨by decide, by decide, fun k hk => ?_⟩
        dsimp only
        repeat walk_at "k"
        exact fun _ => by omega
      · refine ifDn h0 ?_
        exact ⟨false, rfl, fun h => by cases h⟩
    subst e
    have hi' : i < n := by omega
    walk_at "k"
    walk_at "k"
    refine WE.mono (P := fun w => ∃ z, w = .str z ∧ IsNm z) (v_borrow 11 rfl ?_) fun w ⟨tag, e, htag⟩ => ?_
    · repeat walk_at "k"
      cases lg with
      | true =>
        have h0 := hlg rfl
        repeat walk_at "k"
        refine ⟨by omega, by omega, fun j hj => ?_⟩
        obtain ⟨y, hy⟩ : ∃ y, zs[j]? = some y := ⟨_, List.getElem?_eq_getElem (by omega)⟩
        have hym := hzn y (List.mem_of_getElem? hy)
        refine ixL_i j rfl (by rw [List.getElem?_map, hy]; rfl) ?_
        repeat walk_at "k"
        refine ⟨by decide, by decide, fun z hz => ?_⟩
        dsimp only
        have hz1 : z.length ≤ 1 := hz.2.1
        have hy6 : y.length ≤ 6 := hym.2.1
        refine ⟨line6 (by omega), ?_⟩
        repeat walk_at "k"
        refine ⟨line6 (by rw [app_len]; omega), ?_⟩
        have e6 : cutL (y ++ z).cps.toList none (some 6) = (y ++ z).cps.toList.take 6 := cutL_to _ 6
        rw [e6]
        exact ⟨⟨_, rfl⟩, _, rfl, tag6 hym hz⟩
      | false =>
        repeat walk_at "k"
        exact ⟨by decide, by decide, fun z hz => ⟨⟨_, rfl⟩, z, rfl, hz⟩⟩
    subst e
    refine wss_cons (vs_setLc 14 [("_law_sign", 15)] rfl nd rfl rfl (sw_true rfl rfl rfl (by decide +kernel)) (blkOk_by (own := [("_law_sign", 15)]) (N := NNames) (sc := C8.fnScope (top 60)) (by decide +kernel)) (wlc_F (x_iterL ?_)))
    repeat walk_at "k"
    refine ⟨by rw [strs_len]; exact line6 (by omega), fun d => match d with | .str z => if z ∈ zs then none else some (W.str z) | _ => none, fun j d hd Dd => ?_, ?_⟩
    · obtain ⟨z, hz, rfl⟩ := strs_get hd
      refine fam_i fun _ _ _ _ _ => ?_
      walk_at "k"
      refine fam_i fun _ _ _ _ _ => ?_
      refine xt_ninMu 11 (zs := zs) rfl (by first | exact .inl rfl | exact .inr (.inl rfl) | exact .inr (.inr rfl)) rfl (List.mem_singleton.mpr rfl) rfl ?_
      walk_at "n"
      refine ⟨z, rfl, ?_⟩
      by_cases hm : z ∈ zs
      · refine ifN hm ?_
        exact if_pos hm
      · refine ifNn hm ?_
        refine fam_i fun _ _ _ _ _ => ?_
        walk_at "n"
        exact if_neg hm
    rw [filt_strs]
    obtain ⟨s0, rest, es, hs0⟩ : ∃ s0 rest, (ss.filter fun z => !decide (z ∈ zs)) = s0 :: rest ∧ s0 ∈ ss ∧ s0 ∉ zs := by
      cases q : (ss.filter fun z => !decide (z ∈ zs)) with
      | nil =>
        have h1 := List.filter_eq_nil_iff.mp q
        have := nodup_le hsd (U := zs) fun z hz => by have := h1 z hz; simpa using this
        omega
      | cons s0 rest =>
        have : s0 ∈ ss.filter fun z => !decide (z ∈ zs) := by rw [q]; exact List.mem_cons_self
        have := List.mem_filter.mp this
        exact ⟨s0, rest, rfl, this.1, by simpa using this.2⟩
    rw [es]
    refine wss_cons (vs_append 11 rfl (by first | exact .inl rfl | exact .inr (.inl rfl) | exact .inr (.inr rfl)) rfl ?_ (fun a b => ps_expr (pe_bm PySem.F.plainAttrs_list PySem.F.slot_list_append PySem.F.type_list_append mt_append a (pa_cons b pa_nil))))
    refine WE.mono (P := fun w => ∃ z, w = .str z ∧ IsNm z ∧ z ∉ zs) (v_borrow 11 rfl ?_) fun w ⟨z, e, hz, hzs⟩ => ?_
    · repeat walk_at "k"
      by_cases hm : tag ∈ zs
      · refine ifD hm ?_
        repeat walk_at "k"
        have h2 := hsn s0 hs0.1
        exact ⟨⟨_, rfl⟩, s0, rfl, ⟨h2.1, Nat.le_trans h2.2.1 (by decide), h2.2.2⟩, hs0.2⟩
      · refine ifDn hm ?_
        repeat walk_at "k"
        exact ⟨⟨_, rfl⟩, tag, rfl, htag, hm⟩
    subst e
    refine ⟨line6 (by rw [strs_len]; omega), wss_nil ?_⟩
    refine ⟨_, _, _, _, zs ++ [z], by rw [List.length_append, hzl]; rfl, fun x hx => ?_, ?_, by rw [List.map_append]; rfl⟩
    · rcases List.mem_append.mp hx with m | m
      · exact hzn x m
      · rw [List.mem_singleton.mp m]; exact hz
    · refine List.nodup_append.mpr ⟨hzd, List.nodup_cons.mpr ⟨(fun z => nomatch z), List.nodup_nil⟩, fun x hx y hy e => ?_⟩
      rw [List.mem_singleton.mp hy] at e
      exact hzs (e ▸ hx)
  · subst e
    rw [rangeW_len, Int.toNat_natCast] at hzl
    refine v_freeze 11 rfl ?_
    repeat walk_at "k"
    exact p zs hzl hzn hzd
theorem names_way1 (T : Txt K mg) (c1 : C8.Cal P w K mg base 1 "_law_draw" (spS fDraw) []) (c4 : C8.Cal P w K mg base 2 "_law_word" (spS fWordL) []) (c5 : C8.Cal P w K mg base 2 "_law_shuffle" (spS fShuffle) []) {f : Addr} {cdv : Value} {A : Around} {outer : List Env} {s : Shared} {H : Hp} {E : XK} {st' : Addr × Addr} {ex : List Addr} {T' : List (Addr × Str)} {P' : W → Prop} {n a b : Nat} {lh : W} {ss : List Str} {way : Nat} {stem : Str} (hr : Room 2 (A.deeper (envOfC "_law_names" (C8.fnScope (top 60)) s.heap.objs.size f cdv)))
    (ok : NmOk n ss) (p : ∀ ns : List Str, ns.length = n → Nms ns → ns.Nodup → P' (wl ns)) : WSs (bx P w K mg base NNames "_law_names" (top 60) f cdv A outer s H E) (cNm st' ex T' n a b lh ss way stem) ((C8.fnBody (top 60)).drop 5) (fun _ => P' .non) P' := by
  have nd := sc_law_names.nd
  obtain ⟨hn, hsl, hsn, hsd⟩ := ok
  have tail := names_loop (b := b) (a := a) (lh := lh) (way := way) (stem := stem) (ex := ex) (T' := T') (st' := st') (A := A) (outer := outer) (s := s) (H := H) (E := E) (f := f) (cdv := cdv) T c1 c4 c5 hr ⟨hn, hsl, hsn, hsd⟩ p
  refine wss_cons (ws_if ?_)
  repeat walk_at "k"
  by_cases hw1 : (way : Int) = 1
  · refine ifD hw1 ?_
    repeat walk_at "k"
    refine ⟨by show 12 ≤ 1000; decide, fun es he => ?_⟩
    obtain ⟨zs, rfl, hzs⟩ := perm_strs (ks := knownN) he
    walk_at "n"
    refine ⟨line6 (by rw [strs_len, strs_len, hzs.length_eq, hsl]; show 12 + n ≤ 1000000; omega), ?_⟩
    repeat walk_at "k"
    rw [cutL_to, ← List.map_append, ← List.map_take]
    refine ⟨by rw [strs_len, List.length_take]; omega, fun es he => ?_⟩
    obtain ⟨ys, rfl, hys⟩ := perm_strs he
    have hz : ∀ z ∈ zs, 3 ≤ z.length ∧ z.length ≤ 6 ∧ ∀ c ∈ z.cps.toList, 97 ≤ c ∧ c ≤ 122 := fun z hz => known_ok.2 z (hzs.mem_iff.mp hz)
    have hnd : (zs ++ ss).Nodup := List.nodup_append.mpr ⟨hzs.nodup_iff.mpr known_ok.1, hsd, fun x hx y hy e => by
      have h1 := (hz x hx).1
      have h2 := (hsn y hy).2.1
      rw [e] at h1
      omega⟩
    refine p ys (by rw [hys.length_eq, List.length_take, List.length_append, hsl, hzs.length_eq]; omega) (fun z hz' => ?_) (hys.nodup_iff.mpr (hnd.sublist (List.take_sublist _ _)))
    rcases List.mem_append.mp (List.mem_of_mem_take (hys.mem_iff.mp hz')) with m | m
    · have := hz z m
      exact ⟨by omega, this.2.1, this.2.2⟩
    · have := hsn z m
      exact ⟨this.1, Nat.le_trans this.2.1 (by decide), this.2.2⟩
  · refine ifDn hw1 ?_
    exact wss_nil tail
theorem names_way0 (T : Txt K mg) (c1 : C8.Cal P w K mg base 1 "_law_draw" (spS fDraw) []) (c4 : C8.Cal P w K mg base 2 "_law_word" (spS fWordL) []) (c5 : C8.Cal P w K mg base 2 "_law_shuffle" (spS fShuffle) []) {f : Addr} {cdv : Value} {A : Around} {outer : List Env} {s : Shared} {H : Hp} {E : XK} {st' : Addr × Addr} {ex : List Addr} {T' : List (Addr × Str)} {P' : W → Prop} {n a b : Nat} {lh : W} {ss : List Str} {way : Nat} {stem : Str} (hr : Room 2 (A.deeper (envOfC "_law_names" (C8.fnScope (top 60)) s.heap.objs.size f cdv)))
    (ok : NmOk n ss) (p : ∀ ns : List Str, ns.length = n → Nms ns → ns.Nodup → P' (wl ns)) (hstem : IsNmN 4 stem) : WSs (bx P w K mg base NNames "_law_names" (top 60) f cdv A outer s H E) (cNm st' ex T' n a b lh ss way stem) ((C8.fnBody (top 60)).drop 4) (fun _ => P' .non) P' := by
  have nd := sc_law_names.nd
  obtain ⟨hn, hsl, hsn, hsd⟩ := ok
  have tail := names_way1 (b := b) (a := a) (lh := lh) (way := way) (stem := stem) (ex := ex) (T' := T') (st' := st') (A := A) (outer := outer) (s := s) (H := H) (E := E) (f := f) (cdv := cdv) T c1 c4 c5 hr ⟨hn, hsl, hsn, hsd⟩ p
  have hslen : stem.length ≤ 4 := hstem.2.1
  refine wss_cons (ws_if ?_)
  repeat walk_at "k"
  by_cases hw0 : (way : Int) = 0
  · refine ifD hw0 ?_
    repeat walk_at "k"
    refine ⟨line6 (by omega), ?_⟩
    repeat walk_at "k"
    refine ⟨by omega, by omega, fun spot hs => ?_⟩
    repeat walk_at "k"
    refine we_lc [("_law_sign", 15)] rfl nd (blkOk_by (own := [("_law_sign", 15)]) (N := NNames) (sc := C8.fnScope (top 60)) (by decide +kernel)) (wlc_M (x_iterL ?_))
    repeat walk_at "k"
    refine ⟨by rw [strs_len]; exact line6 (by omega), fun _ d => match d with | .str z => .str (insT (stem.cps.toList.take spot) (stem.cps.toList.drop spot) z) | _ => .non, fun i d hd Dd => ?_, ?_⟩
    · obtain ⟨z, hz, rfl⟩ := strs_get hd
      have hz2 := (hsn z (List.mem_of_getElem? hz)).2.1
      have t1 : (⟨(stem.cps.toList.take spot).toArray⟩ : Str).length ≤ 4 := Nat.le_trans (by rw [TL.len_tl]; show (stem.cps.toList.take spot).length ≤ stem.length; rw [List.length_take, TL.len_tl]; exact Nat.min_le_right _ _) hslen
      have t2 : (⟨(stem.cps.toList.drop spot).toArray⟩ : Str).length ≤ 4 := Nat.le_trans (by rw [TL.len_tl]; show (stem.cps.toList.drop spot).length ≤ stem.length; rw [List.length_drop, TL.len_tl]; exact Nat.sub_le _ _) hslen
      repeat walk_at "k"
      refine ⟨line6 (by omega), ?_⟩
      rw [cutL_to]
      repeat walk_at "k"
      refine ⟨line6 (by omega), ?_⟩
      repeat walk_at "k"
      refine ⟨line6 (by omega), ?_⟩
      rw [cutL_from]
      refine ⟨line6 (by rw [app_len]; omega), ?_⟩
      rfl
    · have e3 : (ss.map W.str).mapIdx (fun _ d => match d with | .str z => .str (insT (stem.cps.toList.take spot) (stem.cps.toList.drop spot) z) | _ => .non) = (ss.map (insT (stem.cps.toList.take spot) (stem.cps.toList.drop spot))).map W.str := by
        rw [map_idx_eq (h := fun z => W.str (insT (stem.cps.toList.take spot) (stem.cps.toList.drop spot) z)) (fun _ _ _ => rfl), List.map_map]
        rfl
      rw [e3]
      refine p _ (by rw [List.length_map]; exact hsl) (fun z hz => ?_) ?_
      · obtain ⟨y, hy, rfl⟩ := List.mem_map.mp hz
        obtain ⟨y1, y2, y3⟩ := hsn y hy
        have hl : (insT (stem.cps.toList.take spot) (stem.cps.toList.drop spot) y).length = stem.length + y.length := by
          rw [TL.len_tl, insT_tl, List.length_append, List.length_append, ← TL.len_tl, List.length_take, List.length_drop, TL.len_tl (x := stem)]
          show min spot (TL.tl stem).length + y.length + ((TL.tl stem).length - spot) = _
          omega
        refine ⟨by rw [hl]; omega, by rw [hl]; omega, fun c hc => ?_⟩
        have hc : c ∈ TL.tl (insT (stem.cps.toList.take spot) (stem.cps.toList.drop spot) y) := hc
        rw [insT_tl] at hc
        rcases List.mem_append.mp hc with hc | hc
        · rcases List.mem_append.mp hc with hc | hc
          · exact hstem.2.2 c (List.mem_of_mem_take hc)
          · exact y3 c hc
        · exact hstem.2.2 c (List.mem_of_mem_drop hc)
      · exact List.nodup_iff_pairwise_ne.mpr (List.pairwise_map.mpr ((List.nodup_iff_pairwise_ne.mp hsd).imp fun h e => h (insT_inj e)))
  · refine ifDn hw0 ?_
    exact wss_nil tail
theorem ok_law_names (G : GDef K mg "_law_names" (top 60)) (T : Txt K mg) (c1 : C8.Cal P w K mg base 1 "_law_draw" (spS fDraw) []) (c2 : C8.Cal P w K mg base 1 "_law_letters" (spD fLetters) []) (c3 : C8.Cal P w K mg base 2 "_law_pick" (spS fPick) []) (c4 : C8.Cal P w K mg base 2 "_law_word" (spS fWordL) []) (c5 : C8.Cal P w K mg base 2 "_law_shuffle" (spS fShuffle) []) : C8.Cal P w K mg base 3 "_law_names" (spS fNames) [] := by
  have nd := sc_law_names.nd
  refine cal_S G sc_law_names (fun _ _ _ _ _ _ us hl => match us, hl with | [_, _], _ => rfl) (fun ws P ⟨n, e, _⟩ => by rw [e]; rfl) (by simp) fun f cdv A outer s H E st' ex T' ws P' hr h => ?_
  obtain ⟨n, rfl, hn, p⟩ := h
  refine wss_cons (vs_asg [2, 3] rfl rfl rfl ?_)
  repeat walk_at "k"
  refine ⟨by decide, by decide, fun a ha => ?_⟩
  dsimp only
  repeat walk_at "k"
  refine ⟨by simp, by decide, fun d hd => ?_⟩
  obtain ⟨b, hb, rfl⟩ : ∃ b : Nat, b ∈ [1, 3, 5, 7, 9, 11, 25] ∧ d = .int (b : Int) := by
    simp only [List.mem_cons, List.mem_nil_iff, or_false] at hd
    rcases hd with rfl | rfl | rfl | rfl | rfl | rfl | rfl
    all_goals exact ⟨_, by decide, rfl⟩
  repeat walk_at "k"
  refine we_lc [("_law_k", 4)] rfl nd (blkOk_by (own := [("_law_k", 4)]) (N := NNames) (sc := C8.fnScope (top 60)) (by decide +kernel)) (wlc_M (x_range ‹Txt _ _› rfl rfl ?_))
  repeat walk_at "k"
  have hb25 : b ≤ 25 := by
    simp only [List.mem_cons, List.mem_nil_iff, or_false] at hb
    omega
  refine ⟨by omega, by omega, by rw [rangeW_len]; exact line6 (by omega), fun i _ => .str ⟨#[lt a b i]⟩, fun i d hd Dd => ?_, ?_⟩
  · obtain ⟨hi, rfl⟩ := rangeW_get hd
    refine fam_i fun _ _ _ _ _ => ?_
    walk_at "k"
    refine fam_i fun _ _ _ _ _ => ?_
    refine xe_ix (fun _ _ => rfl) (we_c0 c2 ‹Room _ _› (by decide) rfl ⟨rfl, ?_⟩)
    repeat walk_at "k"
    refine ⟨.inl ⟨by omega, by omega⟩, ?_⟩
    repeat walk_at "k"
    refine ⟨by decide, ?_⟩
    repeat walk_at "k"
    refine ⟨by decide, ?_⟩
    have e1 : ((a : Int) + (b : Int) * (i : Int) % 26) % 26 = (((a + b * i % 26) % 26 : Nat) : Int) := by
      rw [← Int.natCast_mul b i]
      omega
    rw [e1]
    exact ixS_i _ rfl (line6 (by decide)) (abc_at (Nat.mod_lt _ (by decide))) rfl
  have e1 : (rangeW ((n : Int)).toNat).mapIdx (fun i _ => W.str ⟨#[lt a b i]⟩) = ((List.range n).map fun k => (⟨#[lt a b k]⟩ : Str)).map W.str := by
    rw [Int.toNat_natCast]
    refine List.ext_getElem? fun i => ?_
    rw [List.getElem?_mapIdx, List.getElem?_map, List.getElem?_map]
    unfold rangeW
    rw [List.getElem?_map]
    by_cases h : i < n
    · rw [List.getElem?_range h]; rfl
    · rw [List.getElem?_eq_none (by rw [List.length_range]; omega)]; rfl
  rw [e1]
  repeat walk_at "k"
  refine vs_setLc 6 [("_law_k", 4)] rfl nd rfl rfl (sw_true rfl rfl rfl (by decide +kernel)) (blkOk_by (own := [("_law_k", 4)]) (N := NNames) (sc := C8.fnScope (top 60)) (by decide +kernel)) (wlc_M (x_range ‹Txt _ _› rfl rfl ?_))
  repeat walk_at "k"
  refine ⟨by omega, by omega, by rw [rangeW_len]; exact line6 (by omega), fun i _ => .str (sg a b i), fun i d hd Dd => ?_, ?_⟩
  · obtain ⟨hi, rfl⟩ := rangeW_get hd
    have hi : i < n := by omega
    refine fam_i fun _ _ _ _ _ => ?_
    walk_at "k"
    refine fam_i fun _ _ _ _ _ => ?_
    repeat walk_at "k"
    refine ixL_i i rfl (by rw [List.getElem?_map, List.getElem?_map, List.getElem?_range hi]; rfl) ?_
    repeat walk_at "k"
    by_cases h26 : (i : Int) < 26
    · refine ifD h26 ?_
      repeat walk_at "k"
      refine ⟨line6 (by show 1 + 0 ≤ 1000000; decide), ?_⟩
      exact congrArg W.str (sg_lo (by omega))
    · refine ifDn h26 ?_
      refine xe_ix (fun _ _ => rfl) (we_c0 c2 ‹Room _ _› (by decide) rfl ⟨rfl, ?_⟩)
      repeat walk_at "k"
      refine ⟨⟨by decide, by decide⟩, ?_⟩
      refine ixS_i (i / 26) (by omega) (line6 (by decide)) (abc_at (by omega)) ?_
      refine ⟨line6 (by show 1 + 1 ≤ 1000000; decide), ?_⟩
      exact congrArg W.str (sg_hi (by omega))
  have e2 : (rangeW ((n : Int)).toNat).mapIdx (fun i _ => W.str (sg a b i)) = (sgs a b n).map W.str := by
    rw [Int.toNat_natCast]
    refine List.ext_getElem? fun i => ?_
    unfold sgs
    rw [List.getElem?_mapIdx, List.getElem?_map, List.getElem?_map]
    unfold rangeW
    rw [List.getElem?_map]
    by_cases h : i < n
    · rw [List.getElem?_range h]; rfl
    · rw [List.getElem?_eq_none (by rw [List.length_range]; omega)]; rfl
  rw [e2]
  have hsl : (sgs a b n).length = n := by unfold sgs; rw [List.length_map, List.length_range]
  have hsn : ∀ z ∈ sgs a b n, IsNmN 2 z := fun z hz => by
    unfold sgs at hz
    obtain ⟨k, hk, rfl⟩ := List.mem_map.mp hz
    exact sg_nm (by have := List.mem_range.mp hk; omega)
  have hsd := sgs_nd (n := n) (a := a) hb hn
  generalize sgs a b n = ss at hsl hsn hsd
  refine wss_cons (vs_asg [7, 8] rfl rfl rfl ?_)
  repeat walk_at "k"
  refine ⟨by decide, by decide, fun way hw => ?_⟩
  dsimp only
  repeat walk_at "k"
  refine ⟨by decide, by decide, fun stem hstem => ?_⟩
  dsimp only
  refine wa_nil ?_
  refine ⟨lit_line rfl, ?_⟩
  refine xg_tup rfl rfl rfl ?_
  refine tup_i ?_
  refine ⟨rfl, ?_⟩
  walk_at "k"
  walk_at "k"
  walk_at "k"
  walk_at "k"
  walk_at "k"
  exact names_way0 T c1 c4 c5 hr ⟨hn, hsl, hsn, hsd⟩ p hstem
end
end K11
namespace K11
open PySem PySem.Spec PyProof.Rows L2
local macro_rules | `(tactic| walk_at "n") => `(tactic| first
  | refine we_name 0 rfl (by first | exact .inl rfl | exact .inr (.inl rfl) | exact .inr (.inr rfl)) rfl ?_
  | refine we_name 1 rfl (by first | exact .inl rfl | exact .inr (.inl rfl) | exact .inr (.inr rfl)) rfl ?_
  | refine we_name 2 rfl (by first | exact .inl rfl | exact .inr (.inl rfl) | exact .inr (.inr rfl)) rfl ?_
  | refine we_name 3 rfl (by first | exact .inl rfl | exact .inr (.inl rfl) | exact .inr (.inr rfl)) rfl ?_
  | refine we_name 4 rfl (by first | exact .inl rfl | exact .inr (.inl rfl) | exact .inr (.inr rfl)) rfl ?_
  | refine we_name 5 rfl (by first | exact .inl rfl | exact .inr (.inl rfl) | exact .inr (.inr rfl)) rfl ?_
  | refine we_name 6 rfl (by first | exact .inl rfl | exact .inr (.inl rfl) | exact .inr (.inr rfl)) rfl ?_
  | refine we_name 7 rfl (by first | exact .inl rfl | exact .inr (.inl rfl) | exact .inr (.inr rfl)) rfl ?_
  | refine we_name 8 rfl (by first | exact .inl rfl | exact .inr (.inl rfl) | exact .inr (.inr rfl)) rfl ?_
  | refine we_name 9 rfl (by first | exact .inl rfl | exact .inr (.inl rfl) | exact .inr (.inr rfl)) rfl ?_
  | refine we_name 10 rfl (by first | exact .inl rfl | exact .inr (.inl rfl) | exact .inr (.inr rfl)) rfl ?_
  | refine we_name 11 rfl (by first | exact .inl rfl | exact .inr (.inl rfl) | exact .inr (.inr rfl)) rfl ?_
  | refine we_name 12 rfl (by first | exact .inl rfl | exact .inr (.inl rfl) | exact .inr (.inr rfl)) rfl ?_
  | refine we_name 13 rfl (by first | exact .inl rfl | exact .inr (.inl rfl) | exact .inr (.inr rfl)) rfl ?_
  | refine we_name 14 rfl (by first | exact .inl rfl | exact .inr (.inl rfl) | exact .inr (.inr rfl)) rfl ?_
  | refine we_name 15 rfl (by first | exact .inl rfl | exact .inr (.inl rfl) | exact .inr (.inr rfl)) rfl ?_
  | refine we_gint rfl (Txt.mLetters ‹_›) ?_
  | refine we_gstr rfl (Txt.letters ‹_›) ?_
  | refine we_gint rfl (Tx2.mFB ‹_›) ?_
  | refine we_gint rfl (Tx2.mW ‹_›) ?_
  | refine we_gint rfl (Tx2.mF ‹_›) ?_
  | refine we_gint rfl (Tx2.mFT ‹_›) ?_
  | refine we_gint rfl (Tx2.mK ‹_›) ?_)
local macro_rules | `(tactic| walk_at "cmp") => `(tactic| first
  | refine xt_eq ‹Room _ _› ?_
  | refine xt_ne ‹Room _ _› ?_
  | refine xt_lt ?_
  | refine xt_le ?_
  | refine xt_gt ?_
  | refine xt_ge ?_
  | refine wt_isN ?_
  | refine xt_in rfl ?_
  | refine xt_nin rfl ?_
  | refine x_chain (by with_unfolding_all rfl) ?_)
local macro_rules | `(tactic| walk_at "ecmp") => `(tactic| first
  | refine xe_eq ‹Room _ _› ?_
  | refine xe_ne ‹Room _ _› ?_
  | refine xe_lt ?_
  | refine xe_le ?_
  | refine xe_gt ?_
  | refine xe_ge ?_
  | refine we_isN ?_
  | refine xe_in rfl ?_
  | refine xe_nin rfl ?_)
local macro_rules | `(tactic| walk_at "t") => `(tactic| first
  | (show WT _ _ (.Compare _ _ _ _) _; walk_at "cmp")
  | refine wt_or ?_
  | refine wt_and ?_
  | refine wt_not ?_
  | refine x_val (by intro _; rfl) ?_)
local macro_rules | `(tactic| walk_at "b") => `(tactic| first
  | refine x_lenSet ‹Txt _ _› rfl rfl rfl rfl rfl ?_
  | refine xe_len ‹Txt _ _› rfl rfl ?_
  | refine x_isi_str ‹Txt _ _› rfl rfl rfl rfl ?_
  | refine x_isi_tup ‹Txt _ _› rfl rfl rfl rfl ?_
  | refine x_isi_lst ‹Txt _ _› rfl rfl rfl rfl ?_
  | refine x_isi_bool ‹Txt _ _› rfl rfl rfl rfl ?_
  | refine x_isi_int ‹Txt _ _› rfl rfl rfl rfl ?_
  | refine x_isi_lt ‹Txt _ _› rfl rfl rfl rfl rfl ?_
  | refine x_all ‹Txt _ _› rfl rfl rfl ?_
  | refine x_tuple ‹Txt _ _› rfl rfl ?_
  | refine x_list ‹Txt _ _› rfl rfl ?_
  | refine x_sorted ‹Txt _ _› rfl rfl ?_
  | refine x_str ‹Txt _ _› rfl rfl ?_
  | refine x_int ‹Txt _ _› rfl rfl ?_
  | refine x_min ‹Txt _ _› rfl rfl rfl rfl rfl ?_)
local macro_rules | `(tactic| walk_at "e") => `(tactic| first
  | (show WE _ _ (.Name _ _) _; walk_at "n")
  | (show WE _ _ (.Constant _ _ _) _; first | refine we_int ?_ | refine we_str ?_ | refine we_bl ?_ | refine we_non ?_)
  | (show WE _ _ (.Call (.Name _ _) _ _ _) _; walk_at "b")
  | (show WE _ _ (.Compare _ _ _ _) _; walk_at "ecmp")
  | (show WE _ _ (.Subscript _ _ _) _; first | refine xe_sl ?_ | refine xe_ix (fun _ _ => rfl) ?_)
  | (show WE _ _ (.BinOp _ _ _ _) _; first | refine xe_add ?_ | refine xe_sub ?_ | refine xe_mul ?_ | refine xe_mod ?_ | refine xe_fdiv ?_)
  | (show WE _ _ (.Call (.Attribute _ _ _) _ _ _) _; first | refine x_split rfl rfl rfl ?_ | refine x_join rfl rfl rfl ?_)
  | (show WE _ _ (.Attribute _ _ _) _; refine we_fld ?_ rfl)
  | refine we_lst (k := 0) ?_
  | refine we_tup (k := _) ?_
  | refine we_if ?_
  | refine x_and ?_
  | refine x_or ?_
  | refine we_one ?_
  | refine x_not ?_
  | refine x_fstr2 ?_
  | refine we_neg ?_)
local macro_rules | `(tactic| walk_at "ss") => `(tactic| first
  | refine vs_set 0 ‹List.Nodup _› rfl (by first | exact .inl rfl | exact .inr rfl) (by first | exact .inl rfl | exact .inr rfl) rfl ?_
  | refine vs_set 1 ‹List.Nodup _› rfl (by first | exact .inl rfl | exact .inr rfl) (by first | exact .inl rfl | exact .inr rfl) rfl ?_
  | refine vs_set 2 ‹List.Nodup _› rfl (by first | exact .inl rfl | exact .inr rfl) (by first | exact .inl rfl | exact .inr rfl) rfl ?_
  | refine vs_set 3 ‹List.Nodup _› rfl (by first | exact .inl rfl | exact .inr rfl) (by first | exact .inl rfl | exact .inr rfl) rfl ?_
  | refine vs_set 4 ‹List.Nodup _› rfl (by first | exact .inl rfl | exact .inr rfl) (by first | exact .inl rfl | exact .inr rfl) rfl ?_
  | refine vs_set 5 ‹List.Nodup _› rfl (by first | exact .inl rfl | exact .inr rfl) (by first | exact .inl rfl | exact .inr rfl) rfl ?_
  | refine vs_set 6 ‹List.Nodup _› rfl (by first | exact .inl rfl | exact .inr rfl) (by first | exact .inl rfl | exact .inr rfl) rfl ?_
  | refine vs_set 7 ‹List.Nodup _› rfl (by first | exact .inl rfl | exact .inr rfl) (by first | exact .inl rfl | exact .inr rfl) rfl ?_
  | refine vs_set 8 ‹List.Nodup _› rfl (by first | exact .inl rfl | exact .inr rfl) (by first | exact .inl rfl | exact .inr rfl) rfl ?_
  | refine vs_set 9 ‹List.Nodup _› rfl (by first | exact .inl rfl | exact .inr rfl) (by first | exact .inl rfl | exact .inr rfl) rfl ?_
  | refine vs_set 10 ‹List.Nodup _› rfl (by first | exact .inl rfl | exact .inr rfl) (by first | exact .inl rfl | exact .inr rfl) rfl ?_
  | refine vs_set 11 ‹List.Nodup _› rfl (by first | exact .inl rfl | exact .inr rfl) (by first | exact .inl rfl | exact .inr rfl) rfl ?_
  | refine vs_set 12 ‹List.Nodup _› rfl (by first | exact .inl rfl | exact .inr rfl) (by first | exact .inl rfl | exact .inr rfl) rfl ?_
  | refine vs_set 13 ‹List.Nodup _› rfl (by first | exact .inl rfl | exact .inr rfl) (by first | exact .inl rfl | exact .inr rfl) rfl ?_
  | refine vs_set 14 ‹List.Nodup _› rfl (by first | exact .inl rfl | exact .inr rfl) (by first | exact .inl rfl | exact .inr rfl) rfl ?_
  | refine vs_set 15 ‹List.Nodup _› rfl (by first | exact .inl rfl | exact .inr rfl) (by first | exact .inl rfl | exact .inr rfl) rfl ?_)
local macro_rules | `(tactic| walk_at "nl") => `(tactic| first
  | refine vs_newlst 0 ‹List.Nodup _› rfl (by first | exact .inl rfl | exact .inr rfl) (by first | exact .inl rfl | exact .inr rfl) fun _ => ?_
  | refine vs_newlst 1 ‹List.Nodup _› rfl (by first | exact .inl rfl | exact .inr rfl) (by first | exact .inl rfl | exact .inr rfl) fun _ => ?_
  | refine vs_newlst 2 ‹List.Nodup _› rfl (by first | exact .inl rfl | exact .inr rfl) (by first | exact .inl rfl | exact .inr rfl) fun _ => ?_
  | refine vs_newlst 3 ‹List.Nodup _› rfl (by first | exact .inl rfl | exact .inr rfl) (by first | exact .inl rfl | exact .inr rfl) fun _ => ?_
  | refine vs_newlst 4 ‹List.Nodup _› rfl (by first | exact .inl rfl | exact .inr rfl) (by first | exact .inl rfl | exact .inr rfl) fun _ => ?_
  | refine vs_newlst 5 ‹List.Nodup _› rfl (by first | exact .inl rfl | exact .inr rfl) (by first | exact .inl rfl | exact .inr rfl) fun _ => ?_
  | refine vs_newlst 6 ‹List.Nodup _› rfl (by first | exact .inl rfl | exact .inr rfl) (by first | exact .inl rfl | exact .inr rfl) fun _ => ?_
  | refine vs_newlst 7 ‹List.Nodup _› rfl (by first | exact .inl rfl | exact .inr rfl) (by first | exact .inl rfl | exact .inr rfl) fun _ => ?_
  | refine vs_newlst 8 ‹List.Nodup _› rfl (by first | exact .inl rfl | exact .inr rfl) (by first | exact .inl rfl | exact .inr rfl) fun _ => ?_
  | refine vs_newlst 9 ‹List.Nodup _› rfl (by first | exact .inl rfl | exact .inr rfl) (by first | exact .inl rfl | exact .inr rfl) fun _ => ?_
  | refine vs_newlst 10 ‹List.Nodup _› rfl (by first | exact .inl rfl | exact .inr rfl) (by first | exact .inl rfl | exact .inr rfl) fun _ => ?_
  | refine vs_newlst 11 ‹List.Nodup _› rfl (by first | exact .inl rfl | exact .inr rfl) (by first | exact .inl rfl | exact .inr rfl) fun _ => ?_
  | refine vs_newlst 12 ‹List.Nodup _› rfl (by first | exact .inl rfl | exact .inr rfl) (by first | exact .inl rfl | exact .inr rfl) fun _ => ?_
  | refine vs_newlst 13 ‹List.Nodup _› rfl (by first | exact .inl rfl | exact .inr rfl) (by first | exact .inl rfl | exact .inr rfl) fun _ => ?_
  | refine vs_newlst 14 ‹List.Nodup _› rfl (by first | exact .inl rfl | exact .inr rfl) (by first | exact .inl rfl | exact .inr rfl) fun _ => ?_
  | refine vs_newlst 15 ‹List.Nodup _› rfl (by first | exact .inl rfl | exact .inr rfl) (by first | exact .inl rfl | exact .inr rfl) fun _ => ?_)
local macro_rules | `(tactic| walk_at "gn") => `(tactic| first
  | refine vg_name 0 ‹List.Nodup _› rfl (by first | exact .inl rfl | exact .inr rfl) (by first | exact .inl rfl | exact .inr rfl) (by decide) ?_
  | refine vg_name 1 ‹List.Nodup _› rfl (by first | exact .inl rfl | exact .inr rfl) (by first | exact .inl rfl | exact .inr rfl) (by decide) ?_
  | refine vg_name 2 ‹List.Nodup _› rfl (by first | exact .inl rfl | exact .inr rfl) (by first | exact .inl rfl | exact .inr rfl) (by decide) ?_
  | refine vg_name 3 ‹List.Nodup _› rfl (by first | exact .inl rfl | exact .inr rfl) (by first | exact .inl rfl | exact .inr rfl) (by decide) ?_
  | refine vg_name 4 ‹List.Nodup _› rfl (by first | exact .inl rfl | exact .inr rfl) (by first | exact .inl rfl | exact .inr rfl) (by decide) ?_
  | refine vg_name 5 ‹List.Nodup _› rfl (by first | exact .inl rfl | exact .inr rfl) (by first | exact .inl rfl | exact .inr rfl) (by decide) ?_
  | refine vg_name 6 ‹List.Nodup _› rfl (by first | exact .inl rfl | exact .inr rfl) (by first | exact .inl rfl | exact .inr rfl) (by decide) ?_
  | refine vg_name 7 ‹List.Nodup _› rfl (by first | exact .inl rfl | exact .inr rfl) (by first | exact .inl rfl | exact .inr rfl) (by decide) ?_
  | refine vg_name 8 ‹List.Nodup _› rfl (by first | exact .inl rfl | exact .inr rfl) (by first | exact .inl rfl | exact .inr rfl) (by decide) ?_
  | refine vg_name 9 ‹List.Nodup _› rfl (by first | exact .inl rfl | exact .inr rfl) (by first | exact .inl rfl | exact .inr rfl) (by decide) ?_
  | refine vg_name 10 ‹List.Nodup _› rfl (by first | exact .inl rfl | exact .inr rfl) (by first | exact .inl rfl | exact .inr rfl) (by decide) ?_
  | refine vg_name 11 ‹List.Nodup _› rfl (by first | exact .inl rfl | exact .inr rfl) (by first | exact .inl rfl | exact .inr rfl) (by decide) ?_
  | refine vg_name 12 ‹List.Nodup _› rfl (by first | exact .inl rfl | exact .inr rfl) (by first | exact .inl rfl | exact .inr rfl) (by decide) ?_
  | refine vg_name 13 ‹List.Nodup _› rfl (by first | exact .inl rfl | exact .inr rfl) (by first | exact .inl rfl | exact .inr rfl) (by decide) ?_
  | refine vg_name 14 ‹List.Nodup _› rfl (by first | exact .inl rfl | exact .inr rfl) (by first | exact .inl rfl | exact .inr rfl) (by decide) ?_
  | refine vg_name 15 ‹List.Nodup _› rfl (by first | exact .inl rfl | exact .inr rfl) (by first | exact .inl rfl | exact .inr rfl) (by decide) ?_)
local macro_rules | `(tactic| walk_at "k") => `(tactic| first
  | (with_reducible show IntW _ _; refine int_i ?_)
  | (with_reducible show StrW _ _; refine str_i ?_)
  | (with_reducible show LstW _ _; refine lst_i ?_)
  | (with_reducible show TupW _ _; refine tup_i ?_)
  | (with_reducible show BlW _ _; refine bl_i ?_)
  | (with_reducible show SeqW _ _; first | refine seqL_i ?_ | refine seqT_i ?_)
  | (with_reducible show LenW _ _; first | refine lenL_i ?_ | refine lenT_i ?_)
  | (with_reducible show IxW _ _ _; first | refine ixL_i 0 rfl rfl ?_ | refine ixL_i 1 rfl rfl ?_ | refine ixL_i 2 rfl rfl ?_ | refine ixT_i 0 rfl rfl ?_ | refine ixT_i 1 rfl rfl ?_)
  | (with_reducible show SlW _ _ _ _; first | refine slL_from 1 rfl ?_ | refine slL_from 2 rfl ?_ | refine slT_from 1 rfl ?_)
  | (show WE _ _ _ _; walk_at "e")
  | (show WT _ _ _ _; walk_at "t")
  | (show WSs _ _ _ _ _; first | refine wss_cons ?_ | refine wss_nil ?_)
  | (show WS _ _ _ _ _; first | refine ws_if ?_ | refine ws_ret ?_ | refine ws_retN ?_ | (show WS _ _ (.Assign [.Name _ _] (.List [] _) _) _ _; walk_at "nl") | (show WS _ _ (.Assign [.Name _ _] _ _) _ _; walk_at "ss"))
  | (show WG _ _ _ _ _ _; first | refine xg_tup rfl rfl rfl ?_ | walk_at "gn")
  | (show WGs _ _ _ _ _ _; first | refine vgs_cons rfl ?_ | refine vgs_nil ?_)
  | (show WAs _ _ _ _; first | refine wa_nil ?_ | refine wa_star ?_ | refine wa_cons ?_)
  | (show WTw _ _ _ _; first | refine ww_or ?_ | refine ww_and ?_ | refine ww_or1 ?_ | refine ww_and1 ?_)
  | (show WO _ _ _ _; first | refine wo_none ?_ | refine wo_int ?_)
  | refine fam_i fun _ _ _ _ _ => ?_
  | refine iteT ?_
  | refine iteF ?_
  | refine ⟨rfl, ?_⟩
  | refine ⟨_, rfl, ?_⟩
  | refine ⟨lit_line rfl, ?_⟩
  | refine ⟨_, .inl rfl, ?_⟩
  | refine ⟨_, .inr rfl, ?_⟩
  | walk_at "x")
local macro_rules | `(tactic| walk_at "x") => `(tactic| first
  | refine we_cs 0 ‹C8.Cal _ _ _ _ _ 1 "_law_draw" _ _› ‹Room _ _› (by decide) rfl rfl (by first | exact .inl rfl | exact .inr (.inl rfl) | exact .inr (.inr rfl)) rfl rfl ?_
  | refine we_cs 0 ‹C8.Cal _ _ _ _ _ 2 "_law_pick" _ _› ‹Room _ _› (by decide) rfl rfl (by first | exact .inl rfl | exact .inr (.inl rfl) | exact .inr (.inr rfl)) rfl rfl ?_
  | refine we_cs 0 ‹C8.Cal _ _ _ _ _ 2 "_law_word" _ _› ‹Room _ _› (by decide) rfl rfl (by first | exact .inl rfl | exact .inr (.inl rfl) | exact .inr (.inr rfl)) rfl rfl ?_
  | refine we_cs 0 ‹C8.Cal _ _ _ _ _ 2 "_law_shuffle" _ _› ‹Room _ _› (by decide) rfl rfl (by first | exact .inl rfl | exact .inr (.inl rfl) | exact .inr (.inr rfl)) rfl rfl ?_
  | refine we_c0 ‹C8.Cal _ _ _ _ _ 1 "_law_letters" _ _› ‹Room _ _› (by decide) rfl ⟨rfl, ?_⟩
  | refine addI_i ?_)
/-! PE4 -/
/-! ### the law's lots, facts, rows -/
theorem asc_of_perm {ys zs : List Str} (p : ys.Perm zs) (s : sortedS ys = true) (nd : zs.Nodup) : Asc ys := asc_of s (p.nodup_iff.mpr nd)
theorem lot_of_perm {ys zs fs : List Str} (p : ys.Perm zs) (s : sortedS ys = true) (hf : IsFinds fs) (nd : zs.Nodup) (hs : ∀ z ∈ zs, z ∈ fs) (ne : zs ≠ []) (hl : zs.length ≤ 12) : IsLot ys ∧ ∀ z ∈ ys, z ∈ fs :=
  ⟨⟨fun z hz => hf.nm z (hs z (p.mem_iff.mp hz)), asc_of_perm p s nd, fun e => ne (by rw [e] at p; exact p.symm.eq_nil), by rw [p.length_eq]; omega⟩, fun z hz => hs z (p.mem_iff.mp hz)⟩
theorem ixL_last2 {ws ws' : List W} {w : W} {P : W → Prop} (e : ws = ws' ++ [w]) (p : P w) : IxW (.lst ws) (.int (-1)) P := by subst e; exact ixL_last p
theorem nm_law : IsNm "first" ∧ IsNm "last" ∧ IsNm "before" := by unfold IsNm; decide +kernel
theorem filtMap_congr {α β : Type} {f g : α → Option β} : ∀ {l : List α}, (∀ k ∈ l, f k = g k) → l.filterMap f = l.filterMap g
  | [], _ => rfl
  | a :: l, h => by
    rw [List.filterMap_cons, List.filterMap_cons, h a List.mem_cons_self, filtMap_congr fun k hk => h k (List.mem_cons_of_mem _ hk)]
theorem filt_map {α β γ : Type} {f : β → Option γ} {g : α → β} : ∀ l : List α, (l.map g).filterMap f = l.filterMap fun a => f (g a)
  | [] => rfl
  | a :: l => by rw [List.map_cons, List.filterMap_cons, List.filterMap_cons, filt_map l]
theorem filt_out {α β γ : Type} {f : α → Option β} {h : β → γ} : ∀ l : List α, l.filterMap (fun a => (f a).map h) = (l.filterMap f).map h
  | [] => rfl
  | a :: l => by
    rw [List.filterMap_cons, List.filterMap_cons, filt_out l]
    cases f a with
    | none => rfl
    | some b => rfl
theorem ints_of : ∀ {acc : List W}, (∀ (i : Nat) y, acc[i]? = some y → ∃ b : Nat, y = .int (b : Int)) → ∃ bs : List Nat, acc = bs.map (fun b : Nat => W.int (b : Int))
  | [], _ => ⟨[], rfl⟩
  | y :: acc, h => by
    obtain ⟨b, rfl⟩ := h 0 _ rfl
    obtain ⟨bs, rfl⟩ := ints_of (acc := acc) fun i y e => h (i + 1) y e
    exact ⟨b :: bs, rfl⟩
theorem py_wl (zs : List Str) : (wl zs).py = .list (zs.map PyData.str) := by rw [W.py, pys_map]; congr 1
theorem lay_wl {zs : List Str} (h : Nms zs) : (wl zs).py.canLay0 = true := by
  rw [py_wl, PyData.canLay0]
  exact lay_map _ _ fun z hz => by rw [PyData.canLay0]; exact nm_ok (h z hz)
theorem dep_wl (zs : List Str) : (wl zs).py.depth ≤ 1 := by
  rw [py_wl, PyData.depth]
  have := dep_map PyData.str 0 zs fun z _ => by rw [PyData.depth]; exact Nat.le_refl _
  omega
theorem shp_wl {zs : List Str} (h : Nms zs) : SeqAt.shaped (wl zs).py = true := shp_of (lay_wl h) (by have := dep_wl zs; omega)
theorem eqW_nilS {zs : List Str} (h : Nms zs) {P : Bool → Prop} (p : P (decide (zs = []))) : EqW (wl zs) (.lst []) P := by
  have s0 : SeqAt.shaped (W.lst []).py = true := shp_of (by rw [W.py, W.pys, PyData.canLay0, PyData.canLayAll0]) (by rw [W.py, W.pys, PyData.depth, PyData.depthAll]; omega)
  refine ⟨oks_map _ str_ok zs, by rw [W.oks], shp_wl h, s0, ?_⟩
  have e : PyData.eqv (wl zs).py (W.lst []).py = decide (zs = []) := by
    rw [py_wl, W.py, W.pys]
    cases zs with
    | nil => rfl
    | cons z zs => rfl
  rw [e]
  exact p
theorem filt_pool (p : Nat → Bool) : ∀ (pool : List Str) (s : Nat), ((List.range' s pool.length).filterMap fun k => if p k = true then pool[k - s]? else none).Sublist pool
  | [], s => List.Sublist.slnil
  | z :: pool, s => by
    rw [List.length_cons, List.range'_succ, List.filterMap_cons]
    have e : ((List.range' (s + 1) pool.length).filterMap fun k => if p k = true then (z :: pool)[k - s]? else none) = (List.range' (s + 1) pool.length).filterMap fun k => if p k = true then pool[k - (s + 1)]? else none := by
      refine filtMap_congr fun k hk => ?_
      have h1 := (List.mem_range'_1.mp hk).1
      have h2 : k - s = (k - (s + 1)) + 1 := by omega
      rw [h2, List.getElem?_cons_succ]
    rw [e]
    have ih := filt_pool p pool (s + 1)
    by_cases h : p s = true
    · rw [if_pos h, Nat.sub_self]
      exact ih.cons_cons z
    · rw [if_neg h]
      exact ih.cons z
section
variable {P : Program} {w : World} {K : PySem.W.Frag} {mg : Str → Option Value} {base : Heap}
abbrev fSubset : DSpec := fun ws P => ∃ pool : List Str, ws = [wl pool] ∧ IsFinds pool ∧ ∀ zs, IsLot zs → (∀ z ∈ zs, z ∈ pool) → P (wt zs)
abbrev NSub : List Str := ["_law_state", "_law_pool", "_law_limit", "_law_spare", "_law_bits", "_law_some", "_law_x", "_law_k"]
theorem sc_law_subset : FnScope NSub ["_law_state", "_law_pool"] (C8.fnScope (top 61)) := C8.fnScope_by (by decide +kernel)
theorem ok_law_subset (G : GDef K mg "_law_subset" (top 61)) (T : Txt K mg) (c1 : C8.Cal P w K mg base 1 "_law_draw" (spS fDraw) []) (c2 : C8.Cal P w K mg base 2 "_law_pick" (spS fPick) []) : C8.Cal P w K mg base 3 "_law_subset" (spS fSubset) [] := by
  have nd := sc_law_subset.nd
  refine cal_S G sc_law_subset (fun _ _ _ _ _ _ us hl => match us, hl with | [_, _], _ => rfl) (fun ws P ⟨n, e, _⟩ => by rw [e]; rfl) (by simp) fun f cdv A outer s H E st' ex T' ws P' hr h => ?_
  obtain ⟨pool, rfl, hf, p⟩ := h
  have h12 := hf.len
  have hpos : 0 < pool.length := List.length_pos_iff.mpr hf.ne
  refine wss_cons (vs_asg [2, 3] rfl rfl rfl ?_)
  repeat walk_at "k"
  refine ⟨by decide, by decide, fun j hj => ?_⟩
  dsimp only
  repeat walk_at "k"
  refine ⟨fun e => hf.ne (List.map_eq_nil_iff.mp e), by rw [strs_len]; omega, fun d hd => ?_⟩
  obtain ⟨sp, hsp, rfl⟩ := List.mem_map.mp hd
  repeat walk_at "k"
  refine we_lc [("_law_x", 6)] rfl nd (blkOk_by (own := [("_law_x", 6)]) (N := NSub) (sc := C8.fnScope (top 61)) (by decide +kernel)) (wlc_A (x_iterL ?_))
  repeat walk_at "k"
  refine ⟨by rw [strs_len]; exact line6 (by omega), fun _ y => ∃ b : Nat, y = .int (b : Int), fun i d hd Dd => ?_, fun acc hl ha => ?_⟩
  · obtain ⟨z, hz, rfl⟩ := strs_get hd
    refine fam_i fun _ _ _ _ _ => ?_
    walk_at "k"
    refine fam_i fun _ _ _ _ _ => ?_
    repeat walk_at "k"
    exact ⟨by decide, by decide, fun b hb => ⟨b, rfl⟩⟩
  obtain ⟨bs, rfl⟩ := ints_of ha
  rw [strs_len, List.length_map] at hl
  refine wss_cons (vs_setLc 5 [("_law_k", 7)] rfl nd rfl rfl (sw_true rfl rfl rfl (by decide +kernel)) (blkOk_by (own := [("_law_k", 7)]) (N := NSub) (sc := C8.fnScope (top 61)) (by decide +kernel)) (wlc_F (x_range ‹Txt _ _› rfl rfl ?_)))
  repeat walk_at "k"
  refine ⟨by omega, by rw [strs_len]; omega, by rw [rangeW_len, strs_len]; exact line6 (by omega), fun d => match d with | .int k => if decide (((bs[k.toNat]?.getD 0 : Nat) : Int) < 1 + (j : Int)) = true then (pool[k.toNat]?).map W.str else none | _ => none, fun i d hd Dd => ?_, ?_⟩
  · obtain ⟨hi, rfl⟩ := rangeW_get hd
    have hi : i < pool.length := by rw [strs_len] at hi; omega
    obtain ⟨z, hz⟩ : ∃ z, pool[i]? = some z := ⟨_, List.getElem?_eq_getElem hi⟩
    obtain ⟨b, hb⟩ : ∃ b, bs[i]? = some b := ⟨_, List.getElem?_eq_getElem (by omega)⟩
    refine fam_i fun _ _ _ _ _ => ?_
    walk_at "k"
    refine fam_i fun _ _ _ _ _ => ?_
    repeat walk_at "k"
    refine ixL_i i rfl (by rw [List.getElem?_map, hb]; rfl) ?_
    repeat walk_at "k"
    have e0 : bs[((i : Nat) : Int).toNat]?.getD 0 = b := by rw [Int.toNat_natCast, hb]; rfl
    by_cases hlt : (b : Int) < 1 + (j : Int)
    · refine ifD hlt ?_
      refine fam_i fun _ _ _ _ _ => ?_
      repeat walk_at "k"
      refine ixL_i i rfl (by rw [List.getElem?_map, hz]; rfl) ?_
      show (if decide (((bs[((i : Nat) : Int).toNat]?.getD 0 : Nat) : Int) < 1 + (j : Int)) = true then (pool[((i : Nat) : Int).toNat]?).map W.str else none) = some (W.str z)
      rw [e0, if_pos (decide_eq_true hlt), Int.toNat_natCast, hz]
      rfl
    · refine ifDn hlt ?_
      show (if decide (((bs[((i : Nat) : Int).toNat]?.getD 0 : Nat) : Int) < 1 + (j : Int)) = true then (pool[((i : Nat) : Int).toNat]?).map W.str else none) = none
      rw [e0, if_neg (by simpa using hlt)]
  have e1 : (rangeW (((pool.map W.str).length : Nat) : Int).toNat).filterMap (fun d => match d with | .int k => if decide (((bs[k.toNat]?.getD 0 : Nat) : Int) < 1 + (j : Int)) = true then (pool[k.toNat]?).map W.str else none | _ => none)
      = ((List.range' 0 pool.length).filterMap fun k => if decide (((bs[k]?.getD 0 : Nat) : Int) < 1 + (j : Int)) = true then pool[k - 0]? else none).map W.str := by
    unfold rangeW
    rw [Int.toNat_natCast, strs_len, filt_map, ← filt_out, List.range_eq_range']
    refine filtMap_congr fun k _ => ?_
    show (if decide (((bs[((k : Nat) : Int).toNat]?.getD 0 : Nat) : Int) < 1 + (j : Int)) = true then (pool[((k : Nat) : Int).toNat]?).map W.str else none) = _
    rw [Int.toNat_natCast, Nat.sub_zero]
    split <;> rfl
  rw [e1]
  have hsub := filt_pool (fun k => decide (((bs[k]?.getD 0 : Nat) : Int) < 1 + (j : Int))) pool 0
  generalize ((List.range' 0 pool.length).filterMap fun k => if decide (((bs[k]?.getD 0 : Nat) : Int) < 1 + (j : Int)) = true then pool[k - 0]? else none) = so at hsub ⊢
  have hso : ∀ z ∈ so, z ∈ pool := fun z hz => hsub.subset hz
  have hsn : so.Nodup := hf.nd.sublist hsub
  have hsl : so.length ≤ 12 := Nat.le_trans hsub.length_le h12
  refine wss_cons (ws_ret (x_tuple ‹Txt _ _› rfl rfl (x_sorted ‹Txt _ _› rfl rfl ?_)))
  repeat walk_at "k"
  refine eqW_nilS (fun z hz => hf.nm z (hso z hz)) ?_
  by_cases he : so = []
  · refine ifN he ?_
    repeat walk_at "k"
    refine ⟨[sp], rfl, (by show 1 < 64; decide), fun ys p1 p2 => ?_⟩
    have := lot_of_perm p1 p2 hf (by simp) (fun z hz => by rw [List.mem_singleton.mp hz]; exact hsp) (by simp) (by show 1 ≤ 12; decide)
    exact p ys this.1 this.2
  · refine ifNn he ?_
    repeat walk_at "k"
    refine ⟨by omega, fun ys p1 p2 => ?_⟩
    have := lot_of_perm p1 p2 hf hsn hso he hsl
    exact p ys this.1 this.2
abbrev fStretch : DSpec := fun ws P => ∃ pool : List Str, ws = [wl pool] ∧ IsFinds pool ∧ ∀ zs, IsLot zs → (∀ z ∈ zs, z ∈ pool) → P (wt zs)
abbrev NStr : List Str := ["_law_state", "_law_lineup", "_law_long", "_law_spot"]
theorem sc_law_stretch : FnScope NStr ["_law_state", "_law_lineup"] (C8.fnScope (top 62)) := C8.fnScope_by (by decide +kernel)
theorem ok_law_stretch (G : GDef K mg "_law_stretch" (top 62)) (T : Txt K mg) (c1 : C8.Cal P w K mg base 1 "_law_draw" (spS fDraw) []) (c2 : C8.Cal P w K mg base 2 "_law_pick" (spS fPick) []) : C8.Cal P w K mg base 3 "_law_stretch" (spS fStretch) [] := by
  have nd := sc_law_stretch.nd
  refine cal_S G sc_law_stretch (fun _ _ _ _ _ _ us hl => match us, hl with | [_, _], _ => rfl) (fun ws P ⟨n, e, _⟩ => by rw [e]; rfl) (by simp) fun f cdv A outer s H E st' ex T' ws P' hr h => ?_
  obtain ⟨pool, rfl, hf, p⟩ := h
  have h12 := hf.len
  have hpos : 0 < pool.length := List.length_pos_iff.mpr hf.ne
  repeat walk_at "k"
  refine ⟨by simp, by decide, fun d hd => ?_⟩
  obtain ⟨b, hb, rfl⟩ : ∃ b : Nat, 0 < b ∧ d = .int (b : Int) := by
    simp only [List.mem_cons, List.mem_nil_iff, or_false] at hd
    rcases hd with rfl | rfl | rfl | rfl | rfl | rfl | rfl | rfl | rfl
    all_goals exact ⟨_, by decide, rfl⟩
  repeat walk_at "k"
  obtain ⟨m, hm, hm0, hml⟩ : ∃ m : Nat, (if (b : Int) < (((pool.map W.str).length : Nat) : Int) then (b : Int) else (((pool.map W.str).length : Nat) : Int)) = (m : Int) ∧ 0 < m ∧ m ≤ pool.length := by
    rw [strs_len]
    by_cases h : (b : Int) < (pool.length : Int)
    · exact ⟨b, if_pos h, hb, by omega⟩
    · exact ⟨pool.length, if_neg h, hpos, Nat.le_refl _⟩
  rw [hm, strs_len]
  refine ⟨by omega, by omega, fun k hk => ?_⟩
  dsimp only
  refine wss_cons (ws_ret (x_tuple ‹Txt _ _› rfl rfl (x_sorted ‹Txt _ _› rfl rfl ?_)))
  repeat walk_at "k"
  show LstW (.lst (cutL (pool.map W.str) (some (k : Int)) (some ((k : Int) + (m : Int))))) (fun ws => ∃ zs : List Str, ws = zs.map W.str ∧ zs.length < 64 ∧ ∀ ys : List Str, ys.Perm zs → sortedS ys = true → SeqW (.lst (ys.map W.str)) fun ws => P' (.tup ws))
  rw [cutL_both _ k m (by rw [strs_len]; omega), ← List.map_drop, ← List.map_take]
  have hso : ∀ z ∈ (pool.drop k).take m, z ∈ pool := fun z hz => List.mem_of_mem_drop (List.mem_of_mem_take hz)
  have hsl : ((pool.drop k).take m).length = m := by rw [List.length_take, List.length_drop]; omega
  refine ⟨_, rfl, by omega, fun ys p1 p2 => ?_⟩
  have := lot_of_perm p1 p2 hf ((hf.nd.sublist (List.drop_sublist _ _)).sublist (List.take_sublist _ _)) hso (fun e => by rw [e] at hsl; simp at hsl; omega) (by omega)
  exact p ys this.1 this.2
abbrev fFact : DSpec := fun ws P => ∃ pool : List Str, ws = [wl pool] ∧ IsFinds pool ∧ ∀ fc, IsFact fc → P (wt fc)
abbrev NFact : List Str := ["_law_state", "_law_pool", "_law_x", "_law_y", "_law_way"]
theorem sc_law_fact : FnScope NFact ["_law_state", "_law_pool"] (C8.fnScope (top 66)) := C8.fnScope_by (by decide +kernel)
theorem ok_law_fact (G : GDef K mg "_law_fact" (top 66)) (T : Txt K mg) (c1 : C8.Cal P w K mg base 1 "_law_draw" (spS fDraw) []) (c2 : C8.Cal P w K mg base 2 "_law_pick" (spS fPick) []) : C8.Cal P w K mg base 3 "_law_fact" (spS fFact) [] := by
  have nd := sc_law_fact.nd
  refine cal_S G sc_law_fact (fun _ _ _ _ _ _ us hl => match us, hl with | [_, _], _ => rfl) (fun ws P ⟨n, e, _⟩ => by rw [e]; rfl) (by simp) fun f cdv A outer s H E st' ex T' ws P' hr h => ?_
  obtain ⟨pool, rfl, hf, p⟩ := h
  have h12 := hf.len
  have hpos : 0 < pool.length := List.length_pos_iff.mpr hf.ne
  have ne : pool.map W.str ≠ [] := fun e => hf.ne (List.map_eq_nil_iff.mp e)
  refine wss_cons (vs_par3 2 3 4 rfl nd rfl rfl rfl (by decide) (by decide) (by decide) rfl rfl rfl (by rfl) (by rfl) ?_)
  repeat walk_at "k"
  refine ⟨ne, by rw [strs_len]; omega, fun d hd => ?_⟩
  obtain ⟨x, hx, rfl⟩ := List.mem_map.mp hd
  repeat walk_at "k"
  refine ⟨ne, by rw [strs_len]; omega, fun d hd => ?_⟩
  obtain ⟨y, hy, rfl⟩ := List.mem_map.mp hd
  repeat walk_at "k"
  refine ⟨by decide, by decide, fun way hw => ?_⟩
  dsimp only
  refine wa_nil ?_
  refine ⟨_, _, _, rfl, ?_⟩
  have fin : ∀ y, y ∈ pool → WSs (bx P w K mg base NFact "_law_fact" (top 66) f cdv A outer s H E) ⟨(((some (Th.adr st'.1) :: rho0 NFact.tail [wl pool]).set 2 (some (.dat (.str x)))).set 3 (some (.dat (.str y)))).set 4 (some (.dat (.int (way : Int)))), [], some st', ex, T'⟩ ((C8.fnBody (top 66)).drop 2) (fun _ => P' .non) P' := fun y hy => by
    refine wss_cons (ws_ret ?_)
    repeat walk_at "k"
    by_cases h0 : (way : Int) = 0
    · refine ifD h0 ?_
      repeat walk_at "k"
      exact p ["first", x] ⟨"first", [x], rfl, rfl, fun z hz => by rw [List.mem_singleton.mp hz]; exact hf.nm x hx, nm_law.1, by show 1 ≤ 2; decide⟩
    · refine ifDn h0 ?_
      repeat walk_at "k"
      by_cases h1 : (way : Int) = 1
      · refine ifD h1 ?_
        repeat walk_at "k"
        exact p ["last", x] ⟨"last", [x], rfl, rfl, fun z hz => by rw [List.mem_singleton.mp hz]; exact hf.nm x hx, nm_law.2.1, by show 1 ≤ 2; decide⟩
      · refine ifDn h1 ?_
        repeat walk_at "k"
        exact p ["before", x, y] ⟨"before", [x, y], rfl, rfl, fun z hz => by
          rcases List.mem_cons.mp hz with rfl | hz
          · exact hf.nm _ hx
          · rw [List.mem_singleton.mp hz]; exact hf.nm y hy, nm_law.2.2, by show 2 ≤ 2; decide⟩
  refine wss_cons (ws_if ?_)
  repeat walk_at "k"
  by_cases hxy : x = y
  · refine ifD hxy ?_
    repeat walk_at "k"
    refine ⟨by decide, by decide, fun j hj => ?_⟩
    repeat walk_at "k"
    obtain ⟨z0, hz0⟩ : ∃ z0, pool[0]? = some z0 := ⟨_, List.getElem?_eq_getElem hpos⟩
    by_cases h0 : (0 : Int) < (j : Int)
    · refine ifD h0 ?_
      repeat walk_at "k"
      refine ixL_i 0 rfl (by rw [List.getElem?_map, hz0]; rfl) ?_
      repeat walk_at "k"
      by_cases hz : x = z0
      · refine ifN hz ?_
        repeat walk_at "k"
        obtain ⟨pr, zl, ep⟩ : ∃ pr zl, pool = pr ++ [zl] := ⟨pool.dropLast, pool.getLast hf.ne, (List.dropLast_concat_getLast hf.ne).symm⟩
        refine ixL_last2 (ws' := pr.map W.str) (w := .str zl) (by rw [ep, List.map_append]; rfl) ?_
        exact wss_nil (fin zl (by rw [ep]; simp))
      · refine ifNn hz ?_
        repeat walk_at "k"
        refine ixL_i 0 rfl (by rw [List.getElem?_map, hz0]; rfl) ?_
        exact wss_nil (fin z0 (List.mem_of_getElem? hz0))
    · refine ifDn h0 ?_
      exact wss_nil (fin y hy)
  · refine ifDn hxy ?_
    exact wss_nil (fin y hy)
end
/-! PE5 -/
/-! ### the law's rows -/
abbrev wrs (rs : List (List Str)) : W := .lst (rs.map wl)
theorem acc_of {α β : Type} {R : α → β → Prop} {g : β → W} : ∀ {acc : List W} {l : List α}, acc.length = l.length → (∀ (i : Nat) (y : W) (a : α), acc[i]? = some y → l[i]? = some a → ∃ b, y = g b ∧ R a b) → ∃ bs : List β, acc = bs.map g ∧ bs.length = l.length ∧ ∀ (i : Nat) (a : α) (b : β), l[i]? = some a → bs[i]? = some b → R a b
  | [], [], _, _ => ⟨[], rfl, rfl, fun i a b h _ => by simp at h⟩
  | [], _ :: _, e, _ => by simp at e
  | _ :: _, [], e, _ => by simp at e
  | y :: acc, a :: l, e, h => by
    obtain ⟨b, rfl, hb⟩ := h 0 y a rfl rfl
    obtain ⟨bs, rfl, h2, h3⟩ := acc_of (acc := acc) (l := l) (R := R) (g := g) (by simpa using e) fun i y a h1 h2 => h (i + 1) y a (by simpa using h1) (by simpa using h2)
    refine ⟨b :: bs, rfl, by rw [List.length_cons, List.length_cons, h2], fun i a' b' h4 h5 => ?_⟩
    cases i with
    | zero =>
      cases (show some a = some a' from h4)
      cases (show some b = some b' from h5)
      exact hb
    | succ i => exact h3 i a' b' (by simpa using h4) (by simpa using h5)
theorem range_zip {α β : Type} {xs : List α} {ys : List β} {g : α × β → W} (h : ys.length = xs.length) : (rangeW xs.length).mapIdx (fun i _ => (xs[i]?).elim W.non fun q => (ys[i]?).elim W.non fun z => g (q, z)) = (xs.zip ys).map g := by
  refine List.ext_getElem? fun i => ?_
  rw [List.getElem?_mapIdx, List.getElem?_map]
  show _ = Option.map g ((List.zipWith Prod.mk xs ys)[i]?)
  rw [List.getElem?_zipWith]
  by_cases hi : i < xs.length
  · have h1 : (rangeW xs.length)[i]? = some (W.int (i : Int)) := by unfold rangeW; rw [List.getElem?_map, List.getElem?_range hi]; rfl
    have h2 := List.getElem?_eq_getElem hi
    have h3 := List.getElem?_eq_getElem (l := ys) (i := i) (by omega)
    rw [h1, h2, h3]
    rfl
  · have h1 : (rangeW xs.length)[i]? = none := List.getElem?_eq_none (by rw [rangeW_len]; omega)
    have h2 : xs[i]? = none := List.getElem?_eq_none (by omega)
    rw [h1, h2]
    rfl
section
variable {P : Program} {w : World} {K : PySem.W.Frag} {mg : Str → Option Value} {base : Heap}
abbrev fRowsText : DSpec := fun ws P => ∃ rs : List (List Str), ws = [wrs rs] ∧ (∀ r ∈ rs, IsRow r) ∧ rs.length ≤ 100 ∧ P (.str (rowsT rs))
theorem sc_law_rows_text : FnScope ["_law_rows", "_law_row"] ["_law_rows"] (C8.fnScope (top 67)) := C8.fnScope_by (by decide +kernel)
theorem ok_law_rows_text (G : GDef K mg "_law_rows_text" (top 67)) (T : Txt K mg) : C8.Cal P w K mg base 1 "_law_rows_text" (spD fRowsText) [] := by
  have nd := sc_law_rows_text.nd
  refine cal_D G sc_law_rows_text (fun _ _ _ _ _ _ us hl => match us, hl with | [_], _ => rfl) (fun ws P ⟨rs, e, _⟩ => by rw [e]; rfl) fun f cdv A outer s H E ex T' ws P' hr h => ?_
  obtain ⟨rs, rfl, hrs, hl, p⟩ := h
  refine wss_cons (ws_ret (x_join rfl rfl rfl ?_))
  repeat walk_at "k"
  refine we_lc [("_law_row", 1)] rfl nd (blkOk_by (own := [("_law_row", 1)]) (N := ["_law_rows", "_law_row"]) (sc := C8.fnScope (top 67)) (by decide +kernel)) (wlc_M (x_iterL ?_))
  repeat walk_at "k"
  refine ⟨by rw [List.length_map]; exact line_of hl, fun i _ => (rs[i]?).elim .non (fun r => .str (rowT r ++ nlS)), fun i d hd Dd => ?_, ?_⟩
  · obtain ⟨r, hr', rfl⟩ := rowsW_get hd
    have hrow := hrs r (List.mem_of_getElem? hr')
    repeat walk_at "k"
    refine ⟨row_sum hrow, ?_⟩
    repeat walk_at "k"
    refine ⟨line6 (by have := row_len hrow; unfold rowT at this; have : (("\n" : Str)).length = 1 := rfl; omega), ?_⟩
    show _ = Option.elim _ _ _
    rw [hr']
    rfl
  rw [idx_map]
  refine ⟨(rs.map rowT).map (fun z => z ++ nlS), by simp only [List.map_map]; rfl, ?_, p⟩
  have h1 : ∀ z ∈ (rs.map rowT).map (fun z => z ++ nlS), z.length ≤ 1001 := fun z hz' => by
    obtain ⟨y, hy, rfl⟩ := List.mem_map.mp hz'
    obtain ⟨r, hr', rfl⟩ := List.mem_map.mp hy
    rw [app_len]
    have := row_len (hrs r hr')
    have : nlS.length = 1 := rfl
    omega
  have h2 := sum_le h1
  rw [List.length_map, List.length_map] at h2
  have : rs.length * 1001 ≤ 100 * 1001 := Nat.mul_le_mul_right _ hl
  have e : ("" : Str).length = 0 := rfl
  rw [e]
  omega
abbrev fTableRows : DSpec := fun ws P => ∃ (hs : List Hol) (U : List Str), ws = [.lst (hs.map hL)] ∧ IsHols hs U ∧ ∀ hs', IsTab hs' U → P (wrs (hs'.map hRow))
abbrev NTR : List Str := ["_law_stock_here", "_law_tag", "_law_kinds_z"]
theorem sc_law_table_rows : FnScope NTR ["_law_stock_here"] (C8.fnScope (top 68)) := C8.fnScope_by (by decide +kernel)
theorem ok_law_table_rows (G : GDef K mg "_law_table_rows" (top 68)) (T : Txt K mg) : C8.Cal P w K mg base 1 "_law_table_rows" (spD fTableRows) [] := by
  have nd := sc_law_table_rows.nd
  refine cal_D G sc_law_table_rows (fun _ _ _ _ _ _ us hl => match us, hl with | [_], _ => rfl) (fun ws P ⟨rs, U, e, _⟩ => by rw [e]; rfl) fun f cdv A outer s H E ex T' ws P' hr h => ?_
  obtain ⟨hs, U, rfl, hh, p⟩ := h
  have h12 := hh.len
  refine wss_cons (ws_ret (we_lc [("_law_tag", 1), ("_law_kinds_z", 2)] rfl nd (blkOk_by (own := [("_law_tag", 1), ("_law_kinds_z", 2)]) (N := NTR) (sc := C8.fnScope (top 68)) (by decide +kernel)) (wlc_A (x_iterL (x_sortedP ‹Txt _ _› rfl rfl ?_)))))
  repeat walk_at "n"
  refine ⟨hs.map fun h => (h.1, h.2.map W.str), by rw [List.map_map]; rfl, by rw [List.map_map]; exact hh.nd, fun hs2 h1 h2 => ?_⟩
  obtain ⟨hs1, rfl, h3⟩ := perm_map_of h1 hs rfl
  rw [List.map_map] at h2
  have h2 : Asc (hs1.map (·.1)) := h2
  have e1 : (hs1.map fun h => (h.1, h.2.map W.str)).map spW = hs1.map hL := by rw [List.map_map]; rfl
  rw [e1]
  repeat walk_at "k"
  refine ⟨by rw [List.length_map, h3.length_eq]; exact line_of (by omega), fun i y => ∃ (a : Hol) (b : Hol), hs1[i]? = some a ∧ y = wl (hRow b) ∧ b.1 = a.1 ∧ b.2.Perm a.2 ∧ Asc b.2, fun i d hd Dd => ?_, fun acc hl ha => ?_⟩
  · obtain ⟨h', hh', rfl⟩ := map_get hd
    have hw := hh.wd h' (h3.mem_iff.mp (List.mem_of_getElem? hh'))
    have h10 := hw.len
    repeat walk_at "k"
    refine ⟨by omega, fun ys p1 p2 => ⟨line6 (by rw [strs_len, p1.length_eq]; show 2 + _ ≤ _; omega), ?_⟩⟩
    exact ⟨h', (h'.1, ys), hh', rfl, rfl, p1, asc_of_perm p1 p2 hw.nd⟩
  rw [List.length_map] at hl
  obtain ⟨bs, rfl, hbl, hb⟩ := acc_of (R := fun (a b : Hol) => b.1 = a.1 ∧ b.2.Perm a.2 ∧ Asc b.2) (g := fun b : Hol => wl (hRow b)) hl fun i y a h4 h5 => by
    obtain ⟨a', b, h6, h7, h8⟩ := ha i y h4
    rw [h5] at h6
    cases h6
    exact ⟨b, h7, h8⟩
  have key : ∀ b ∈ bs, ∃ a ∈ hs, b.1 = a.1 ∧ b.2.Perm a.2 ∧ Asc b.2 := fun b hbm => by
    obtain ⟨i, hi⟩ := List.mem_iff_getElem?.mp hbm
    have hlt : i < hs1.length := by
      rw [← hbl]
      by_cases q : i < bs.length
      · exact q
      · rw [List.getElem?_eq_none (by omega)] at hi; cases hi
    have ha' := List.getElem?_eq_getElem hlt
    exact ⟨hs1[i], h3.mem_iff.mp (List.getElem_mem hlt), hb i _ _ ha' hi⟩
  have ek : bs.map (·.1) = hs1.map (·.1) := by
    refine List.ext_getElem? fun i => ?_
    rw [List.getElem?_map, List.getElem?_map]
    cases e4 : hs1[i]? with
    | none =>
      have : bs[i]? = none := List.getElem?_eq_none (by rw [hbl]; exact List.getElem?_eq_none_iff.mp e4)
      rw [this]
    | some a =>
      have hlt : i < bs.length := by
        rw [hbl]
        by_cases q : i < hs1.length
        · exact q
        · rw [List.getElem?_eq_none (by omega)] at e4; cases e4
      rw [List.getElem?_eq_getElem hlt]
      exact congrArg some (hb i a _ e4 (List.getElem?_eq_getElem hlt)).1
  have e5 : (bs.map fun b : Hol => wl (hRow b)) = (bs.map hRow).map wl := by rw [List.map_map]; rfl
  rw [e5]
  refine p bs ⟨⟨fun b hbm => ?_, by rw [ek]; exact (h3.map _).nodup_iff.mpr hh.nd, fun e => ?_, by rw [hbl, h3.length_eq]; exact h12, ⟨fun b hbm z hz => ?_, hh.ks.len⟩⟩, by rw [ek]; exact h2, fun b hbm => (key b hbm).elim fun a h => h.2.2.2⟩
  · obtain ⟨a, ha', h6, h7, h8⟩ := key b hbm
    have hw := hh.wd a ha'
    exact ⟨by rw [h6]; exact hw.nm, fun z hz => hw.ks z (h7.mem_iff.mp hz), asc_nd h8, by rw [h7.length_eq]; exact hw.len⟩
  · rw [e] at hbl
    have : hs1.length = hs.length := h3.length_eq
    exact hh.ne (List.eq_nil_of_length_eq_zero (by rw [← this, ← hbl]; rfl))
  · obtain ⟨a, ha', h6, h7, h8⟩ := key b hbm
    exact hh.ks.sub a ha' z (h7.mem_iff.mp hz)
abbrev fBookRows : DSpec := fun ws P => ∃ (pool : List Str) (qs : List (Str × List Str)), ws = [wl pool, .lst (qs.map wWord)] ∧ IsFinds pool ∧ IsWords pool qs ∧ ∀ fs : List Str, fs.Perm pool → Asc fs → P (wrs (bookRows fs qs))
abbrev NBR : List Str := ["_law_pool", "_law_terms_here", "_law_label", "_law_lot_z"]
theorem sc_law_book_rows : FnScope NBR ["_law_pool", "_law_terms_here"] (C8.fnScope (top 69)) := C8.fnScope_by (by decide +kernel)
theorem ok_law_book_rows (G : GDef K mg "_law_book_rows" (top 69)) (T : Txt K mg) : C8.Cal P w K mg base 1 "_law_book_rows" (spD fBookRows) [] := by
  have nd := sc_law_book_rows.nd
  refine cal_D G sc_law_book_rows (fun _ _ _ _ _ _ us hl => match us, hl with | [_, _], _ => rfl) (fun ws P ⟨pool, qs, e, _⟩ => by rw [e]; rfl) fun f cdv A outer s H E ex T' ws P' hr h => ?_
  obtain ⟨pool, qs, rfl, hf, hq, p⟩ := h
  have h12 := hf.len
  have h40 := hq.len
  repeat walk_at "k"
  refine ⟨by omega, fun ys p1 p2 => ?_⟩
  have hyl : ys.length ≤ 12 := by rw [p1.length_eq]; exact h12
  refine ⟨line6 (by rw [strs_len]; show 1 + _ ≤ _; omega), ?_⟩
  repeat walk_at "k"
  refine we_lc [("_law_label", 2), ("_law_lot_z", 3)] rfl nd (blkOk_by (own := [("_law_label", 2), ("_law_lot_z", 3)]) (N := NBR) (sc := C8.fnScope (top 69)) (by decide +kernel)) (wlc_M (x_iterL ?_))
  repeat walk_at "k"
  refine ⟨by rw [List.length_map]; exact line_of (by omega), fun i _ => (qs[i]?).elim .non (fun q => wl (wRow q)), fun i d hd Dd => ?_, ?_⟩
  · obtain ⟨q, hq', rfl⟩ := words_get hd
    have h100 := (hq.wd q (List.mem_of_getElem? hq')).lot.len
    repeat walk_at "k"
    refine ⟨line6 (by rw [strs_len]; show 2 + _ ≤ _; omega), ?_⟩
    show _ = Option.elim _ _ _
    rw [hq']
    rfl
  rw [idx_map]
  refine ⟨line6 (by rw [List.length_map]; show 1 + _ ≤ _; omega), ?_⟩
  have e : W.lst ([W.lst ([W.str "finds"] ++ ys.map W.str)] ++ qs.map fun q => wl (wRow q)) = wrs (bookRows ys qs) := by
    show _ = W.lst (wl ("finds" :: ys) :: (qs.map wRow).map wl)
    rw [List.map_map]
    rfl
  rw [e]
  exact p ys p1 (asc_of_perm p1 p2 hf.nd)
abbrev fFactRows : DSpec := fun ws P => ∃ ms : List (Str × List Str), ws = [.lst (ms.map wWord)] ∧ IsMarks ms ∧ P (wrs (ms.map fRow))
abbrev NFR : List Str := ["_law_claims", "_law_label", "_law_said"]
theorem sc_law_fact_rows : FnScope NFR ["_law_claims"] (C8.fnScope (top 70)) := C8.fnScope_by (by decide +kernel)
theorem ok_law_fact_rows (G : GDef K mg "_law_fact_rows" (top 70)) (T : Txt K mg) : C8.Cal P w K mg base 1 "_law_fact_rows" (spD fFactRows) [] := by
  have nd := sc_law_fact_rows.nd
  refine cal_D G sc_law_fact_rows (fun _ _ _ _ _ _ us hl => match us, hl with | [_], _ => rfl) (fun ws P ⟨ms, e, _⟩ => by rw [e]; rfl) fun f cdv A outer s H E ex T' ws P' hr h => ?_
  obtain ⟨ms, rfl, hm, p⟩ := h
  have h30 := hm.len
  refine wss_cons (ws_ret (we_lc [("_law_label", 1), ("_law_said", 2)] rfl nd (blkOk_by (own := [("_law_label", 1), ("_law_said", 2)]) (N := NFR) (sc := C8.fnScope (top 70)) (by decide +kernel)) (wlc_M (x_iterL ?_))))
  repeat walk_at "k"
  refine ⟨by rw [List.length_map]; exact line_of (by omega), fun i _ => (ms[i]?).elim .non (fun q => wl (fRow q)), fun i d hd Dd => ?_, ?_⟩
  · obtain ⟨q, hq', rfl⟩ := words_get hd
    have h3 := (fact_nms (hm.wd q (List.mem_of_getElem? hq')).fact).2
    repeat walk_at "k"
    refine ⟨line6 (by rw [strs_len]; show 2 + _ ≤ _; omega), ?_⟩
    show _ = Option.elim _ _ _
    rw [hq']
    rfl
  rw [idx_map]
  have e : (ms.map fun q => wl (fRow q)) = (ms.map fRow).map wl := by rw [List.map_map]; rfl
  rw [e]
  exact p
abbrev fTerms : DSpec := fun ws P => ∃ (labels pool : List Str), ws = [wl labels, wl pool] ∧ IsFinds pool ∧ Nms labels ∧ labels.Nodup ∧ labels.length ≤ 40 ∧ ∀ qs : List (Str × List Str), IsWords pool qs → qs.length = labels.length → P (.lst (qs.map wWord))
abbrev NTm : List Str := ["_law_state", "_law_labels", "_law_pool", "_law_lineup", "_law_loose", "_law_lots_z", "_law_label", "_law_k"]
theorem sc_law_terms : FnScope NTm ["_law_state", "_law_labels", "_law_pool"] (C8.fnScope (top 72)) := C8.fnScope_by (by decide +kernel)
theorem ok_law_terms (G : GDef K mg "_law_terms" (top 72)) (T : Txt K mg) (c1 : C8.Cal P w K mg base 1 "_law_draw" (spS fDraw) []) (c2 : C8.Cal P w K mg base 2 "_law_shuffle" (spS fShuffle) []) (c3 : C8.Cal P w K mg base 3 "_law_subset" (spS fSubset) []) (c4 : C8.Cal P w K mg base 3 "_law_stretch" (spS fStretch) []) : C8.Cal P w K mg base 4 "_law_terms" (spS fTerms) [] := by
  have nd := sc_law_terms.nd
  refine cal_S G sc_law_terms (fun _ _ _ _ _ _ us hl => match us, hl with | [_, _, _], _ => rfl) (fun ws P ⟨n, m, e, _⟩ => by rw [e]; rfl) (by simp) fun f cdv A outer s H E st' ex T' ws P' hr h => ?_
  obtain ⟨labels, pool, rfl, hf, hnm, hnd, h40, p⟩ := h
  have h12 := hf.len
  have stm := hnd
  repeat walk_at "k"
  refine ⟨by rw [strs_len]; omega, fun es he => ?_⟩
  obtain ⟨ls, rfl, hls⟩ := perm_strs he
  have hfl : IsFinds ls := ⟨fun z hz => hf.nm z (hls.mem_iff.mp hz), hls.nodup_iff.mpr hf.nd, fun e => hf.ne (by rw [e] at hls; exact hls.symm.eq_nil), by rw [hls.length_eq]; exact h12⟩
  repeat walk_at "k"
  refine ⟨by decide, by decide, fun lo hlo => ?_⟩
  dsimp only
  repeat walk_at "k"
  refine we_lc [("_law_label", 6)] rfl nd (blkOk_by (own := [("_law_label", 6)]) (N := NTm) (sc := C8.fnScope (top 72)) (by decide +kernel)) (wlc_A (x_iterL ?_))
  repeat walk_at "k"
  refine ⟨by rw [strs_len]; exact line6 (by omega), fun _ y => ∃ zs, y = wt zs ∧ IsLot zs ∧ ∀ z ∈ zs, z ∈ pool, fun i d hd Dd => ?_, fun acc hl ha => ?_⟩
  · obtain ⟨z, hz, rfl⟩ := strs_get hd
    refine fam_i fun _ _ _ _ _ => ?_
    walk_at "k"
    refine fam_i fun _ _ _ _ _ => ?_
    repeat walk_at "k"
    by_cases h0 : (0 : Int) < (lo : Int)
    · refine ifD h0 ?_
      repeat walk_at "k"
      refine ⟨by decide, by decide, fun m hm => ?_⟩
      dsimp only
      repeat walk_at "k"
      by_cases hm0 : (m : Int) = 0
      · refine ifD hm0 ?_
        refine we_cs 0 c3 ‹Room _ _› (by decide) rfl rfl (by first | exact .inl rfl | exact .inr (.inl rfl) | exact .inr (.inr rfl)) rfl rfl ?_
        repeat walk_at "k"
        exact ⟨hf, fun zs h1 h2 => ⟨zs, rfl, h1, h2⟩⟩
      · refine ifDn hm0 ?_
        refine we_cs 0 c4 ‹Room _ _› (by decide) rfl rfl (by first | exact .inl rfl | exact .inr (.inl rfl) | exact .inr (.inr rfl)) rfl rfl ?_
        repeat walk_at "k"
        exact ⟨hfl, fun zs h1 h2 => ⟨zs, rfl, h1, fun z hz => hls.mem_iff.mp (h2 z hz)⟩⟩
    · refine ifDn h0 ?_
      refine we_cs 0 c4 ‹Room _ _› (by decide) rfl rfl (by first | exact .inl rfl | exact .inr (.inl rfl) | exact .inr (.inr rfl)) rfl rfl ?_
      repeat walk_at "k"
      exact ⟨hfl, fun zs h1 h2 => ⟨zs, rfl, h1, fun z hz => hls.mem_iff.mp (h2 z hz)⟩⟩
  rw [strs_len] at hl
  obtain ⟨lots, rfl, hll, hlot⟩ := acc_of (l := labels) (R := fun (_ : Str) (zs : List Str) => IsLot zs ∧ ∀ z ∈ zs, z ∈ pool) (g := wt) hl fun i y a h1 _ => ha i y h1
  repeat walk_at "k"
  refine we_lc [("_law_k", 7)] rfl nd (blkOk_by (own := [("_law_k", 7)]) (N := NTm) (sc := C8.fnScope (top 72)) (by decide +kernel)) (wlc_M (x_range ‹Txt _ _› rfl rfl ?_))
  repeat walk_at "k"
  refine ⟨by omega, by rw [strs_len]; omega, by rw [rangeW_len, strs_len]; exact line6 (by omega), fun i _ => (labels[i]?).elim .non fun q => (lots[i]?).elim .non fun zs => wWord (q, zs), fun i d hd Dd => ?_, ?_⟩
  · obtain ⟨hi, rfl⟩ := rangeW_get hd
    have hi : i < labels.length := by rw [strs_len] at hi; omega
    obtain ⟨q, hq⟩ : ∃ q, labels[i]? = some q := ⟨_, List.getElem?_eq_getElem hi⟩
    obtain ⟨zs, hz⟩ : ∃ zs, lots[i]? = some zs := ⟨_, List.getElem?_eq_getElem (by omega)⟩
    refine fam_i fun _ _ _ _ _ => ?_
    walk_at "k"
    refine fam_i fun _ _ _ _ _ => ?_
    repeat walk_at "k"
    refine ixL_i i rfl (by rw [List.getElem?_map, hq]; rfl) ?_
    repeat walk_at "k"
    refine ixL_i i rfl (by rw [List.getElem?_map, hz]; rfl) ?_
    repeat walk_at "k"
    show W.tup [.str q, wt zs] = (labels[i]?).elim .non fun q => (lots[i]?).elim .non fun zs => wWord (q, zs)
    rw [hq, hz]
    rfl
  have e : (rangeW (((labels.map W.str).length : Nat) : Int).toNat).mapIdx (fun i _ => (labels[i]?).elim W.non fun q => (lots[i]?).elim W.non fun zs => wWord (q, zs)) = (labels.zip lots).map wWord := by
    rw [Int.toNat_natCast, strs_len]
    exact range_zip hll
  rw [e]
  refine p _ ⟨fun q hq => ?_, ?_, ?_⟩ ?_
  · obtain ⟨m1, m2⟩ := List.of_mem_zip hq
    obtain ⟨i, hi⟩ := List.mem_iff_getElem?.mp m2
    have hlt : i < lots.length := by
      by_cases q : i < lots.length
      · exact q
      · rw [List.getElem?_eq_none (by omega)] at hi; cases hi
    have := hlot i _ _ (List.getElem?_eq_getElem (by omega)) hi
    exact ⟨hnm _ m1, this.1, this.2⟩
  · rw [List.map_fst_zip (by omega)]; exact hnd
  · rw [List.length_zip]; omega
  · rw [List.length_zip]; omega
end
/-! PE6 -/
/-! ### the law's stock -/
section
variable {P : Program} {w : World} {K : PySem.W.Frag} {mg : Str → Option Value} {base : Heap}
abbrev fStock : DSpec := fun ws P => ∃ (tags sorts : List Str), ws = [wl tags, wl sorts] ∧ tags ≠ [] ∧ tags.length ≤ 12 ∧ sorts.Nodup ∧ sorts.length ≤ 10 ∧ ∀ hs : List Hol, hs.map (·.1) = tags → (∀ h ∈ hs, h.2.Nodup ∧ ∀ z ∈ h.2, z ∈ sorts) → P (.lst (hs.map hL))
abbrev NSt : List Str := ["_law_state", "_law_tags", "_law_sorts", "_law_held", "_law_sort_z", "_law_k", "_law_some", "_law_row", "_law_tag"]
theorem sc_law_stock : FnScope NSt ["_law_state", "_law_tags", "_law_sorts"] (C8.fnScope (top 71)) := C8.fnScope_by (by decide +kernel)
abbrev cSt (st' : Addr × Addr) (ex : List Addr) (T' : List (Addr × Str)) (tags sorts : List Str) (as : List Addr) (r4 r5 r6 r7 : Option Th) (kss : List (List Str)) : Cn := ⟨[some (.adr st'.1), some (.dat (wl tags)), some (.dat (wl sorts)), some (refsTh as), r4, r5, r6, r7, none], muL as (kss.map fun ks => ks.map W.str), some st', ex, T'⟩
theorem ok_law_stock (G : GDef K mg "_law_stock" (top 71)) (T : Txt K mg) (c1 : C8.Cal P w K mg base 1 "_law_draw" (spS fDraw) []) (c2 : C8.Cal P w K mg base 2 "_law_pick" (spS fPick) []) : C8.Cal P w K mg base 3 "_law_stock" (spS fStock) [] := by
  have nd := sc_law_stock.nd
  refine cal_S G sc_law_stock (fun _ _ _ _ _ _ us hl => match us, hl with | [_, _, _], _ => rfl) (fun ws P ⟨n, m, e, _⟩ => by rw [e]; rfl) (by simp) fun f cdv A outer s H E st' ex T' ws P' hr h => ?_
  obtain ⟨tags, sorts, rfl, hne, h12, hsn, h10, p⟩ := h
  have hpos : 0 < tags.length := List.length_pos_iff.mpr hne
  refine wss_cons (ws_newlls 3 [("_law_tag", 8)] 8 rfl nd (blkOk_by (own := [("_law_tag", 8)]) (N := NSt) (sc := C8.fnScope (top 71)) (by decide +kernel)) rfl (by first | exact .inl rfl | exact .inr rfl) (by first | exact .inl rfl | exact .inr rfl) (by decide) (fun _ _ _ _ _ v σ H Q q => ⟨_, pg_name (i := 8) nd rfl (.inl rfl) (.inr rfl), q⟩) (x_iterL ?_) rfl)
  repeat walk_at "k"
  refine ⟨by rw [strs_len]; omega, fun as has => ?_⟩
  rw [strs_len] at has
  have e0 : (⟨((some (Th.adr st'.1) :: rho0 NSt.tail [wl tags, wl sorts]).set 3 (some (refsTh as))), muL as (List.replicate (tags.map W.str).length []) ++ [], some st', ex, T'⟩ : Cn) = cSt st' ex T' tags sorts as none none none none (List.replicate tags.length []) := by
    rw [List.append_nil, strs_len]
    unfold cSt
    rw [List.map_replicate]
    rfl
  refine (congrArg (fun c => WSs (bx P w K mg base NSt "_law_stock" (top 71) f cdv A outer s H E) c ((C8.fnBody (top 71)).drop 1) (fun _ => P' .non) P') e0).mpr ?_
  refine wss_cons (ws_for [4] PassesOwn.never rfl (x_iterL ?_))
  repeat walk_at "k"
  refine ⟨fun i c1 => ∃ (r4 r5 r6 r7 : Option Th) (kss : List (List Str)), kss.length = tags.length ∧ (∀ ks ∈ kss, ks.Nodup ∧ ∀ z ∈ ks, z ∈ sorts.take i) ∧ c1 = cSt st' ex T' tags sorts as r4 r5 r6 r7 kss, ⟨_, _, _, _, _, List.length_replicate, fun ks hk => ?_, rfl⟩, fun i c1' d hd ⟨r4, r5, r6, r7, kss, hkl, hks, e⟩ => ?_, fun c1' ⟨r4, r5, r6, r7, kss, hkl, hks, e⟩ => ?_⟩
  · rw [(List.mem_replicate.mp hk).2]
    exact ⟨List.nodup_nil, fun _ h => nomatch h⟩
  · subst e
    obtain ⟨z, hz, rfl⟩ := strs_get hd
    have hi10 : i < sorts.length := by
      by_cases q : i < sorts.length
      · exact q
      · rw [List.getElem?_eq_none (by omega)] at hz; cases hz
    have hzn : z ∉ sorts.take i := not_before hsn hz
    walk_at "k"
    refine wss_cons (vs_setLc 6 [("_law_k", 5)] rfl nd rfl rfl (sw_true rfl rfl rfl (by decide +kernel)) (blkOk_by (own := [("_law_k", 5)]) (N := NSt) (sc := C8.fnScope (top 71)) (by decide +kernel)) (wlc_A (x_range ‹Txt _ _› rfl rfl ?_)))
    repeat walk_at "k"
    refine ⟨by simp, by decide, fun d hd => ?_⟩
    obtain ⟨b, hb, rfl⟩ : ∃ b : Nat, b ≤ 5 ∧ d = .int (b : Int) := by
      simp only [List.mem_cons, List.mem_nil_iff, or_false] at hd
      rcases hd with rfl | rfl | rfl | rfl | rfl | rfl
      all_goals exact ⟨_, by decide, rfl⟩
    repeat walk_at "k"
    refine ⟨by omega, by omega, by rw [rangeW_len]; exact line6 (by omega), fun _ y => ∃ b : Nat, y = .int (b : Int), fun j d hd Dd => ?_, fun acc hl ha => ?_⟩
    · obtain ⟨hj, rfl⟩ := rangeW_get hd
      refine fam_i fun _ _ _ _ _ => ?_
      walk_at "k"
      refine fam_i fun _ _ _ _ _ => ?_
      repeat walk_at "k"
      rw [strs_len]
      exact ⟨by omega, by omega, fun m hm => ⟨m, rfl⟩⟩
    obtain ⟨bs, rfl⟩ := ints_of ha
    have eis : bs.map (fun b : Nat => W.int (b : Int)) = (bs.map fun b : Nat => (b : Int)).map W.int := by rw [List.map_map]; rfl
    rw [eis]
    generalize bs.map (fun b : Nat => (b : Int)) = is
    refine wss_cons (ws_for [5] PassesOwn.never rfl (x_range ‹Txt _ _› rfl rfl ?_))
    repeat walk_at "k"
    rw [strs_len]
    refine ⟨by omega, by omega, fun k c2 => ∃ (r5 r7 : Option Th) (kss : List (List Str)), kss.length = tags.length ∧ (∀ (j : Nat) ks, kss[j]? = some ks → ks.Nodup ∧ ∀ y ∈ ks, y ∈ sorts.take i ∨ (y = z ∧ j < k)) ∧ c2 = cSt st' ex T' tags sorts as (some (.dat (.str z))) r5 (some (.dat (.lst (is.map W.int)))) r7 kss, ⟨_, _, kss, hkl, fun j ks hj => ⟨(hks ks (List.mem_of_getElem? hj)).1, fun y hy => .inl ((hks ks (List.mem_of_getElem? hj)).2 y hy)⟩, rfl⟩, fun k c2 d hd ⟨r5, r7, kss, hkl, hks, e⟩ => ?_, fun c2 ⟨r5, r7, kss, hkl, hks, e⟩ => ?_⟩
    · subst e
      obtain ⟨hk, rfl⟩ := rangeW_get hd
      have hk : k < tags.length := by omega
      obtain ⟨ks, hks0⟩ : ∃ ks, kss[k]? = some ks := ⟨_, List.getElem?_eq_getElem (by omega)⟩
      obtain ⟨a, ha0⟩ : ∃ a, as[k]? = some a := ⟨_, List.getElem?_eq_getElem (by omega)⟩
      have hk0 := hks k ks hks0
      have hkz : z ∉ ks := fun m => (hk0.2 z m).elim hzn fun h => absurd h.2 (Nat.lt_irrefl _)
      have keep : ∀ (j : Nat) ks, kss[j]? = some ks → ks.Nodup ∧ ∀ y ∈ ks, y ∈ sorts.take i ∨ (y = z ∧ j < k + 1) := fun j ks hj => ⟨(hks j ks hj).1, fun y hy => ((hks j ks hj).2 y hy).imp id fun h => ⟨h.1, by omega⟩⟩
      have hkl10 : ks.length ≤ 10 := by
        have := nodup_le hk0.1 (U := sorts) fun y hy => (hk0.2 y hy).elim (fun h => List.mem_of_mem_take h) fun h => absurd h.2 (Nat.lt_irrefl _)
        omega
      repeat walk_at "k"
      by_cases hm : ((k : Nat) : Int) ∈ is
      · refine ifD hm ?_
        obtain ⟨m1, m2, em1, em2⟩ := muL_at (wss := kss.map fun ks => ks.map W.str) (ws := ks.map W.str) ha0 (by rw [List.getElem?_map, hks0]; rfl)
        refine wss_cons (ws_refs 3 7 nd rfl (by first | exact .inl rfl | exact .inr (.inl rfl) | exact .inr (.inr rfl)) rfl (by first | exact .inl rfl | exact .inr rfl) (by first | exact .inl rfl | exact .inr rfl) rfl rfl (fun _ _ => rfl) ?_)
        repeat walk_at "k"
        refine ⟨k, a, rfl, ha0, ?_⟩
        refine wss_cons (ws_insert (l := a) 7 rfl (by first | exact .inl rfl | exact .inr (.inl rfl) | exact .inr (.inr rfl)) rfl em1 ?_ (fun a b d => ps_expr (pe_bm PySem.F.plainAttrs_list PySem.F.slot_list_insert PySem.F.type_list_insert mt_insert a (pa_cons b (pa_cons d pa_nil)))))
        walk_at "x"
        refine wa_cons (xe_add (xe_lenMu (l := a) (ws := ks.map W.str) 7 ‹Txt _ _› rfl rfl (by first | exact .inl rfl | exact .inr (.inl rfl) | exact .inr (.inr rfl)) rfl ?_ rfl ?_))
        · show (a, Mu.lst (ks.map W.str)) ∈ muL as (kss.map fun ks => ks.map W.str)
          rw [em1]
          simp
        repeat walk_at "k"
        rw [strs_len]
        refine ⟨by omega, by omega, fun q hq => ?_⟩
        refine we_name 4 rfl (by first | exact .inl rfl | exact .inr (.inl rfl) | exact .inr (.inr rfl)) rfl ?_
        refine ⟨q, rfl, by omega, line6 (by omega), ?_⟩
        refine wss_nil ?_
        refine wss_nil ?_
        have e3 : muL as ((kss.set k (ks.take q ++ [z] ++ ks.drop q)).map fun ks => ks.map W.str) = m1 ++ (a, .lst ((ks.map W.str).take q ++ [.str z] ++ (ks.map W.str).drop q)) :: m2 := by
          rw [List.map_set, em2, List.map_append, List.map_append, List.map_take, List.map_drop]
          rfl
        refine ⟨some (.dat (.int (k : Int))), some (.adr a), kss.set k (ks.take q ++ [z] ++ ks.drop q), by rw [List.length_set]; exact hkl, fun j ks' hj => ?_, ?_⟩
        · by_cases ejk : k = j
          · subst ejk
            rw [List.getElem?_set_self (by omega)] at hj
            cases hj
            have pm : (ks.take q ++ [z] ++ ks.drop q).Perm (z :: ks) := by
              have e1 : ks.take q ++ [z] ++ ks.drop q = ks.take q ++ z :: ks.drop q := by rw [List.append_assoc]; rfl
              rw [e1]
              refine List.perm_middle.trans ?_
              rw [List.take_append_drop]
            refine ⟨pm.nodup_iff.mpr (List.nodup_cons.mpr ⟨hkz, hk0.1⟩), fun y hy => ?_⟩
            rcases List.mem_cons.mp (pm.mem_iff.mp hy) with h | h
            · exact .inr ⟨h, Nat.lt_succ_self _⟩
            · exact .inl ((hk0.2 y h).elim id fun h => absurd h.2 (Nat.lt_irrefl _))
          · rw [List.getElem?_set_ne ejk] at hj
            exact keep j ks' hj
        · show (⟨_, m1 ++ _ :: m2, _, _, _⟩ : Cn) = ⟨_, muL as _, _, _, _⟩
          rw [e3]
          rfl
      · refine ifDn hm ?_
        refine wss_nil ?_
        exact wss_nil ⟨_, _, kss, hkl, keep, rfl⟩
    · subst e
      refine wss_nil ?_
      refine ⟨_, _, _, _, kss, hkl, fun ks hm => ?_, rfl⟩
      obtain ⟨j, hj⟩ := List.mem_iff_getElem?.mp hm
      have := hks j ks hj
      refine ⟨this.1, fun y hy => ?_⟩
      rw [List.take_add_one, hz]
      rcases this.2 y hy with h | h
      · exact List.mem_append_left _ h
      · exact List.mem_append_right _ (by rw [h.1]; simp)
  · subst e
    rw [strs_len] at hks
    rw [List.take_length] at hks
    refine v_freezeL 3 rfl (by rw [List.length_map, hkl]; exact has) ?_
    refine wss_cons (ws_ret (we_lc [("_law_k", 5)] rfl nd (blkOk_by (own := [("_law_k", 5)]) (N := NSt) (sc := C8.fnScope (top 71)) (by decide +kernel)) (wlc_M (x_range ‹Txt _ _› rfl rfl ?_))))
    repeat walk_at "k"
    refine ⟨by omega, by rw [strs_len]; omega, by rw [rangeW_len, strs_len]; exact line6 (by omega), fun i _ => (tags[i]?).elim .non fun q => (kss[i]?).elim .non fun zs => hL (q, zs), fun i d hd Dd => ?_, ?_⟩
    · obtain ⟨hi, rfl⟩ := rangeW_get hd
      have hi : i < tags.length := by rw [strs_len] at hi; omega
      obtain ⟨q, hq⟩ : ∃ q, tags[i]? = some q := ⟨_, List.getElem?_eq_getElem hi⟩
      obtain ⟨zs, hz⟩ : ∃ zs, kss[i]? = some zs := ⟨_, List.getElem?_eq_getElem (by omega)⟩
      refine fam_i fun _ _ _ _ _ => ?_
      walk_at "k"
      refine fam_i fun _ _ _ _ _ => ?_
      repeat walk_at "k"
      refine ixL_i i rfl (by rw [List.getElem?_map, hq]; rfl) ?_
      repeat walk_at "k"
      refine ixL_i i rfl (by rw [List.getElem?_map, List.getElem?_map, hz]; rfl) ?_
      repeat walk_at "k"
      show W.tup [.str q, wl zs] = (tags[i]?).elim .non fun q => (kss[i]?).elim .non fun zs => hL (q, zs)
      rw [hq, hz]
      rfl
    have e : (rangeW (((tags.map W.str).length : Nat) : Int).toNat).mapIdx (fun i _ => (tags[i]?).elim W.non fun q => (kss[i]?).elim W.non fun zs => hL (q, zs)) = (tags.zip kss).map hL := by
      rw [Int.toNat_natCast, strs_len]
      exact range_zip hkl
    rw [e]
    exact p _ (List.map_fst_zip (by omega)) fun h hm => hks _ (List.of_mem_zip hm).2
end
/-! PE7 -/
/-! ### the law's equality, at equal data -/
def Sm : Nat → W → Prop
  | 0, w => (∃ z, w = .str z) ∨ ∃ b, w = .bl b
  | n + 1, w => (∃ z, w = .str z) ∨ (∃ b, w = .bl b) ∨ ∃ ws : List W, (w = .lst ws ∨ w = .tup ws) ∧ ws.length ≤ 1000 ∧ ∀ x ∈ ws, Sm n x
theorem Sm.cases {n : Nat} {w : W} (h : Sm n w) : (∃ z, w = .str z) ∨ (∃ b, w = .bl b) ∨ ∃ (m : Nat) (ws : List W), n = m + 1 ∧ (w = .lst ws ∨ w = .tup ws) ∧ ws.length ≤ 1000 ∧ ∀ x ∈ ws, Sm m x := by
  cases n with
  | zero => exact h.elim .inl fun h => .inr (.inl h)
  | succ n => exact h.elim .inl fun h => .inr (h.elim .inl fun ⟨ws, h⟩ => .inr ⟨n, ws, rfl, h⟩)
theorem Sm.str (n : Nat) (z : Str) : Sm n (.str z) := by cases n <;> exact .inl ⟨z, rfl⟩
theorem Sm.bl (n : Nat) (b : Bool) : Sm n (.bl b) := by
  cases n with
  | zero => exact .inr ⟨b, rfl⟩
  | succ n => exact .inr (.inl ⟨b, rfl⟩)
theorem Sm.lst {n : Nat} {ws : List W} (hl : ws.length ≤ 1000) (h : ∀ x ∈ ws, Sm n x) : Sm (n + 1) (.lst ws) := .inr (.inr ⟨ws, .inl rfl, hl, h⟩)
theorem Sm.tup {n : Nat} {ws : List W} (hl : ws.length ≤ 1000) (h : ∀ x ∈ ws, Sm n x) : Sm (n + 1) (.tup ws) := .inr (.inr ⟨ws, .inr rfl, hl, h⟩)
structure SmP (n : Nat) (w : W) : Prop where
  ok : Sm n w
section
variable {P : Program} {w : World} {K : PySem.W.Frag} {mg : Str → Option Value} {base : Heap}
abbrev fSame (n : Nat) : DSpec := fun ws P => ∃ d, ws = [d, d] ∧ SmP n d ∧ P (.bl true)
abbrev NSm : List Str := ["_law_got", "_law_due", "_law_k"]
theorem sc_law_same : FnScope NSm ["_law_got", "_law_due"] (C8.fnScope (top 63)) := C8.fnScope_by (by decide +kernel)
theorem ok_law_same_step (n : Nat) (G : GDef K mg "_law_same" (top 63)) (T : Txt K mg) (cs : ∀ m, n = m + 1 → C8.Cal P w K mg base n "_law_same" (spD (fSame m)) []) : C8.Cal P w K mg base (n + 1) "_law_same" (spD (fSame n)) [] := by
  have nd := sc_law_same.nd
  refine cal_D G sc_law_same (fun _ _ _ _ _ _ us hl => match us, hl with | [_, _], _ => rfl) (fun ws P ⟨rs, e, _⟩ => by rw [e]; rfl) fun f cdv A outer s H E ex T' ws P' hr h => ?_
  obtain ⟨d, rfl, hd, p⟩ := h
  rcases hd.ok.cases with ⟨z, rfl⟩ | ⟨b, rfl⟩ | ⟨m, ds, hn, h1, h2, h3⟩
  · repeat walk_at "k"
    show P' (.bl (decide (z = z)))
    rw [decide_eq_true rfl]
    exact p
  · repeat walk_at "k"
    show P' (.bl (decide (b = b)))
    rw [decide_eq_true rfl]
    exact p
  · have c1 := cs m hn
    rcases h1 with rfl | rfl
    · repeat walk_at "k"
      refine ifD rfl ?_
      repeat walk_at "k"
      refine we_lc [("_law_k", 2)] rfl nd (blkOk_by (own := [("_law_k", 2)]) (N := NSm) (sc := C8.fnScope (top 63)) (by decide +kernel)) (wlc_M (x_range ‹Txt _ _› rfl rfl ?_))
      repeat walk_at "k"
      refine ⟨by omega, by omega, by rw [rangeW_len]; exact line6 (by omega), fun _ _ => .bl true, fun i d hd Dd => ?_, _, bls_const, ?_⟩
      · obtain ⟨hi, rfl⟩ := rangeW_get hd
        have hi : i < ds.length := by omega
        have hx := List.getElem?_eq_getElem hi
        refine fam_i fun _ _ _ _ _ => ?_
        walk_at "k"
        refine fam_i fun _ _ _ _ _ => ?_
        refine we_c c1 ‹Room _ _› (Nat.le_refl _) rfl ?_
        repeat walk_at "k"
        refine ixL_i i rfl hx ?_
        repeat walk_at "k"
        refine ixL_i i rfl hx ?_
        repeat walk_at "k"
        exact ⟨⟨h3 _ (List.getElem_mem hi)⟩, rfl⟩
      rw [all_rep]
      repeat walk_at "k"
      exact p
    · repeat walk_at "k"
      refine ifD rfl ?_
      repeat walk_at "k"
      refine we_lc [("_law_k", 2)] rfl nd (blkOk_by (own := [("_law_k", 2)]) (N := NSm) (sc := C8.fnScope (top 63)) (by decide +kernel)) (wlc_M (x_range ‹Txt _ _› rfl rfl ?_))
      repeat walk_at "k"
      refine ⟨by omega, by omega, by rw [rangeW_len]; exact line6 (by omega), fun _ _ => .bl true, fun i d hd Dd => ?_, _, bls_const, ?_⟩
      · obtain ⟨hi, rfl⟩ := rangeW_get hd
        have hi : i < ds.length := by omega
        have hx := List.getElem?_eq_getElem hi
        refine fam_i fun _ _ _ _ _ => ?_
        walk_at "k"
        refine fam_i fun _ _ _ _ _ => ?_
        refine we_c c1 ‹Room _ _› (Nat.le_refl _) rfl ?_
        repeat walk_at "k"
        refine ixT_i i rfl hx ?_
        repeat walk_at "k"
        refine ixT_i i rfl hx ?_
        repeat walk_at "k"
        exact ⟨⟨h3 _ (List.getElem_mem hi)⟩, rfl⟩
      rw [all_rep]
      repeat walk_at "k"
      exact p
/-- to the depth n -/
theorem ok_law_same (G : GDef K mg "_law_same" (top 63)) (T : Txt K mg) : ∀ n, C8.Cal P w K mg base (n + 1) "_law_same" (spD (fSame n)) []
  | 0 => ok_law_same_step 0 G T fun m h => by omega
  | n + 1 => ok_law_same_step (n + 1) G T fun m h => by
    have e : n = m := by omega
    subst e
    exact ok_law_same G T n
end
/-! PE8 -/
/-! ### the law's drawn rows -/
theorem slw_to {ls : List Str} {k : Nat} {P : W → Prop} (h : P (wl (ls.take k))) : SlW (wl ls) none (some (k : Int)) P := by
  show P (.lst (cutL (ls.map W.str) none (some (k : Int))))
  rw [cutL_to, ← List.map_take]
  exact h
theorem keys_of {α β : Type} {k : β → α} {l : List α} {bs : List β} (hl : bs.length = l.length) (h : ∀ (i : Nat) (a : α) (b : β), l[i]? = some a → bs[i]? = some b → k b = a) : bs.map k = l := by
  refine List.ext_getElem? fun i => ?_
  rw [List.getElem?_map]
  by_cases hi : i < l.length
  · have h1 := List.getElem?_eq_getElem hi
    have h2 := List.getElem?_eq_getElem (l := bs) (i := i) (by omega)
    rw [h2]
    show some (k bs[i]) = _
    rw [h i _ _ h1 h2, h1]
  · rw [List.getElem?_eq_none (by omega), List.getElem?_eq_none (by omega)]
    rfl
section
variable {P : Program} {w : World} {K : PySem.W.Frag} {mg : Str → Option Value} {base : Heap}
abbrev fDrawn : DSpec := fun ws P => ∃ (form : Str) (mz : Bool), ws = [.str form, .bl mz] ∧ ((form = "table" ∧ ∀ hs U, IsTab hs U → P (wrs (hs.map hRow))) ∨ (form = "book" ∧ ∀ fs qs, IsLot fs → fs.length ≤ 12 → IsWords fs qs → P (wrs (bookRows fs qs))) ∨ (form = "facts" ∧ ∀ ms, IsMarks ms → P (wrs (ms.map fRow))))
abbrev NDr : List Str := ["_law_state", "_law_form", "_law_many_z", "_law_pool", "_law_labels", "_law_label"]
theorem sc_law_drawn_rows : FnScope NDr ["_law_state", "_law_form", "_law_many_z"] (C8.fnScope (top 75)) := C8.fnScope_by (by decide +kernel)
theorem ok_law_drawn_rows (G : GDef K mg "_law_drawn_rows" (top 75)) (T : Txt K mg) (c1 : C8.Cal P w K mg base 1 "_law_draw" (spS fDraw) []) (c2 : C8.Cal P w K mg base 3 "_law_names" (spS fNames) []) (c3 : C8.Cal P w K mg base 3 "_law_stock" (spS fStock) []) (c4 : C8.Cal P w K mg base 4 "_law_terms" (spS fTerms) []) (c5 : C8.Cal P w K mg base 3 "_law_fact" (spS fFact) [])
    (d1 : C8.Cal P w K mg base 1 "_law_table_rows" (spD fTableRows) []) (d2 : C8.Cal P w K mg base 1 "_law_book_rows" (spD fBookRows) []) (d3 : C8.Cal P w K mg base 1 "_law_fact_rows" (spD fFactRows) []) : C8.Cal P w K mg base 5 "_law_drawn_rows" (spS fDrawn) [] := by
  have nd := sc_law_drawn_rows.nd
  refine cal_S G sc_law_drawn_rows (fun _ _ _ _ _ _ us hl => match us, hl with | [_, _, _], _ => rfl) (fun ws P ⟨n, m, e, _⟩ => by rw [e]; rfl) (by simp) fun f cdv A outer s H E st' ex T' ws P' hr h => ?_
  obtain ⟨form, mz, rfl, hform⟩ := h
  refine wss_cons (vs_set 3 nd rfl (by first | exact .inl rfl | exact .inr rfl) (by first | exact .inl rfl | exact .inr rfl) rfl (WE.mono (P := fun w => ∃ ns, w = wl ns ∧ IsFinds ns) ?_ fun w ⟨pool, e, hf⟩ => ?_))
  · refine we_cs 0 c2 ‹Room _ _› (by decide) rfl rfl (by first | exact .inl rfl | exact .inr (.inl rfl) | exact .inr (.inr rfl)) rfl rfl ?_
    refine wa_cons (WE.mono (P := fun w => ∃ n : Nat, w = .int (n : Int) ∧ 0 < n ∧ n ≤ 12) ?_ fun w ⟨n, e, h0, h12⟩ => ?_)
    · cases mz with
      | true =>
        repeat walk_at "k"
        refine ⟨by decide, by decide, fun k hk => ?_⟩
        dsimp only
        repeat walk_at "k"
        by_cases hk0 : (k : Int) = 0
        · refine ifD hk0 ?_
          exact we_int ⟨12, rfl, by decide, by decide⟩
        · refine ifDn hk0 ?_
          repeat walk_at "k"
          refine ⟨by decide, by decide, fun m hm => ?_⟩
          show ∃ n : Nat, W.int (1 + (m : Int)) = .int (n : Int) ∧ 0 < n ∧ n ≤ 12
          exact ⟨1 + m, by rw [Int.natCast_add]; rfl, by omega, by omega⟩
      | false =>
        repeat walk_at "k"
        refine ⟨by decide, by decide, fun m hm => ?_⟩
        show ∃ n : Nat, W.int (1 + (m : Int)) = .int (n : Int) ∧ 0 < n ∧ n ≤ 12
        exact ⟨1 + m, by rw [Int.natCast_add]; rfl, by omega, by omega⟩
    · subst e
      refine wa_nil ⟨n, rfl, by omega, fun ns h1 h2 h3 => ⟨ns, rfl, h2, h3, fun e => by rw [e] at h1; simp at h1; omega, by omega⟩⟩
  subst e
  refine wss_cons (vs_set 4 nd rfl (by first | exact .inl rfl | exact .inr rfl) (by first | exact .inl rfl | exact .inr rfl) rfl (WE.mono (P := fun w => ∃ ls, w = wl ls ∧ Nms ls ∧ ls.Nodup ∧ ls.length ≤ 40) ?_ fun w ⟨ls, e, hl1, hl2, hl3⟩ => ?_))
  · refine we_cs 0 c2 ‹Room _ _› (by decide) rfl rfl (by first | exact .inl rfl | exact .inr (.inl rfl) | exact .inr (.inr rfl)) rfl rfl ?_
    repeat walk_at "k"
    by_cases hb : form = "book"
    · refine ifD hb ?_
      exact we_int (wa_nil ⟨40, rfl, by decide, fun ns h1 h2 h3 => ⟨ns, rfl, h2, h3, by omega⟩⟩)
    · refine ifDn hb ?_
      exact we_int (wa_nil ⟨30, rfl, by decide, fun ns h1 h2 h3 => ⟨ns, rfl, h2, h3, by omega⟩⟩)
  subst e
  have tk1 : ∀ k, Nms (ls.take k) := fun k z hz => hl1 z (List.mem_of_mem_take hz)
  have tk2 : ∀ k, (ls.take k).Nodup := fun k => hl2.sublist (List.take_sublist _ _)
  rcases hform with ⟨rfl, p⟩ | ⟨rfl, p⟩ | ⟨rfl, p⟩
  · repeat walk_at "k"
    refine we_c d1 ‹Room _ _› (by decide) rfl (wa_cons (we_cs 0 c3 ‹Room _ _› (by decide) rfl rfl (by first | exact .inl rfl | exact .inr (.inl rfl) | exact .inr (.inr rfl)) rfl rfl ?_))
    refine wa_cons ?_
    walk_at "n"
    refine wa_cons (WE.mono (P := fun w => ∃ k, k ≤ 10 ∧ w = wl (ls.take k)) ?_ fun w ⟨k, hk, e⟩ => ?_)
    · refine xe_sl ?_
      repeat walk_at "k"
      cases mz with
      | true =>
        repeat walk_at "k"
        exact slw_to (k := 10) ⟨10, by decide, rfl⟩
      | false =>
        repeat walk_at "k"
        refine ⟨by decide, by decide, fun m hm => ?_⟩
        refine int_i (slw_to (k := m) ?_)
        exact ⟨m, by omega, rfl⟩
    subst e
    have htl : (ls.take k).length ≤ 10 := by rw [List.length_take]; omega
    refine wa_nil ⟨pool, ls.take k, rfl, hf.ne, hf.len, tk2 k, htl, fun hs h1 h2 => ?_⟩
    refine wa_nil ⟨hs, ls.take k, rfl, ⟨fun h hm => ?_, by rw [h1]; exact hf.nd, fun e => ?_, ?_, fun h hm => (h2 h hm).2, htl⟩, fun hs' h => p hs' _ h⟩
    · have h3 := h2 h hm
      have h4 := nodup_le h3.1 h3.2
      exact ⟨hf.nm _ (by rw [← h1]; exact List.mem_map.mpr ⟨h, hm, rfl⟩), fun z hz => tk1 k z (h3.2 z hz), h3.1, by omega⟩
    · rw [e] at h1
      exact hf.ne h1.symm
    · have h3 := congrArg List.length h1
      rw [List.length_map] at h3
      have := hf.len
      omega
  · repeat walk_at "k"
    refine we_c d2 ‹Room _ _› (by decide) rfl ?_
    refine wa_cons ?_
    walk_at "n"
    refine wa_cons (we_cs 0 c4 ‹Room _ _› (by decide) rfl rfl (by first | exact .inl rfl | exact .inr (.inl rfl) | exact .inr (.inr rfl)) rfl rfl ?_)
    refine wa_cons (WE.mono (P := fun w => ∃ k, k ≤ 40 ∧ w = wl (ls.take k)) ?_ fun w ⟨k, hk, e⟩ => ?_)
    · refine xe_sl ?_
      repeat walk_at "k"
      cases mz with
      | true =>
        repeat walk_at "k"
        exact slw_to (k := 40) ⟨40, by decide, rfl⟩
      | false =>
        repeat walk_at "k"
        refine ⟨by decide, by decide, fun m hm => ?_⟩
        refine int_i (slw_to (k := m) ?_)
        exact ⟨m, by omega, rfl⟩
    subst e
    refine wa_cons ?_
    walk_at "n"
    refine wa_nil ⟨ls.take k, pool, rfl, hf, tk1 k, tk2 k, by rw [List.length_take]; omega, fun qs hq _ => ?_⟩
    refine wa_nil ⟨pool, qs, rfl, hf, hq, fun fs p1 p2 => p fs qs ⟨fun z hz => hf.nm z (p1.mem_iff.mp hz), p2, fun e => hf.ne (by rw [e] at p1; exact p1.symm.eq_nil), ?_⟩ ?_ ⟨fun q hm => ⟨(hq.wd q hm).nm, (hq.wd q hm).lot, fun z hz => p1.mem_iff.mpr ((hq.wd q hm).sub z hz)⟩, hq.nd, hq.len⟩⟩
    · have := hf.len
      rw [p1.length_eq]
      omega
    · have := hf.len
      rw [p1.length_eq]
      omega
  · repeat walk_at "k"
    refine we_c d3 ‹Room _ _› (by decide) rfl (wa_cons (we_lc [("_law_label", 5)] rfl nd (blkOk_by (own := [("_law_label", 5)]) (N := NDr) (sc := C8.fnScope (top 75)) (by decide +kernel)) (wlc_A (x_iterL (WE.mono (P := fun w => ∃ k, k ≤ 30 ∧ w = wl (ls.take k)) ?_ fun w ⟨k, hk, e⟩ => ?_)))))
    · refine xe_sl ?_
      repeat walk_at "k"
      cases mz with
      | true =>
        repeat walk_at "k"
        exact slw_to (k := 30) ⟨30, by decide, rfl⟩
      | false =>
        repeat walk_at "k"
        refine ⟨by decide, by decide, fun m hm => ?_⟩
        refine int_i (slw_to (k := m) ?_)
        exact ⟨m, by omega, rfl⟩
    subst e
    have htl : (ls.take k).length ≤ 30 := by rw [List.length_take]; omega
    repeat walk_at "k"
    refine ⟨by rw [strs_len]; exact line6 (by omega), fun i y => ∃ m : Str × List Str, (ls.take k)[i]? = some m.1 ∧ y = wWord m ∧ IsFact m.2, fun i d hd Dd => ?_, fun acc hl ha => ?_⟩
    · obtain ⟨z, hz, rfl⟩ := strs_get hd
      refine fam_i fun _ _ _ _ _ => ?_
      walk_at "k"
      refine fam_i fun _ _ _ _ _ => ?_
      repeat walk_at "k"
      refine we_cs 0 c5 ‹Room _ _› (by decide) rfl rfl (by first | exact .inl rfl | exact .inr (.inl rfl) | exact .inr (.inr rfl)) rfl rfl ?_
      repeat walk_at "k"
      refine ⟨hf, fun fc hfc => ?_⟩
      exact wa_nil ⟨lit_line rfl, (z, fc), hz, rfl, hfc⟩
    rw [strs_len] at hl
    obtain ⟨ms, rfl, hml, hm⟩ := acc_of (R := fun (a : Str) (b : Str × List Str) => b.1 = a ∧ IsFact b.2) (g := wWord) hl fun i y a h1 h2 => by
      obtain ⟨m, h3, h4, h5⟩ := ha i y h1
      rw [h2] at h3
      cases h3
      exact ⟨m, h4, rfl, h5⟩
    have em := keys_of (k := fun b : Str × List Str => b.1) hml fun i a b h1 h2 => (hm i a b h1 h2).1
    refine wa_nil ⟨ms, rfl, ⟨fun m hmm => ?_, by rw [em]; exact tk2 k, by omega⟩, p ms ⟨fun m hmm => ?_, by rw [em]; exact tk2 k, by omega⟩⟩
    all_goals
      obtain ⟨i, hi⟩ := List.mem_iff_getElem?.mp hmm
      have hlt : i < ms.length := by
        by_cases q : i < ms.length
        · exact q
        · rw [List.getElem?_eq_none (by omega)] at hi; cases hi
      refine ⟨tk1 k _ (by rw [← em]; exact List.mem_map.mpr ⟨m, hmm, rfl⟩), (hm i _ m (List.getElem?_eq_getElem (by omega)) hi).2⟩
end
/-! PE9 -/
/-! ### what the law makes of what was read -/
section
variable {P : Program} {w : World} {K : PySem.W.Frag} {mg : Str → Option Value} {base : Heap} {CT CB : Addr}
/-- what a reader of a form gives, and its rows -/
def IsMade (CT CB : Addr) (form : Str) (x : W) (rs : List (List Str)) : Prop :=
  (form = "table" ∧ ∃ hs U, x = wTab CT hs ∧ IsTab hs U ∧ rs = hs.map hRow) ∨ (form = "book" ∧ ∃ fs qs, x = wBook CB fs qs ∧ IsLot fs ∧ fs.length ≤ 12 ∧ IsWords fs qs ∧ rs = bookRows fs qs) ∨ (form = "facts" ∧ ∃ ms, x = .lst (ms.map wWord) ∧ IsMarks ms ∧ rs = ms.map fRow)
abbrev fRowsOf (CT CB : Addr) : DSpec := fun ws P => ∃ (form : Str) (x : W) (rs : List (List Str)), ws = [.str form, x] ∧ IsMade CT CB form x rs ∧ P (wrs rs)
abbrev NRo : List Str := ["_law_form", "_law_made", "_law_terms_here", "_law_tag", "_law_x", "_law_label", "_law_lot_z", "_law_said"]
theorem sc_law_rows_of : FnScope NRo ["_law_form", "_law_made"] (C8.fnScope (top 74)) := C8.fnScope_by (by decide +kernel)
theorem ok_law_rows_of (G : GDef K mg "_law_rows_of" (top 74)) (T : Txt K mg) (m1 : C8.Met P w K mg base 1 CT "finds" (spD (fTableFinds CT)) []) (m2 : C8.Met P w K mg base 2 CT "kinds_of" (spD (fKindsOf CT)) []) (m3 : C8.Met P w K mg base 1 CB "finds" (spD (fBookFinds CB)) []) (m4 : C8.Met P w K mg base 1 CB "words" (spD (fBookWords CB)) []) : C8.Cal P w K mg base 3 "_law_rows_of" (spD (fRowsOf CT CB)) [] := by
  have nd := sc_law_rows_of.nd
  refine cal_D G sc_law_rows_of (fun _ _ _ _ _ _ us hl => match us, hl with | [_, _], _ => rfl) (fun ws P ⟨rs, _, _, e, _⟩ => by rw [e]; rfl) fun f cdv A outer s H E ex T' ws P' hr h => ?_
  obtain ⟨form, x, rs, rfl, hmade, p⟩ := h
  rcases hmade with ⟨rfl, hs, U, rfl, hm, rfl⟩ | ⟨rfl, fs, qs, rfl, hf, h12, hq, rfl⟩ | ⟨rfl, ms, rfl, hm, rfl⟩
  · have h12 := hm.len
    repeat walk_at "k"
    refine we_lc [("_law_tag", 3)] rfl nd (blkOk_by (own := [("_law_tag", 3)]) (N := NRo) (sc := C8.fnScope (top 74)) (by decide +kernel)) (wlc_M (x_iterL (we_mt0 m1 ‹Room _ _› (by decide) ?_)))
    walk_at "n"
    refine ⟨_, rfl, rfl, hs, rfl, ?_⟩
    refine lst_i ?_
    refine ⟨by rw [strs_len, List.length_map]; exact line_of (by omega), fun i _ => (hs[i]?).elim .non (fun h => wl (hRow h)), fun i d hd Dd => ?_, ?_⟩
    · obtain ⟨z, hz, rfl⟩ := strs_get hd
      rw [List.getElem?_map] at hz
      obtain ⟨h, hh, rfl⟩ : ∃ h, hs[i]? = some h ∧ z = h.1 := by
        cases q : hs[i]? with
        | none => rw [q] at hz; cases hz
        | some h => rw [q] at hz; cases hz; exact ⟨h, rfl, rfl⟩
      have h10 := (hm.wd h (List.mem_of_getElem? hh)).len
      repeat walk_at "k"
      refine we_mt m2 ‹Room _ _› (by decide) ?_
      repeat walk_at "n"
      refine ⟨_, rfl, rfl, ?_⟩
      repeat walk_at "k"
      refine ⟨hs, h, i, rfl, hh, hm.nd, ?_⟩
      repeat walk_at "k"
      refine ⟨line_of (by rw [strs_len]; show 2 + _ ≤ _; omega), ?_⟩
      show _ = Option.elim _ _ _
      rw [hh]
      rfl
    have e0 : ((hs.map (·.1)).map W.str).mapIdx (fun i _ => (hs[i]?).elim W.non fun h => wl (hRow h)) = (hs.map hRow).map wl := by
      rw [List.map_map, List.map_map]
      exact idx_map
    rw [e0]
    exact p
  · have h40 := hq.len
    repeat walk_at "k"
    refine we_mt0 m4 ‹Room _ _› (by decide) ?_
    walk_at "n"
    refine ⟨_, rfl, rfl, fs, qs, rfl, ?_⟩
    repeat walk_at "k"
    refine we_lc [("_law_x", 4)] rfl nd (blkOk_by (own := [("_law_x", 4)]) (N := NRo) (sc := C8.fnScope (top 74)) (by decide +kernel)) (wlc_M (x_iterL ?_))
    repeat walk_at "k"
    refine ⟨by rw [List.length_map]; exact line_of (by omega), fun _ _ => .bl true, fun i d hd Dd => ?_, _, bls_const, ?_⟩
    · obtain ⟨q, hq', rfl⟩ := words_get hd
      repeat walk_at "k"
      rfl
    rw [all_rep]
    repeat walk_at "k"
    refine we_lc [("_law_x", 4)] rfl nd (blkOk_by (own := [("_law_x", 4)]) (N := NRo) (sc := C8.fnScope (top 74)) (by decide +kernel)) (wlc_M (x_iterL ?_))
    repeat walk_at "k"
    refine ⟨by rw [List.length_map]; exact line_of (by omega), fun _ _ => .bl true, fun i d hd Dd => ?_, _, bls_const, ?_⟩
    · obtain ⟨q, hq', rfl⟩ := words_get hd
      repeat walk_at "k"
      rfl
    rw [all_rep]
    repeat walk_at "k"
    refine we_mt0 m3 ‹Room _ _› (by decide) ?_
    walk_at "n"
    refine ⟨_, rfl, rfl, fs, qs, rfl, ?_⟩
    refine ⟨line6 (by rw [strs_len]; show 1 + _ ≤ _; omega), ?_⟩
    repeat walk_at "k"
    refine we_lc [("_law_label", 5), ("_law_lot_z", 6)] rfl nd (blkOk_by (own := [("_law_label", 5), ("_law_lot_z", 6)]) (N := NRo) (sc := C8.fnScope (top 74)) (by decide +kernel)) (wlc_M (x_iterL ?_))
    repeat walk_at "k"
    refine ⟨by rw [List.length_map]; exact line_of (by omega), fun i _ => (qs[i]?).elim .non (fun q => wl (wRow q)), fun i d hd Dd => ?_, ?_⟩
    · obtain ⟨q, hq', rfl⟩ := words_get hd
      have h100 := (hq.wd q (List.mem_of_getElem? hq')).lot.len
      repeat walk_at "k"
      refine ⟨line6 (by rw [strs_len]; show 2 + _ ≤ _; omega), ?_⟩
      show _ = Option.elim _ _ _
      rw [hq']
      rfl
    rw [idx_map]
    refine ⟨line6 (by rw [List.length_map]; show 1 + _ ≤ _; omega), ?_⟩
    have e : W.lst ([W.lst ([W.str "finds"] ++ fs.map W.str)] ++ qs.map fun q => wl (wRow q)) = wrs (bookRows fs qs) := by
      show _ = W.lst (wl ("finds" :: fs) :: (qs.map wRow).map wl)
      rw [List.map_map]
      rfl
    rw [e]
    exact p
  · have h30 := hm.len
    repeat walk_at "k"
    refine we_lc [("_law_x", 4)] rfl nd (blkOk_by (own := [("_law_x", 4)]) (N := NRo) (sc := C8.fnScope (top 74)) (by decide +kernel)) (wlc_M (x_iterL ?_))
    repeat walk_at "k"
    refine ⟨by rw [List.length_map]; exact line_of (by omega), fun _ _ => .bl true, fun i d hd Dd => ?_, _, bls_const, ?_⟩
    · obtain ⟨q, hq', rfl⟩ := words_get hd
      repeat walk_at "k"
      rfl
    rw [all_rep]
    repeat walk_at "k"
    refine we_lc [("_law_x", 4)] rfl nd (blkOk_by (own := [("_law_x", 4)]) (N := NRo) (sc := C8.fnScope (top 74)) (by decide +kernel)) (wlc_M (x_iterL ?_))
    repeat walk_at "k"
    refine ⟨by rw [List.length_map]; exact line_of (by omega), fun _ _ => .bl true, fun i d hd Dd => ?_, _, bls_const, ?_⟩
    · obtain ⟨q, hq', rfl⟩ := words_get hd
      repeat walk_at "k"
      rfl
    rw [all_rep]
    repeat walk_at "k"
    refine we_lc [("_law_label", 5), ("_law_said", 7)] rfl nd (blkOk_by (own := [("_law_label", 5), ("_law_said", 7)]) (N := NRo) (sc := C8.fnScope (top 74)) (by decide +kernel)) (wlc_M (x_iterL ?_))
    repeat walk_at "k"
    refine ⟨by rw [List.length_map]; exact line_of (by omega), fun i _ => (ms[i]?).elim .non (fun q => wl (fRow q)), fun i d hd Dd => ?_, ?_⟩
    · obtain ⟨q, hq', rfl⟩ := words_get hd
      have h3 := (fact_nms (hm.wd q (List.mem_of_getElem? hq')).fact).2
      repeat walk_at "k"
      refine ⟨line6 (by rw [strs_len]; show 2 + _ ≤ _; omega), ?_⟩
      show _ = Option.elim _ _ _
      rw [hq']
      rfl
    rw [idx_map]
    have e : (ms.map fun q => wl (fRow q)) = (ms.map fRow).map wl := by rw [List.map_map]; rfl
    rw [e]
    exact p
end
/-! PE10 -/
/-! ### the readers -/
section
variable {P : Program} {w : World} {K : PySem.W.Frag} {mg : Str → Option Value} {base : Heap} {CT CB : Addr}
abbrev fReader (CT CB : Addr) : DSpec := fun ws P => ∃ (form : Str) (x : W) (rs : List (List Str)), ws = [.str form, .str (rowsT rs)] ∧ IsMade CT CB form x rs ∧ P (.lst [.tup [.str "told", wrs rs], .tup [.str "told", wrs rs]])
abbrev NRd : List Str := ["_law_form", "_law_x", "_law_told", "_law_row"]
abbrev tabR (PP : Addr) : List (Addr × Str) := [(PP, ("_law_reader" : Str) ++ ".<locals>." ++ "<lambda>")]
theorem sc_law_reader : FnScope NRd ["_law_form", "_law_x"] (C8.fnScope (top 73)) := C8.fnScope_by (by decide +kernel)
theorem ok_law_reader {cc PP : Addr} (G : GDefC K mg "_law_reader" (top 73) cc) (GT : GDef K mg "_law_try" (top 65)) (TB : LamX.TabB base mg cc PP) (T : Txt K mg) (B : TbF K mg CT) (B2 : BkF K mg CB) (m1 : SMet P w K mg base 6 CT "read" ["text"] (spD (fTableRead CT))) (m2 : SMet P w K mg base 8 CB "read" ["text"] (spD (fBookRead CB)))
    (c1 : C8.Cal P w K mg base 5 "read_facts" (spD fReadFacts) []) (c2 : CalK P w K mg base 5 "read_facts" ["text"] (spD fReadFacts)) (c3 : C8.Cal P w K mg base 3 "_law_rows_of" (spD (fRowsOf CT CB)) []) : C8.Cal P w K mg base 11 "_law_reader" (spDT (tabR PP) (fReader CT CB)) [] := by
  have nd := sc_law_reader.nd
  refine cal_DC G sc_law_reader (fun _ _ _ _ _ _ us hl => match us, hl with | [_, _], _ => rfl) (fun ws P ⟨rs, _, _, e, _⟩ => by rw [e]; rfl) fun f A outer s H E ex ws P' hr h => ?_
  obtain ⟨form, x, rs, rfl, hmade, p⟩ := h
  have fin : WSs (bx P w K mg base NRd "_law_reader" (top 73) f (.ref cc) A outer s H E) ⟨[some (.dat (.str form)), some (.dat (.str (rowsT rs))), some (.dat (.lst [.tup [.str "told", x], .tup [.str "told", x]])), none], [], none, ex, tabR PP⟩ ((C8.fnBody (top 73)).drop 1) (fun _ => P' .non) P' := by
    refine wss_cons (ws_ret (we_lc [("_law_row", 3)] rfl nd (blkOk_by (own := [("_law_row", 3)]) (N := NRd) (sc := C8.fnScope (top 73)) (by decide +kernel)) (wlc_M (x_iterL ?_))))
    repeat walk_at "k"
    refine ⟨fun _ _ => .tup [.str "told", wrs rs], fun i d hd Dd => ?_, p⟩
    have ed : d = .tup [.str "told", x] := by
      match i, hd with
      | 0, hd => cases hd; rfl
      | 1, hd => cases hd; rfl
      | _ + 2, hd => simp at hd
    subst ed
    repeat walk_at "k"
    refine we_c c3 ‹Room _ _› (by decide) rfl ?_
    repeat walk_at "k"
    exact ⟨form, x, rs, rfl, hmade, wa_nil ⟨lit_line rfl, rfl⟩⟩
  have hcd : (bx P w K mg base NRd "_law_reader" (top 73) f (.ref cc) A outer s H E).env.code = .ref cc := rfl
  have hq0 : (bx P w K mg base NRd "_law_reader" (top 73) f (.ref cc) A outer s H E).env.qual = ("_law_reader" : Str) ++ ".<locals>." := rfl
  have hql : tabR PP = [(PP, (bx P w K mg base NRd "_law_reader" (top 73) f (.ref cc) A outer s H E).env.qual ++ "<lambda>")] := by rw [hq0]
  rcases hmade with ⟨rfl, hs, U, rfl, hm, rfl⟩ | ⟨rfl, fs, qs, rfl, hf, h12, hq, rfl⟩ | ⟨rfl, ms, rfl, hm, rfl⟩
  · repeat walk_at "k"
    refine x_lam (k := 8) GT rfl TB hcd hql hr (LamX.lamS_by (show LamX.lamSB (C8.fnScope (top 73)) _ = true by decide +kernel)) rfl (fun _ _ _ _ _ => rfl) fun A2 outer2 s2 H2 f2 c2' hr2 => ?_
    refine we_sm m1 hr2 (by decide) rfl B.g ?_
    refine wa_cons (we_name 1 rfl (by first | exact .inl rfl | exact .inr (.inl rfl) | exact .inr (.inr rfl)) rfl (wa_nil ⟨hs, U, rfl, hm, ?_⟩))
    refine wa_cons (x_lam (k := 8) GT rfl TB hcd hql hr (LamX.lamS_by (show LamX.lamSB (C8.fnScope (top 73)) _ = true by decide +kernel)) rfl (fun _ _ _ _ _ => rfl) fun A2 outer2 s2 H2 f2 c2' hr2 => ?_)
    refine we_smK m1 hr2 (by decide) rfl B.g ?_
    refine we_name 1 rfl (by first | exact .inl rfl | exact .inr (.inl rfl) | exact .inr (.inr rfl)) rfl ⟨hs, U, rfl, hm, ?_⟩
    exact wa_nil ⟨lit_line rfl, wss_nil fin⟩
  · repeat walk_at "k"
    refine x_lam (k := 8) GT rfl TB hcd hql hr (LamX.lamS_by (show LamX.lamSB (C8.fnScope (top 73)) _ = true by decide +kernel)) rfl (fun _ _ _ _ _ => rfl) fun A2 outer2 s2 H2 f2 c2' hr2 => ?_
    refine we_sm m2 hr2 (by decide) rfl B2.g ?_
    refine wa_cons (we_name 1 rfl (by first | exact .inl rfl | exact .inr (.inl rfl) | exact .inr (.inr rfl)) rfl (wa_nil ⟨fs, qs, rfl, hf, h12, hq, ?_⟩))
    refine wa_cons (x_lam (k := 8) GT rfl TB hcd hql hr (LamX.lamS_by (show LamX.lamSB (C8.fnScope (top 73)) _ = true by decide +kernel)) rfl (fun _ _ _ _ _ => rfl) fun A2 outer2 s2 H2 f2 c2' hr2 => ?_)
    refine we_smK m2 hr2 (by decide) rfl B2.g ?_
    refine we_name 1 rfl (by first | exact .inl rfl | exact .inr (.inl rfl) | exact .inr (.inr rfl)) rfl ⟨fs, qs, rfl, hf, h12, hq, ?_⟩
    exact wa_nil ⟨lit_line rfl, wss_nil (wss_nil fin)⟩
  · repeat walk_at "k"
    refine x_lam (k := 8) GT rfl TB hcd hql hr (LamX.lamS_by (show LamX.lamSB (C8.fnScope (top 73)) _ = true by decide +kernel)) rfl (fun _ _ _ _ _ => rfl) fun A2 outer2 s2 H2 f2 c2' hr2 => ?_
    refine we_c c1 hr2 (by decide) rfl ?_
    refine wa_cons (we_name 1 rfl (by first | exact .inl rfl | exact .inr (.inl rfl) | exact .inr (.inr rfl)) rfl (wa_nil ⟨ms, rfl, hm, ?_⟩))
    refine wa_cons (x_lam (k := 8) GT rfl TB hcd hql hr (LamX.lamS_by (show LamX.lamSB (C8.fnScope (top 73)) _ = true by decide +kernel)) rfl (fun _ _ _ _ _ => rfl) fun A2 outer2 s2 H2 f2 c2' hr2 => ?_)
    refine we_cK c2 hr2 (by decide) rfl ?_
    refine we_name 1 rfl (by first | exact .inl rfl | exact .inr (.inl rfl) | exact .inr (.inr rfl)) rfl ⟨ms, rfl, hm, ?_⟩
    exact wa_nil ⟨lit_line rfl, wss_nil (wss_nil fin)⟩
end
/-! PE11 -/
/-! ### tables: one round -/
section
variable {P : Program} {w : World} {K : PySem.W.Frag} {mg : Str → Option Value} {base : Heap} {CT CB : Addr}
abbrev fSo : DSpec := fun ws P => ∃ mz : Bool, ws = [.bl mz] ∧ P (.bl true)
theorem sm_text (z : Str) : Sm 1 (.lst [.str z, .str z]) := Sm.lst (by show 2 ≤ 1000; decide) fun x hx => by
  rcases List.mem_cons.mp hx with rfl | hx
  · exact Sm.str _ _
  · rw [List.mem_singleton.mp hx]; exact Sm.str _ _
theorem sm_mix (z : Str) : Sm 1 (.lst [.bl true, .str z, .bl true]) := Sm.lst (by show 3 ≤ 1000; decide) fun x hx => by
  rcases List.mem_cons.mp hx with rfl | hx
  · exact Sm.bl _ _
  · rcases List.mem_cons.mp hx with rfl | hx
    · exact Sm.str _ _
    · rw [List.mem_singleton.mp hx]; exact Sm.bl _ _
theorem sm_rows {rs : List (List Str)} (h : ∀ r ∈ rs, IsRow r) (hl : rs.length ≤ 100) : Sm 2 (wrs rs) := Sm.lst (by rw [List.length_map]; omega) fun x hx => by
  obtain ⟨r, hr, rfl⟩ := List.mem_map.mp hx
  exact Sm.lst (by rw [strs_len]; have := (h r hr).len; omega) fun y hy => by
    obtain ⟨z, _, rfl⟩ := List.mem_map.mp hy
    exact Sm.str _ _
theorem sm_told {rs : List (List Str)} (h : ∀ r ∈ rs, IsRow r) (hl : rs.length ≤ 100) : Sm 4 (.lst [.tup [.str "told", wrs rs], .tup [.str "told", wrs rs]]) := Sm.lst (by show 2 ≤ 1000; decide) fun x hx => by
  have e : x = .tup [.str "told", wrs rs] := by
    rcases List.mem_cons.mp hx with rfl | hx
    · rfl
    · exact List.mem_singleton.mp hx
  subst e
  exact Sm.tup (by show 2 ≤ 1000; decide) fun y hy => by
    rcases List.mem_cons.mp hy with rfl | hy
    · exact Sm.str _ _
    · rw [List.mem_singleton.mp hy]; exact sm_rows h hl
abbrev NTs : List Str := ["_law_state", "_law_many_z", "_law_rows", "_law_long", "_law_made", "_law_back", "_law_row"]
theorem sc_law_table_so : FnScope NTs ["_law_state", "_law_many_z"] (C8.fnScope (top 76)) := C8.fnScope_by (by decide +kernel)
theorem ok_law_table_so {PP : Addr} (G : GDef K mg "_law_table_so" (top 76)) (T : Txt K mg) (B : TbF K mg CT) (c1 : C8.Cal P w K mg base 5 "_law_drawn_rows" (spS fDrawn) []) (c2 : C8.Cal P w K mg base 1 "_law_rows_text" (spD fRowsText) []) (c3 : C8.Cal P w K mg base 2 "_law_shuffle" (spS fShuffle) [])
    (k1 : C8.Mak P w K mg base 4 "Table" CT (spI CT fTableInit) []) (m1 : C8.Met P w K mg base 3 CT "text" (spD (fTableText CT)) []) (m2 : C8.Met P w K mg base 4 CT "__str__" (spD (fTableText CT)) []) (m3 : C8.Met P w K mg base 1 CT "__eq__" (spD (fTableEq CT)) []) (m4 : SMet P w K mg base 6 CT "read" ["text"] (spD (fTableRead CT)))
    (c4 : C8.Cal P w K mg base 2 "_law_same" (spD (fSame 1)) []) (c5 : C8.Cal P w K mg base 5 "_law_same" (spD (fSame 4)) []) (c6 : C8.Cal P w K mg base 11 "_law_reader" (spDT (tabR PP) (fReader CT CB)) []) : C8.Cal P w K mg base 12 "_law_table_so" (spST (tabR PP) fSo) [] := by
  have nd := sc_law_table_so.nd
  refine cal_ST G sc_law_table_so (fun _ _ _ _ _ _ us hl => match us, hl with | [_, _], _ => rfl) (fun ws P ⟨n, e, _⟩ => by rw [e]; rfl) (by simp) fun f cdv A outer s H E st' ex ws P' hr h => ?_
  obtain ⟨mz, rfl, p⟩ := h
  refine wss_cons ?_
  walk_at "k"
  refine we_cs 0 c1 ‹Room _ _› (by decide) rfl rfl (by first | exact .inl rfl | exact .inr (.inl rfl) | exact .inr (.inr rfl)) rfl rfl ?_
  repeat walk_at "k"
  refine ⟨"table", mz, rfl, .inl ⟨rfl, fun hs U hm => ?_⟩⟩
  have hrows := tab_rows hm
  have hlen : (hs.map hRow).length ≤ 100 := by rw [List.length_map]; have := hm.len; omega
  refine wss_cons ?_
  walk_at "k"
  refine we_c c2 ‹Room _ _› (by decide) rfl ?_
  repeat walk_at "k"
  refine ⟨hrows, hlen, ?_⟩
  refine wss_cons ?_
  walk_at "k"
  refine we_mk k1 ‹Room _ _› (by decide) rfl (wa_cons ?_)
  refine we_lc [("_law_row", 6)] rfl nd (blkOk_by (own := [("_law_row", 6)]) (N := NTs) (sc := C8.fnScope (top 76)) (by decide +kernel)) (wlc_A (x_iterL ?_))
  refine we_cs 0 c3 ‹Room _ _› (by decide) rfl rfl (by first | exact .inl rfl | exact .inr (.inl rfl) | exact .inr (.inr rfl)) rfl rfl ?_
  repeat walk_at "k"
  have h12 := hm.len
  refine ⟨by rw [List.length_map, List.length_map]; omega, fun es he => ?_⟩
  obtain ⟨hs1, rfl, hp1⟩ := perm_map_of (g := fun h : Hol => wl (hRow h)) he hs (by rw [List.map_map]; rfl)
  repeat walk_at "k"
  refine ⟨by rw [List.length_map, hp1.length_eq]; exact line_of (by omega), fun i y => ∃ (a b : Hol), hs1[i]? = some a ∧ y = hL b ∧ b.1 = a.1 ∧ b.2.Perm a.2, fun i d hd Dd => ?_, fun acc hl ha => ?_⟩
  · obtain ⟨h', hh', rfl⟩ := map_get hd
    have h10 := (hm.wd h' (hp1.mem_iff.mp (List.mem_of_getElem? hh'))).len
    refine fam_i fun _ _ _ _ _ => ?_
    walk_at "k"
    refine fam_i fun _ _ _ _ _ => ?_
    repeat walk_at "k"
    refine ⟨(by show (h'.2.map W.str).length ≤ 1000; rw [strs_len]; omega), fun es he => ?_⟩
    obtain ⟨zs, rfl, hz⟩ := perm_strs (ks := h'.2) he
    exact wa_nil ⟨lit_line rfl, h', (h'.1, zs), hh', rfl, rfl, hz⟩
  rw [List.length_map] at hl
  obtain ⟨hs2, rfl, hbl, hb⟩ := acc_of (R := fun (a b : Hol) => b.1 = a.1 ∧ b.2.Perm a.2) (g := hL) hl fun i y a h4 h5 => by
    obtain ⟨a', b, h6, h7, h8⟩ := ha i y h4
    rw [h5] at h6
    cases h6
    exact ⟨b, h7, h8⟩
  have ek : hs2.map (·.1) = hs1.map (·.1) := keys_of (k := fun b : Hol => b.1) (by rw [List.length_map]; exact hbl) fun i a b h1 h2 => by
    rw [List.getElem?_map] at h1
    cases q : hs1[i]? with
    | none => rw [q] at h1; cases h1
    | some a' => rw [q] at h1; cases h1; exact (hb i a' b q h2).1
  have key : ∀ b ∈ hs2, ∃ a ∈ hs, b.1 = a.1 ∧ b.2.Perm a.2 := fun b hbm => by
    obtain ⟨i, hi⟩ := List.mem_iff_getElem?.mp hbm
    have hlt : i < hs1.length := by
      rw [← hbl]
      by_cases q : i < hs2.length
      · exact q
      · rw [List.getElem?_eq_none (by omega)] at hi; cases hi
    exact ⟨hs1[i], hp1.mem_iff.mp (List.getElem_mem hlt), hb i _ _ (List.getElem?_eq_getElem hlt) hi⟩
  have key2 : ∀ a ∈ hs, ∃ b ∈ hs2, b.1 = a.1 ∧ b.2.Perm a.2 := fun a ham => by
    obtain ⟨i, hi⟩ := List.mem_iff_getElem?.mp (hp1.mem_iff.mpr ham)
    have hlt : i < hs2.length := by
      rw [hbl]
      by_cases q : i < hs1.length
      · exact q
      · rw [List.getElem?_eq_none (by omega)] at hi; cases hi
    exact ⟨hs2[i], List.getElem_mem hlt, hb i _ _ hi (List.getElem?_eq_getElem hlt)⟩
  have hh2 : IsHols hs2 U := ⟨fun b hbm => by
    obtain ⟨a, ha', h6, h7⟩ := key b hbm
    have hw := hm.wd a ha'
    exact ⟨by rw [h6]; exact hw.nm, fun z hz => hw.ks z (h7.mem_iff.mp hz), h7.nodup_iff.mpr hw.nd, by rw [h7.length_eq]; exact hw.len⟩, by rw [ek]; exact (hp1.map _).nodup_iff.mpr hm.nd, fun e => by
      rw [e] at hbl
      have : hs1.length = hs.length := hp1.length_eq
      exact hm.ne (List.eq_nil_of_length_eq_zero (by rw [← this, ← hbl]; rfl)), by rw [hbl, hp1.length_eq]; exact h12, ⟨fun b hbm z hz => by
        obtain ⟨a, ha', h6, h7⟩ := key b hbm
        exact hm.ks.sub a ha' z (h7.mem_iff.mp hz), hm.ks.len⟩⟩
  have hsr : Srt hs2 hs := ⟨hm.asc, fun z => by rw [ek]; exact (hp1.map _).mem_iff.symm, fun a ham => ⟨hm.kas a ham, by
    obtain ⟨b, hbm, h6, h7⟩ := key2 a ham
    exact ⟨b, hbm, h6, fun z => h7.mem_iff.symm⟩⟩⟩
  refine wa_nil ⟨fun PF => PF = tabFs hs, ⟨hs2, hs, U, hL, rfl, .inl rfl, hh2, hsr, rfl⟩, fun fs e => ?_⟩
  subst e
  have hnm : ∀ h ∈ hs, IsNm h.1 ∧ Nms h.2 := fun h hmm => ⟨(hm.wd h hmm).nm, (hm.wd h hmm).ks⟩
  refine wss_cons (ws_if (wt_not ?_))
  refine x_val (by intro _; rfl) (we_c c4 ‹Room _ _› (by decide) rfl (wa_cons (we_lst (k := 0) (wa_cons (we_mt0 m1 ‹Room _ _› (by decide) ?_)))))
  walk_at "n"
  refine ⟨_, rfl, rfl, hs, U, rfl, hm, ?_⟩
  refine wa_cons (x_strOwn ‹Txt _ _› m2 ‹Room _ _› (by decide) rfl rfl ?_)
  walk_at "n"
  refine ⟨_, rfl, hs, U, rfl, hm, _, rfl, ?_⟩
  refine wa_nil ⟨lit_line rfl, ?_⟩
  repeat walk_at "k"
  refine ⟨⟨sm_text _⟩, ?_⟩
  repeat walk_at "k"
  refine we_sm m4 ‹Room _ _› (by decide) rfl B.g ?_
  repeat walk_at "k"
  refine ⟨hs, U, rfl, hm, ?_⟩
  refine wss_cons (ws_if (wt_not (x_val (by intro _; rfl) (we_c c4 ‹Room _ _› (by decide) rfl (wa_cons (we_lst (k := 0) (wa_cons (xe_eqOwn m3 ‹Room _ _› (by decide) ?_))))))))
  walk_at "n"
  walk_at "n"
  refine ⟨_, _, rfl, rfl, hs, rfl, hnm, true, rfl, ?_⟩
  refine wa_cons (we_mt0 m1 ‹Room _ _› (by decide) ?_)
  walk_at "n"
  refine ⟨_, rfl, rfl, hs, U, rfl, hm, ?_⟩
  refine wa_cons (xe_eqOwn m3 ‹Room _ _› (by decide) (we_smK m4 ‹Room _ _› (by decide) rfl B.g (we_mt0 m1 ‹Room _ _› (by decide) ?_)))
  walk_at "n"
  refine ⟨_, rfl, rfl, hs, U, rfl, hm, hs, U, rfl, hm, ?_⟩
  walk_at "n"
  refine ⟨_, _, rfl, rfl, hs, rfl, hnm, true, rfl, ?_⟩
  refine wa_nil ⟨lit_line rfl, ?_⟩
  repeat walk_at "k"
  refine ⟨⟨sm_mix _⟩, ?_⟩
  repeat walk_at "k"
  refine we_c c5 ‹Room _ _› (by decide) rfl (wa_cons (we_cT c6 ‹Room _ _› (by decide) rfl rfl ?_))
  repeat walk_at "k"
  refine ⟨"table", wTab CT hs, hs.map hRow, rfl, .inl ⟨rfl, hs, U, rfl, hm, rfl⟩, ?_⟩
  repeat walk_at "k"
  exact ⟨⟨sm_told hrows hlen⟩, p⟩
end
/-! PE12 -/
/-! ### books: one round -/
section
variable {P : Program} {w : World} {K : PySem.W.Frag} {mg : Str → Option Value} {base : Heap} {CT CB : Addr}
abbrev NBs : List Str := ["_law_state", "_law_many_z", "_law_rows", "_law_long", "_law_made", "_law_back", "_law_row"]
theorem sc_law_book_so : FnScope NBs ["_law_state", "_law_many_z"] (C8.fnScope (top 77)) := C8.fnScope_by (by decide +kernel)
theorem lot_finds {fs : List Str} (h : IsLot fs) (h12 : fs.length ≤ 12) : IsFinds fs := ⟨h.nm, asc_nd h.asc, h.ne, h12⟩
theorem ok_law_book_so {PP : Addr} (G : GDef K mg "_law_book_so" (top 77)) (T : Txt K mg) (B : BkF K mg CB) (c1 : C8.Cal P w K mg base 5 "_law_drawn_rows" (spS fDrawn) []) (c2 : C8.Cal P w K mg base 1 "_law_rows_text" (spD fRowsText) []) (c3 : C8.Cal P w K mg base 2 "_law_shuffle" (spS fShuffle) [])
    (k1 : C8.Mak P w K mg base 6 "Book" CB (spI CB fBookInit) []) (m1 : C8.Met P w K mg base 2 CB "text" (spD (fBookText CB)) []) (m2 : C8.Met P w K mg base 3 CB "__str__" (spD (fBookText CB)) []) (m3 : C8.Met P w K mg base 1 CB "__eq__" (spD (fBookEq CB)) []) (m4 : SMet P w K mg base 8 CB "read" ["text"] (spD (fBookRead CB))) (m5 : C8.Met P w K mg base 8 CB "without" (spD (fBookWithout CB)) [])
    (c7 : C8.Cal P w K mg base 1 "_law_same" (spD (fSame 0)) []) (c4 : C8.Cal P w K mg base 2 "_law_same" (spD (fSame 1)) []) (c5 : C8.Cal P w K mg base 5 "_law_same" (spD (fSame 4)) []) (c6 : C8.Cal P w K mg base 11 "_law_reader" (spDT (tabR PP) (fReader CT CB)) []) : C8.Cal P w K mg base 12 "_law_book_so" (spST (tabR PP) fSo) [] := by
  have nd := sc_law_book_so.nd
  refine cal_ST G sc_law_book_so (fun _ _ _ _ _ _ us hl => match us, hl with | [_, _], _ => rfl) (fun ws P ⟨n, e, _⟩ => by rw [e]; rfl) (by simp) fun f cdv A outer s H E st' ex ws P' hr h => ?_
  obtain ⟨mz, rfl, p⟩ := h
  refine wss_cons ?_
  walk_at "k"
  refine we_cs 0 c1 ‹Room _ _› (by decide) rfl rfl (by first | exact .inl rfl | exact .inr (.inl rfl) | exact .inr (.inr rfl)) rfl rfl ?_
  repeat walk_at "k"
  refine ⟨"book", mz, rfl, .inr (.inl ⟨rfl, fun fs qs hf h12 hq => ?_⟩)⟩
  have hrows := book_rows hf h12 hq
  have h40 := hq.len
  have hfi := lot_finds hf h12
  have hlen : (bookRows fs qs).length ≤ 100 := by show (qs.map wRow).length + 1 ≤ 100; rw [List.length_map]; omega
  refine wss_cons ?_
  walk_at "k"
  refine we_c c2 ‹Room _ _› (by decide) rfl ?_
  repeat walk_at "k"
  refine ⟨hrows, hlen, ?_⟩
  refine wss_cons ?_
  walk_at "k"
  refine we_mk k1 ‹Room _ _› (by decide) rfl (wa_cons ?_)
  repeat walk_at "k"
  refine ⟨(by show (fs.map W.str).length ≤ 1000; rw [strs_len]; omega), fun es he => ?_⟩
  obtain ⟨zs, rfl, hz⟩ := perm_strs (ks := fs) he
  have hfz : IsFinds zs := ⟨fun z hm => hf.nm z (hz.mem_iff.mp hm), hz.nodup_iff.mpr hfi.nd, fun e => hf.ne (by rw [e] at hz; exact hz.symm.eq_nil), by rw [hz.length_eq]; exact h12⟩
  have hqz : IsWords zs qs := ⟨fun q hm => ⟨(hq.wd q hm).nm, (hq.wd q hm).lot, fun z hzz => hz.mem_iff.mpr ((hq.wd q hm).sub z hzz)⟩, hq.nd, hq.len⟩
  refine wa_cons (we_lc [("_law_row", 6)] rfl nd (blkOk_by (own := [("_law_row", 6)]) (N := NBs) (sc := C8.fnScope (top 77)) (by decide +kernel)) (wlc_M (x_iterL ?_)))
  repeat walk_at "k"
  show ((qs.map wRow).map wl).length ≤ sizeLine ∧ ∃ f, (∀ i d, ((qs.map wRow).map wl)[i]? = some d → _) ∧ _
  refine ⟨by rw [List.length_map, List.length_map]; exact line_of (by omega), fun i _ => (qs[i]?).elim .non wWord, fun i d hd Dd => ?_, ?_⟩
  · obtain ⟨r, hr', rfl⟩ := rowsW_get hd
    obtain ⟨q, hq', rfl⟩ := map_get hr'
    repeat walk_at "k"
    show _ = Option.elim _ _ _
    rw [hq']
    rfl
  have e : (List.drop 1 ((bookRows fs qs).map wl)).mapIdx (fun i _ => (qs[i]?).elim W.non wWord) = qs.map wWord := by
    show ((qs.map wRow).map wl).mapIdx _ = _
    rw [List.map_map]
    exact idx_map
  rw [e]
  refine wa_nil ⟨fun PF => PF = bookFs fs qs, ⟨zs, fs, wl zs, qs, rfl, .inl rfl, hfz, hf.asc, fun z => hz.mem_iff.symm, hqz, rfl⟩, fun gs e => ?_⟩
  subst e
  refine wss_cons (ws_if (wt_not ?_))
  refine x_val (by intro _; rfl) (we_c c4 ‹Room _ _› (by decide) rfl (wa_cons (we_lst (k := 0) (wa_cons (we_mt0 m1 ‹Room _ _› (by decide) ?_)))))
  walk_at "n"
  refine ⟨_, rfl, rfl, fs, qs, rfl, hf, h12, hq, ?_⟩
  refine wa_cons (x_strOwn ‹Txt _ _› m2 ‹Room _ _› (by decide) rfl rfl ?_)
  walk_at "n"
  refine ⟨_, rfl, fs, qs, rfl, hf, h12, hq, _, rfl, ?_⟩
  refine wa_nil ⟨lit_line rfl, ?_⟩
  repeat walk_at "k"
  refine ⟨⟨sm_text _⟩, ?_⟩
  repeat walk_at "k"
  refine we_sm m4 ‹Room _ _› (by decide) rfl B.g ?_
  repeat walk_at "k"
  refine ⟨fs, qs, rfl, hf, h12, hq, ?_⟩
  refine wss_cons (ws_if (wt_not (x_val (by intro _; rfl) (we_c c4 ‹Room _ _› (by decide) rfl (wa_cons (we_lst (k := 0) (wa_cons (xe_eqOwn m3 ‹Room _ _› (by decide) ?_))))))))
  walk_at "n"
  walk_at "n"
  refine ⟨_, _, rfl, rfl, fs, qs, rfl, hf.nm, hq, true, rfl, ?_⟩
  refine wa_cons (we_mt0 m1 ‹Room _ _› (by decide) ?_)
  walk_at "n"
  refine ⟨_, rfl, rfl, fs, qs, rfl, hf, h12, hq, ?_⟩
  refine wa_cons (xe_eqOwn m3 ‹Room _ _› (by decide) (we_smK m4 ‹Room _ _› (by decide) rfl B.g (we_mt0 m1 ‹Room _ _› (by decide) ?_)))
  walk_at "n"
  refine ⟨_, rfl, rfl, fs, qs, rfl, hf, h12, hq, fs, qs, rfl, hf, h12, hq, ?_⟩
  walk_at "n"
  refine ⟨_, _, rfl, rfl, fs, qs, rfl, hf.nm, hq, true, rfl, ?_⟩
  refine wa_nil ⟨lit_line rfl, ?_⟩
  repeat walk_at "k"
  refine ⟨⟨sm_mix _⟩, ?_⟩
  have fin : WSs (bx P w K mg base NBs "_law_book_so" (top 77) f cdv A outer s H E) ⟨[some (.adr st'.1), some (.dat (.bl mz)), some (.dat (wrs (bookRows fs qs))), some (.dat (.str (rowsT (bookRows fs qs)))), some (.dat (wBook CB fs qs)), some (.dat (wBook CB fs qs)), none], [], some st', ex, tabR PP⟩ ((C8.fnBody (top 77)).drop 7) (fun _ => P' .non) P' := by
    refine wss_cons (ws_ret ?_)
    refine we_c c5 ‹Room _ _› (by decide) rfl (wa_cons (we_cT c6 ‹Room _ _› (by decide) rfl rfl ?_))
    repeat walk_at "k"
    refine ⟨"book", wBook CB fs qs, bookRows fs qs, rfl, .inr (.inl ⟨rfl, fs, qs, rfl, hf, h12, hq, rfl⟩), ?_⟩
    repeat walk_at "k"
    exact ⟨⟨sm_told hrows hlen⟩, p⟩
  repeat walk_at "k"
  cases qs with
  | nil =>
    refine ifDn (show ¬ (1 : Int) < ((1 : Nat) : Int) by decide) ?_
    exact wss_nil fin
  | cons q qs =>
    have hq2 : IsWords fs qs := ⟨fun q' hm => hq.wd q' (List.mem_cons_of_mem _ hm), (List.nodup_cons.mp hq.nd).2, by have := hq.len; rw [List.length_cons] at this; omega⟩
    refine ifD (show (1 : Int) < ((((bookRows fs (q :: qs)).map wl).length : Nat) : Int) by
      rw [List.length_map]
      show (1 : Int) < (((((q :: qs).map wRow).length + 1 : Nat)) : Int)
      rw [List.length_map, List.length_cons]
      omega) ?_
    refine ww_and1 (wt_not (x_val (by intro _; rfl) (we_c c7 ‹Room _ _› (by decide) rfl (wa_cons (we_mt0 m1 ‹Room _ _› (by decide) (we_mt m5 ‹Room _ _› (by decide) ?_))))))
    walk_at "n"
    refine ⟨_, rfl, rfl, ?_⟩
    repeat walk_at "k"
    refine ⟨fs, q, qs, rfl, hfi, hf.asc, hq, ?_⟩
    refine ⟨_, rfl, rfl, fs, qs, rfl, hf, h12, hq2, ?_⟩
    refine wa_cons (we_c c2 ‹Room _ _› (by decide) rfl ?_)
    repeat walk_at "k"
    have e1 : cutL ((bookRows fs (q :: qs)).map wl) none (some 1) = [wl ("finds" :: fs)] := cutL_to _ 1
    rw [e1]
    have hrows2 := book_rows hf h12 hq2
    have h40' := hq2.len
    refine ⟨line6 (by show 1 + ((qs.map wRow).map wl).length ≤ _; rw [List.length_map, List.length_map]; omega), ?_⟩
    refine wa_nil ⟨bookRows fs qs, rfl, hrows2, (by show (qs.map wRow).length + 1 ≤ 100; rw [List.length_map]; omega), ?_⟩
    refine wa_nil ⟨_, rfl, ⟨Sm.str 0 _⟩, ?_⟩
    exact wss_nil fin
end
/-! PE13 -/
/-! ### lists of facts: one round -/
theorem nl_str (z : Str) : W.nl (.str z) = true := by rw [W.nl] <;> simp
theorem nls_strs : ∀ zs : List Str, W.nls (zs.map W.str) = true
  | [] => by rw [List.map_nil, W.nls]
  | z :: zs => by rw [List.map_cons, W.nls, nl_str, nls_strs zs]; rfl
theorem nl_word (m : Str × List Str) : W.nl (wWord m) = true := by
  rw [W.nl, W.nls, nl_str, W.nls, W.nl, nls_strs, W.nls]
  rfl
theorem nls_words : ∀ (ms : List (Str × List Str)), W.nls (ms.map wWord) = true
  | [] => by rw [List.map_nil, W.nls]
  | m :: ms => by rw [List.map_cons, W.nls, nl_word, nls_words ms]; rfl
section
variable {P : Program} {w : World} {K : PySem.W.Frag} {mg : Str → Option Value} {base : Heap} {CT CB : Addr}
theorem sm_claims {ms : List (Str × List Str)} (h : IsMarks ms) : Sm 3 (.lst (ms.map wWord)) := Sm.lst (by rw [List.length_map]; have := h.len; omega) fun x hx => by
  obtain ⟨m, hm, rfl⟩ := List.mem_map.mp hx
  exact Sm.tup (by show 2 ≤ 1000; decide) fun y hy => by
    rcases List.mem_cons.mp hy with rfl | hy
    · exact Sm.str _ _
    · rw [List.mem_singleton.mp hy]
      exact Sm.tup (by rw [strs_len]; have := (fact_nms (h.wd m hm).fact).2; omega) fun z hz => by
        obtain ⟨s, _, rfl⟩ := List.mem_map.mp hz
        exact Sm.str _ _
theorem sm_w3 {ms : List (Str × List Str)} (h : IsMarks ms) (z : Str) : Sm 4 (.lst [.str z, .str z, .lst (ms.map wWord)]) := Sm.lst (by show 3 ≤ 1000; decide) fun x hx => by
  rcases List.mem_cons.mp hx with rfl | hx
  · exact Sm.str _ _
  · rcases List.mem_cons.mp hx with rfl | hx
    · exact Sm.str _ _
    · rw [List.mem_singleton.mp hx]; exact sm_claims h
theorem sm_r3 {ms : List (Str × List Str)} (h : IsMarks ms) (z : Str) : Sm 4 (.lst [.lst (ms.map wWord), .lst (ms.map wWord), .str z]) := Sm.lst (by show 3 ≤ 1000; decide) fun x hx => by
  rcases List.mem_cons.mp hx with rfl | hx
  · exact sm_claims h
  · rcases List.mem_cons.mp hx with rfl | hx
    · exact sm_claims h
    · rw [List.mem_singleton.mp hx]; exact Sm.str _ _
abbrev NFs : List Str := ["_law_state", "_law_many_z", "_law_rows", "_law_long", "_law_claims", "_law_given", "_law_back", "_law_row"]
theorem sc_law_facts_so : FnScope NFs ["_law_state", "_law_many_z"] (C8.fnScope (top 78)) := C8.fnScope_by (by decide +kernel)
theorem ok_law_facts_so {PP : Addr} (G : GDef K mg "_law_facts_so" (top 78)) (T : Txt K mg) (c1 : C8.Cal P w K mg base 5 "_law_drawn_rows" (spS fDrawn) []) (c2 : C8.Cal P w K mg base 1 "_law_rows_text" (spD fRowsText) [])
    (w1 : C8.Cal P w K mg base 2 "write_facts" (spD fWriteFacts) []) (w2 : CalK P w K mg base 2 "write_facts" ["facts"] (spD fWriteFacts)) (r1 : C8.Cal P w K mg base 5 "read_facts" (spD fReadFacts) []) (r2 : CalK P w K mg base 5 "read_facts" ["text"] (spD fReadFacts))
    (c3 : C8.Cal P w K mg base 4 "_law_same" (spD (fSame 3)) []) (c5 : C8.Cal P w K mg base 5 "_law_same" (spD (fSame 4)) []) : C8.Cal P w K mg base 6 "_law_facts_so" (spST (tabR PP) fSo) [] := by
  have nd := sc_law_facts_so.nd
  refine cal_ST G sc_law_facts_so (fun _ _ _ _ _ _ us hl => match us, hl with | [_, _], _ => rfl) (fun ws P ⟨n, e, _⟩ => by rw [e]; rfl) (by simp) fun f cdv A outer s H E st' ex ws P' hr h => ?_
  obtain ⟨mz, rfl, p⟩ := h
  refine wss_cons ?_
  walk_at "k"
  refine we_cs 0 c1 ‹Room _ _› (by decide) rfl rfl (by first | exact .inl rfl | exact .inr (.inl rfl) | exact .inr (.inr rfl)) rfl rfl ?_
  repeat walk_at "k"
  refine ⟨"facts", mz, rfl, .inr (.inr ⟨rfl, fun ms hm => ?_⟩)⟩
  have hrows := fact_rows hm
  have h30 := hm.len
  have hlen : (ms.map fRow).length ≤ 100 := by rw [List.length_map]; omega
  refine wss_cons (vs_par2 3 4 rfl nd rfl rfl (by decide) rfl rfl (by rfl) (by rfl) ?_)
  refine wa_cons (we_c c2 ‹Room _ _› (by decide) rfl ?_)
  refine wa_cons ?_
  walk_at "n"
  refine wa_nil ⟨ms.map fRow, rfl, hrows, hlen, ?_⟩
  refine wa_cons (we_lc [("_law_row", 7)] rfl nd (blkOk_by (own := [("_law_row", 7)]) (N := NFs) (sc := C8.fnScope (top 78)) (by decide +kernel)) (wlc_M (x_iterL ?_)))
  walk_at "n"
  refine lst_i ?_
  refine ⟨by rw [List.length_map, List.length_map]; exact line_of (by omega), fun i _ => (ms[i]?).elim .non wWord, fun i d hd Dd => ?_, ?_⟩
  · obtain ⟨r, hr', rfl⟩ := rowsW_get hd
    obtain ⟨q, hq', rfl⟩ := map_get hr'
    repeat walk_at "k"
    show _ = Option.elim _ _ _
    rw [hq']
    rfl
  have e : ((ms.map fRow).map wl).mapIdx (fun i _ => (ms[i]?).elim W.non wWord) = ms.map wWord := by
    rw [List.map_map]
    exact idx_map
  rw [e]
  refine wa_nil ⟨_, _, rfl, ?_⟩
  repeat walk_at "k"
  refine we_c c5 ‹Room _ _› (by decide) rfl (wa_cons (we_lst (k := 0) (wa_cons (we_c w1 ‹Room _ _› (by decide) rfl ?_))))
  refine wa_cons ?_
  walk_at "n"
  refine wa_nil ⟨ms, _, rfl, .inl rfl, hm, ?_⟩
  refine wa_cons (we_cK w2 ‹Room _ _› (by decide) rfl (x_tuple ‹Txt _ _› rfl rfl ?_))
  walk_at "n"
  refine ⟨ms, _, rfl, .inr rfl, hm, ?_⟩
  refine wa_cons ?_
  walk_at "n"
  refine wa_nil ⟨lit_line rfl, ?_⟩
  repeat walk_at "k"
  refine ⟨⟨sm_w3 hm _⟩, ?_⟩
  refine bl_i ?_
  refine wss_nil ?_
  refine wss_cons (vs_setNew 3 6 r1 ‹Room _ _› (by decide) rfl rfl (by first | exact .inl rfl | exact .inr (.inl rfl) | exact .inr (.inr rfl)) nd rfl (by first | exact .inl rfl | exact .inr rfl) (by first | exact .inl rfl | exact .inr rfl) rfl ⟨ms, rfl, hm, _, rfl, nls_words ms, fun b => ?_⟩ rfl rfl)
  refine wss_cons (ws_if (vt_borrow 6 rfl (wt_not (x_val (by intro _; rfl) (we_c c5 ‹Room _ _› (by decide) rfl (wa_cons (we_lst (k := 0) ?_)))))))
  refine wa_cons ?_
  walk_at "n"
  refine wa_cons (we_cK r2 ‹Room _ _› (by decide) rfl ?_)
  walk_at "n"
  refine ⟨ms, rfl, hm, ?_⟩
  refine wa_cons (we_c w1 ‹Room _ _› (by decide) rfl ?_)
  refine wa_cons ?_
  walk_at "n"
  refine wa_nil ⟨ms, _, rfl, .inl rfl, hm, ?_⟩
  refine wa_nil ⟨lit_line rfl, ?_⟩
  repeat walk_at "k"
  refine ⟨⟨sm_r3 hm _⟩, ?_⟩
  refine bl_i ?_
  refine wss_nil ?_
  refine wss_cons (vs_append 6 rfl (by first | exact .inl rfl | exact .inr (.inl rfl) | exact .inr (.inr rfl)) rfl ?_ (fun a b => ps_expr (pe_bm PySem.F.plainAttrs_list PySem.F.slot_list_append PySem.F.type_list_append mt_append a (pa_cons b pa_nil))))
  refine we_str ⟨line6 (by rw [List.length_map]; omega), ?_⟩
  refine wss_cons (ws_ret (we_c c3 ‹Room _ _› (by decide) rfl (wa_cons (we_c r1 ‹Room _ _› (by decide) rfl ?_))))
  refine wa_cons ?_
  walk_at "n"
  refine wa_nil ⟨ms, rfl, hm, ?_⟩
  refine wa_cons ?_
  walk_at "n"
  exact wa_nil ⟨_, rfl, ⟨sm_claims hm⟩, p⟩
end
/-! PE14 -/
/-! ### the law's start -/
section
variable {P : Program} {w : World} {K : PySem.W.Frag} {mg : Str → Option Value} {base : Heap}
abbrev wStart (ns : List Int) (m : Int) : W := .lst [.lst (ns.map W.int), .int 0, .int 0, .int m, .int 0]
def spStart (K : PySem.W.Frag) : Sp := fun vs H Q _ => ∃ (a : Addr) (ns : List Int) (own : Int) (T : List (Addr × Str)), vs = [.ref a, .int own] ∧ SqL K H a (ns.map V.int) ∧ ns.length ≤ 63 ∧ 0 ≤ own ∧ own < 2147483563 ∧ LamX.Tabs T H ∧
  ∀ m v H', D H' [] (wStart ns m) v → Kp [] H [] H' → LamX.Tabs T H' → Q v H'
abbrev NSa : List Str := ["_law_script", "_law_own", "_law_mixed", "_law_cell"]
theorem sc_law_start : FnScope NSa ["_law_script", "_law_own"] (C8.fnScope (top 54)) := C8.fnScope_by (by decide +kernel)
theorem law_start_body (T : Txt K mg) {f : Addr} {cdv : Value} {A : Around} {outer : List Env} {s : Shared} {H : Hp} {E : XK} {a : Addr} {ns : List Int} {own : Int} {T' : List (Addr × Str)} (hl : ns.length ≤ 63) (h0 : 0 ≤ own) (h1 : own < 2147483563) :
    WSs (bx P w K mg base NSa "_law_start" (top 54) f cdv A outer s H E) ⟨[some (sqTh K a (ns.map V.int)), some (.dat (.int own)), none, none], [], none, [], T'⟩ (C8.fnBody (top 54)) (fun _ => False) (fun w => ∃ m, w = wStart ns m) := by
  have nd := sc_law_start.nd
  refine wss_cons ?_
  walk_at "k"
  walk_at "n"
  refine wss_cons (ws_for [3] PassesOwn.never rfl (x_iterL (we_cut63 (a := a) (ns := ns) 0 rfl (by first | exact .inl rfl | exact .inr (.inl rfl) | exact .inr (.inr rfl)) rfl hl ?_)))
  refine lst_i ?_
  refine ⟨fun i c1 => ∃ (r3 : Option Th) (m : Int), 0 ≤ m ∧ m < 2147483563 ∧ c1 = ⟨[some (sqTh K a (ns.map V.int)), some (.dat (.int own)), some (.dat (.int m)), r3], [], none, [], T'⟩, ⟨_, own, h0, h1, rfl⟩, fun i c1' d hd ⟨r3, m, m0, m1, e⟩ => ?_, fun c1' ⟨r3, m, m0, m1, e⟩ => ?_⟩
  · subst e
    obtain ⟨z, hz, rfl⟩ := map_get hd
    repeat walk_at "k"
    refine ⟨.inr ⟨by decide, by decide⟩, ?_⟩
    repeat walk_at "k"
    refine ⟨by decide, ?_⟩
    repeat walk_at "k"
    refine ⟨by decide, ?_⟩
    refine wss_nil ⟨_, _, Int.emod_nonneg _ (by decide), Int.emod_lt_of_pos _ (by decide), rfl⟩
  · subst e
    refine wss_cons (ws_ret (we_lst (k := 0) (wa_cons (we_lc [("_law_cell", 3)] rfl nd (blkOk_by (own := [("_law_cell", 3)]) (N := NSa) (sc := C8.fnScope (top 54)) (by decide +kernel)) (wlc_M (x_iterL (we_cut63 (a := a) (ns := ns) 0 rfl (by first | exact .inl rfl | exact .inr (.inl rfl) | exact .inr (.inr rfl)) rfl hl ?_)))))))
    refine lst_i ?_
    refine ⟨by rw [List.length_map]; exact line6 (by omega), fun i _ => (ns[i]?).elim .non W.int, fun i d hd Dd => ?_, ?_⟩
    · obtain ⟨z, hz, rfl⟩ := map_get hd
      repeat walk_at "k"
      show _ = Option.elim _ _ _
      rw [hz]
      rfl
    rw [idx_map]
    repeat walk_at "k"
    exact ⟨m, rfl⟩
theorem ok_law_start (G : GDef K mg "_law_start" (top 54)) (T : Txt K mg) : C8.Cal P w K mg base 1 "_law_start" (spStart K) [] :=
  G.cal sc_law_start (fun _ _ _ _ _ _ us hl => match us, hl with | [_, _], _ => rfl) (fun vs H Q E ⟨a, ns, own, T', e, _⟩ => by rw [e]; rfl) fun f cdv A outer s H vs Q E hr ⟨a, ns, own, T', e, sq, hl, h0, h1, ht, q⟩ => by
    subst e
    have ev : EnvOk ⟨[some (sqTh K a (ns.map V.int)), some (.dat (.int own)), none, none], [], none, [], T'⟩ (L2.start NSa [.ref a, .int own]) H := ⟨rfl, fun i th g => by
      match i, g with
      | 0, g => cases (show some (some (sqTh K a (ns.map V.int))) = some (some th) from g); exact ⟨_, rfl, sqTh_of sq⟩
      | 1, g => cases (show some (some (Th.dat (.int own))) = some (some th) from g); exact ⟨_, rfl, (D.int own : D H ([] : List Addr) (.int own) (.int own))⟩
      | 2, g => cases (show some none = some (some th) from g)
      | 3, g => cases (show some none = some (some th) from g)
      | _ + 4, g => simp at g⟩
    exact law_start_body (P := P) (w := w) (K := K) (mg := mg) (base := base) T hl h0 h1 (L2.start NSa [.ref a, .int own]) H { nx := fun _ H' => Q .non H', rt := Q } ev ⟨fun _ h => (nomatch h), fun _ h => (nomatch h), List.nodup_nil, fun _ h => (nomatch h), ht⟩
      ⟨fun c' σ' H' n _ _ _ => n.elim, fun v w H' ⟨m, e⟩ ok => q m v H' (by have := ok.d; rw [e] at this; exact this) ok.kp ok.tb⟩
/-! ### the law -/
def spLaw (K : PySem.W.Frag) (T0 : List (Addr × Str)) : Sp := fun vs H Q _ => ∃ (a : Addr) (ns : List Int), vs = [.ref a] ∧ SqL K H a (ns.map V.int) ∧ ns.length ≤ 63 ∧ LamX.Tabs T0 H ∧ ∀ H', Q (.bl true) H'
abbrev NLw : List Str := ["_law_script", "_law_state", "_law_turn", "_law_many_z"]
theorem sc_law : FnScope NLw ["_law_script"] (C8.fnScope (top 79)) := C8.fnScope_by (by decide +kernel)
theorem rows0 : rowsT [] = ("" : Str) := by decide +kernel
theorem law_body {PP : Addr} (T : Txt K mg) (c1 : C8.Cal P w K mg base 1 "_law_draw" (spS fDraw) []) (w1 : C8.Cal P w K mg base 2 "write_facts" (spD fWriteFacts) []) (r1 : C8.Cal P w K mg base 5 "read_facts" (spD fReadFacts) []) (c5 : C8.Cal P w K mg base 5 "_law_same" (spD (fSame 4)) [])
    (t1 : C8.Cal P w K mg base 12 "_law_table_so" (spST (tabR PP) fSo) []) (t2 : C8.Cal P w K mg base 12 "_law_book_so" (spST (tabR PP) fSo) []) (t3 : C8.Cal P w K mg base 6 "_law_facts_so" (spST (tabR PP) fSo) [])
    {f : Addr} {cdv : Value} {A : Around} {outer : List Env} {s : Shared} {H : Hp} {E : XK} {st' : Addr × Addr} (hr : Room 12 (A.deeper (envOfC "law" (C8.fnScope (top 79)) s.heap.objs.size f cdv))) :
    WSs (bx P w K mg base NLw "law" (top 79) f cdv A outer s H E) ⟨[none, some (.adr st'.1), none, none], [], some st', [], tabR PP⟩ ((C8.fnBody (top 79)).drop 1) (fun _ => False) (fun w => w = .bl true) := by
  have nd := sc_law.nd
  refine wss_cons (ws_if (wt_not (x_val (by intro _; rfl) (we_c c5 ‹Room _ _› (by decide) rfl (wa_cons (we_lst (k := 0) ?_))))))
  refine wa_cons (we_c w1 ‹Room _ _› (by decide) rfl (wa_cons (we_lst (k := 0) (wa_nil ⟨lit_line rfl, ?_⟩))))
  refine wa_nil ⟨[], _, rfl, .inl rfl, ⟨(fun _ h => nomatch h), List.nodup_nil, Nat.zero_le _⟩, ?_⟩
  refine wa_cons (we_c w1 ‹Room _ _› (by decide) rfl (wa_cons (we_tup (wa_nil ⟨lit_line rfl, ?_⟩))))
  refine wa_nil ⟨[], _, rfl, .inr rfl, ⟨(fun _ h => nomatch h), List.nodup_nil, Nat.zero_le _⟩, ?_⟩
  refine wa_cons (we_c r1 ‹Room _ _› (by decide) rfl (wa_cons (we_str ?_)))
  refine wa_nil ⟨[], by rw [List.map_nil, rows0], ⟨(fun _ h => nomatch h), List.nodup_nil, Nat.zero_le _⟩, ?_⟩
  rw [List.map_nil, rows0]
  refine wa_nil ⟨lit_line rfl, ?_⟩
  repeat walk_at "k"
  refine ⟨⟨sm_w3 (ms := []) ⟨(fun _ h => nomatch h), List.nodup_nil, Nat.zero_le _⟩ ""⟩, ?_⟩
  refine bl_i ?_
  refine wss_nil ?_
  refine wss_cons (ws_for [2] PassesOwn.never rfl (x_range ‹Txt _ _› rfl rfl (we_int ?_)))
  refine int_i ?_
  refine ⟨by decide, by decide, fun _ c1 => ∃ r2 r3, c1 = ⟨[none, some (.adr st'.1), r2, r3], [], some st', [], tabR PP⟩, ⟨_, _, rfl⟩, fun i c1' d hd ⟨r2, r3, e⟩ => ?_, fun c1' ⟨r2, r3, e⟩ => ?_⟩
  · subst e
    obtain ⟨hi, rfl⟩ := rangeW_get hd
    walk_at "k"
    refine wss_cons (vs_set 3 nd rfl (by first | exact .inl rfl | exact .inr rfl) (by first | exact .inl rfl | exact .inr rfl) rfl ?_)
    refine xe_eq ‹Room _ _› (we_cs 1 c1 ‹Room _ _› (by decide) rfl rfl (by first | exact .inl rfl | exact .inr (.inl rfl) | exact .inr (.inr rfl)) rfl rfl ?_)
    refine wa_cons (we_int (wa_nil ⟨9, rfl, by decide, by decide, fun k hk => ?_⟩))
    refine we_int ?_
    refine wss_cons (ws_if (wt_or (wt_not (x_val (by intro _; rfl) (we_csT 1 t1 ‹Room _ _› (by decide) rfl rfl rfl (by first | exact .inl rfl | exact .inr (.inl rfl) | exact .inr (.inr rfl)) rfl rfl (wa_cons ?_))))))
    walk_at "n"
    refine wa_nil ⟨_, rfl, ?_⟩
    refine ww_or (wt_not (x_val (by intro _; rfl) (we_csT 1 t2 ‹Room _ _› (by decide) rfl rfl rfl (by first | exact .inl rfl | exact .inr (.inl rfl) | exact .inr (.inr rfl)) rfl rfl (wa_cons ?_))))
    walk_at "n"
    refine wa_nil ⟨_, rfl, ?_⟩
    refine ww_or1 (wt_not (x_val (by intro _; rfl) (we_csT 1 t3 ‹Room _ _› (by decide) rfl rfl rfl (by first | exact .inl rfl | exact .inr (.inl rfl) | exact .inr (.inr rfl)) rfl rfl (wa_cons ?_))))
    walk_at "n"
    refine wa_nil ⟨_, rfl, ?_⟩
    exact wss_nil (wss_nil ⟨_, _, rfl⟩)
  · subst e
    exact wss_cons (ws_ret (we_bl rfl))
/-- law(script) -/
theorem ok_law {PP : Addr} {f : Addr} {fd : FuncData} (F : FunD K "law" "law" (C8.fnArgs (top 79)) (C8.fnBody (top 79)) (C8.fnScope (top 79)) [] [] f fd) (T : Txt K mg) (s1 : C8.Cal P w K mg base 1 "_law_start" (spStart K) []) (c1 : C8.Cal P w K mg base 1 "_law_draw" (spS fDraw) []) (w1 : C8.Cal P w K mg base 2 "write_facts" (spD fWriteFacts) []) (r1 : C8.Cal P w K mg base 5 "read_facts" (spD fReadFacts) []) (c5 : C8.Cal P w K mg base 5 "_law_same" (spD (fSame 4)) [])
    (t1 : C8.Cal P w K mg base 12 "_law_table_so" (spST (tabR PP) fSo) []) (t2 : C8.Cal P w K mg base 12 "_law_book_so" (spST (tabR PP) fSo) []) (t3 : C8.Cal P w K mg base 6 "_law_facts_so" (spST (tabR PP) fSo) []) : FnOk P w K mg base C8.CX0 13 f fd ["_law_script"] (spLaw K (tabR PP)) :=
  fnOk_of F sc_law (fun vs H Q E ⟨a, ns, e, _⟩ => by rw [e]; rfl) fun f cdv A outer s H vs Q E hr ⟨a, ns, e, sq, hl, ht, q⟩ => by
    subst e
    have nd := sc_law.nd
    have st : ESs (bx P w K mg base NLw "law" (top 79) f cdv A outer s H E) (C8.fnBody (top 79)) { nx := fun _ H' => Q .non H', rt := Q } (L2.start NLw [.ref a]) H := by
      refine ⟨_, pss_cons (L2.ps_set (i := 1) nd rfl (by first | exact .inl rfl | exact .inr rfl) (C8.pe_c s1 ‹Room _ _› (by decide) rfl (pa_cons (pe_var (i := 0) rfl (by first | exact .inl rfl | exact .inr (.inl rfl) | exact .inr (.inr rfl))) (pa_cons pe_int pa_nil)))) E_pss, ?_⟩
      refine ⟨.ref a, rfl, ?_⟩
      refine ⟨a, ns, _, tabR PP, rfl, sq, hl, by decide, by decide, ht, fun m v H' d kp ht' => ?_⟩
      obtain ⟨l1, xs, rfl, _, h1, dd⟩ := D.lst_iff.mp d
      obtain ⟨v1, r, rfl, d1, d3⟩ := DA.cons_iff.mp dd
      obtain ⟨l2, ys, rfl, _, h2, d2⟩ := D.lst_iff.mp d1
      cases DA.ints_iff d2
      cases DA.ints_iff (zs := [0, 0, m, 0]) d3
      have hne : l2 ≠ l1 := fun z => by
        rw [z, h1] at h2
        have e := HO.lst.inj (Option.some.inj h2)
        cases ns with
        | nil => cases e
        | cons n ns => injection e with e _; cases e
      have sok : StOk H' [l1] (l1, l2) := ⟨ns, 0, 0, m, 0, h1, by simpa using hne, h2⟩
      refine law_body (P := P) (w := w) (K := K) (mg := mg) (base := base) (st' := (l1, l2)) T c1 w1 r1 c5 t1 t2 t3 hr _ H' _ ?_ ⟨fun _ h => (nomatch h), fun x h => by cases h; exact sok, List.nodup_cons.mpr ⟨(fun z => nomatch z), List.nodup_nil⟩, fun _ h => (nomatch h), ht'⟩ ⟨fun c' σ' H' n _ _ _ => n.elim, fun v w H' e ok => ?_⟩
      · refine ⟨rfl, fun i th g => ?_⟩
        match i, g with
        | 0, g => cases (show some none = some (some th) from g)
        | 1, g => cases (show some (some (Th.adr l1)) = some (some th) from g); exact ⟨_, rfl, rfl⟩
        | 2, g => cases (show some none = some (some th) from g)
        | 3, g => cases (show some none = some (some th) from g)
        | _ + 4, g => simp at g
      · subst e
        cases D.bl_iff.mp ok.d
        exact q H'
    exact st
end
end K11
/-! HX2 -/
namespace K11
open PySem PySem.Spec PyProof.Rows L2
section
variable {P : Program} {w : World} {K : PySem.W.Frag} {mg : Str → Option Value} {base h : Heap}
/-! ### what the head's facts give -/
theorem hd_gdef (c : HdSays w h K) (X : K.In h) (G : h.Ns mainGlobals mg) (x : Str) (i j k : Nat) (hj : hdFn[j]? = some (dfG x i)) (hk : hdFa[k]? = some (.glo x)) : GDef K mg x (top i) := by
  obtain ⟨fd, F⟩ := c.t.d.def_ j hj
  exact ⟨_, fd, F, He.glo_ok X G (c.t.d.fact k hk)⟩
theorem hd_mdef (c : HdSays w h K) (C : Str) (i : Nat) (m : Str) (n : Nat) (q : Str) (j k l : Nat) (hj : hdFn[j]? = some (dfM C i m n q [])) (hk : hdFa[k]? = some (.meth C m)) (hl : hdFa[l]? = some (.cls C)) : MDef K (He.ga K C) m q (mth i n) := by
  obtain ⟨fd, F⟩ := c.t.d.def_ j hj
  have m1 := c.t.d.fact k hk
  refine ⟨_, fd, F, He.cls_ok (c.t.d.fact l hl), He.meth_ok m1, ?_⟩
  exact (Bool.and_eq_true_iff.mp (Bool.and_eq_true_iff.mp m1).2).1
theorem hd_ins {C : Addr} (cl : Cls K C) (e : insB K C = true) : C8.InsC K C := by
  obtain ⟨e1, e⟩ := Bool.and_eq_true_iff.mp e
  obtain ⟨e2, e⟩ := Bool.and_eq_true_iff.mp e
  obtain ⟨e3, e⟩ := Bool.and_eq_true_iff.mp e
  obtain ⟨e4, e5⟩ := Bool.and_eq_true_iff.mp e
  exact ⟨cl, He.eqO_ok e1, He.eqO_ok e2, of_decide_eq_true e3, of_decide_eq_true e4, of_decide_eq_true e5⟩
theorem hd_read {C : Addr} (e : PySem.W.readsIn K C (.type "type") = true) : ClX.CRead K C (.type "type") := by
  refine ⟨e, ?_⟩
  unfold PySem.W.readsIn at e
  simp only [Bool.and_eq_true, beq_iff_eq] at e
  unfold PySem.W.specialIn
  rw [e.1.1.1.2]
  exact e.1.1.2
theorem hd_sdef (c : HdSays w h K) (C : Str) (i j : Nat) (q : Str) (k : Nat) (hk : hdSm[k]? = some (dfS C i j q)) (e : clsR K (He.ga K C) = true) (eo : (hdSm.all fun d => d.ok K) = true) : SDef K (He.ga K C) "read" q (mth i j) := by
  obtain ⟨e1, e2⟩ := Bool.and_eq_true_iff.mp e
  obtain ⟨w1, w2⟩ := He5.wrapB_ok e2
  have s2 : (hdSm.map fun d => He5.fnA K (d.at_ K))[k]? = (hdSm.map He5.DefA.val)[k]? := by rw [c.sm]
  rw [List.getElem?_map, List.getElem?_map, hk] at s2
  obtain ⟨fd, F⟩ := He5.DefA.funD (Option.some.inj s2) (List.all_eq_true.mp eo _ (List.mem_of_getElem? hk))
  exact ⟨_, _, _, fd, hd_read e1, w1, w2, F.kp, F⟩
theorem hd_val (c : HdSays w h K) (X : K.In h) (G : h.Ns mainGlobals mg) (x : Str) (i : Int) (k : Nat) (hk : hdFa[k]? = some (.int x i)) : ∃ u, mg x = some u ∧ RelV (.int i) u := by
  obtain ⟨t, e⟩ := He.int_ok X G (c.t.d.fact k hk)
  exact ⟨_, e, t, rfl⟩
theorem hd_txt (c : HdSays w h K) (X : K.In h) (G : h.Ns mainGlobals mg) : Txt K mg := by
  refine ⟨fun x hx => ?_, ?_, hd_val c X G _ _ 71 rfl⟩
  · simp only [bltN, List.mem_cons, List.not_mem_nil, or_false] at hx
    rcases hx with rfl | rfl | rfl | rfl | rfl | rfl | rfl | rfl | rfl | rfl | rfl | rfl | rfl | rfl | rfl | rfl
    · exact He.free_ok X G (c.t.d.fact 0 rfl)
    · exact He.free_ok X G (c.t.d.fact 1 rfl)
    · exact He.free_ok X G (c.t.d.fact 2 rfl)
    · exact He.free_ok X G (c.t.d.fact 3 rfl)
    · exact He.free_ok X G (c.t.d.fact 4 rfl)
    · exact He.free_ok X G (c.t.d.fact 5 rfl)
    · exact He.free_ok X G (c.t.d.fact 6 rfl)
    · exact He.free_ok X G (c.t.d.fact 7 rfl)
    · exact He.free_ok X G (c.t.d.fact 8 rfl)
    · exact He.free_ok X G (c.t.d.fact 9 rfl)
    · exact He.free_ok X G (c.t.d.fact 10 rfl)
    · exact He.free_ok X G (c.t.d.fact 11 rfl)
    · exact He.free_ok X G (c.t.d.fact 12 rfl)
    · exact He.free_ok X G (c.t.d.fact 13 rfl)
    · exact He.free_ok X G (c.t.d.fact 14 rfl)
    · exact He.free_ok X G (c.t.d.fact 15 rfl)
  · obtain ⟨t, e⟩ := He.str_ok X G (c.t.d.fact 70 rfl)
    exact ⟨_, e, t, rfl⟩
theorem hd_tx2 (c : HdSays w h K) (X : K.In h) (G : h.Ns mainGlobals mg) : Tx2 K mg := ⟨hd_val c X G _ _ 72 rfl, hd_val c X G _ _ 73 rfl, hd_val c X G _ _ 74 rfl, hd_val c X G _ _ 75 rfl, hd_val c X G _ _ 76 rfl⟩
theorem hd_sz (c : HdSays w h K) (X : K.In h) (G : h.Ns mainGlobals mg) : SzF K w mg := by
  obtain ⟨es, n, kd⟩ := c.t.tab 0 (t := (fun K => He.ga K "SIZES", ["before", "first", "last"])) rfl
  have vb : He.valsB K (He.ga K "SIZES") szVals = true := (Bool.and_eq_true_iff.mp c.ex).1
  have gv : ∀ q ∈ szVals, KDct K w (He.ga K "SIZES") q.1 (q.2.v K) := fun q hq => by
    obtain ⟨u, e, r⟩ := He.valsB_ok vb hq
    exact ⟨es, n, u, kd.at_, kd.lit, e, r⟩
  exact ⟨_, He.glo_ok X G (c.t.d.fact 69 rfl), kd.low, gv ("before", .int 3) (by simp [szVals]), gv ("first", .int 2) (by simp [szVals]), gv ("last", .int 2) (by simp [szVals])⟩
theorem hd_bk (c : HdSays w h K) (X : K.In h) (G : h.Ns mainGlobals mg) : BkF K mg (He.ga K "Book") := by
  have cl : Cls K (He.ga K "Book") := He.cls_ok (c.t.d.fact 77 rfl)
  exact ⟨cl, hd_ins cl (Bool.and_eq_true_iff.mp (Bool.and_eq_true_iff.mp c.ex).2).1, He.noat_ok (c.t.d.fact 79 rfl), He.noat_ok (c.t.d.fact 80 rfl), He.glo_ok X G (c.t.d.fact 67 rfl)⟩
theorem hd_tb (c : HdSays w h K) (X : K.In h) (G : h.Ns mainGlobals mg) : TbF K mg (He.ga K "Table") := by
  have cl : Cls K (He.ga K "Table") := He.cls_ok (c.t.d.fact 78 rfl)
  exact ⟨cl, hd_ins cl (Bool.and_eq_true_iff.mp (Bool.and_eq_true_iff.mp (Bool.and_eq_true_iff.mp c.ex).2).2).1, He.noat_ok (c.t.d.fact 81 rfl), He.noat_ok (c.t.d.fact 82 rfl), He.glo_ok X G (c.t.d.fact 68 rfl)⟩
theorem hd_ini_t (c : HdSays w h K) (X : K.In h) (G : h.Ns mainGlobals mg) : IDef K mg "Table" (He.ga K "Table") "Table.__init__" (mth 52 0) ["self", "holdings"] := by
  obtain ⟨fd, F⟩ := c.t.d.def_ 52 (d := dfM "Table" 52 "__init__" 0 "Table.__init__" []) rfl
  have b : Binds K fd ["self", "holdings"] [] := FunD.bindsN F fun _ _ _ _ _ _ us hl => match us, hl with | [_, _], _ => rfl
  exact ⟨_, fd, FunD.toFun F, He.mkr_ok (c.t.d.fact 84 rfl), He.glo_ok X G (c.t.d.fact 68 rfl), b⟩
theorem hd_ini_b (c : HdSays w h K) (X : K.In h) (G : h.Ns mainGlobals mg) : IDef K mg "Book" (He.ga K "Book") "Book.__init__" (mth 33 0) ["self", "finds", "words"] := by
  obtain ⟨fd, F⟩ := c.t.d.def_ 51 (d := dfM "Book" 33 "__init__" 0 "Book.__init__" [.adr (He.dflAt ("Book", some "__init__") 0)]) rfl
  obtain ⟨ds, rd, b⟩ := FunD.binds1 (ps := ["self", "finds", "words"]) F 3 1 (fun z => by cases z) rfl fun T kV doc pm an cdv ct us its l1 l2 => match us, its, l1, l2 with
    | [_, _, _], [_], _, _ => ⟨_, rfl, rfl⟩
  cases rd
  exact ⟨_, fd, FunD.toFun F, He.mkr_ok (c.t.d.fact 83 rfl), He.glo_ok X G (c.t.d.fact 67 rfl), b⟩
theorem hd_reader (c : HdSays w h K) (X : K.In h) (G : h.Ns mainGlobals mg) : GDefC K mg "_law_reader" (top 73) (He.codeOf K ("_law_reader", none)) := by
  obtain ⟨fd, F⟩ := c.t.d.def_ 44 (d := dfG "_law_reader" 73) rfl
  have gl := He.glo_ok X G (c.t.d.fact 60 (f := .glo "_law_reader") rfl)
  refine ⟨_, fd, F, gl, ?_⟩
  obtain ⟨oc, od, dV, kV, doc, pm, an, cdv, ct, osl, e, lk, hcd, _, _⟩ := F.ex
  obtain ⟨a, ha⟩ := He.codeIn_ref hcd
  subst e
  subst ha
  rw [He.codeOf_eq (K := K) (p := ("_law_reader", none)) lk rfl]
/-- the law, from the head's facts -/
theorem hd_law {f : Addr} (c : HdSays w h K) (X : K.In h) (G : h.Ns mainGlobals mg) (hf : mg "law" = some (.ref f)) : ∃ fd : FuncData, (∀ (s : Shared) (v : Value), BindsTo s fd ⟨[v], []⟩ [("_law_script", v)]) ∧
    ∀ base : Heap, LamX.TabB base mg (He.cT K ("_law_reader", none)).1 (He.cT K ("_law_reader", none)).2 → FnOk P w K mg base C8.CX0 13 f fd ["_law_script"] (spLaw K (tabR (He.cT K ("_law_reader", none)).2)) := by
  obtain ⟨fd, F⟩ := c.t.d.def_ 50 (d := dfG "law" 79) rfl
  have ef := hf.symm.trans (He.glo_ok X G (c.t.d.fact 66 (f := .glo "law") rfl))
  cases ef
  refine ⟨fd, fun s v => FunD.bindsA (ps := ["_law_script"]) F (fun _ _ _ _ _ _ us hl => match us, hl with | [_], _ => rfl) s [v] rfl, fun base TB => ?_⟩
  have T := hd_txt c X G
  have T2 := hd_tx2 c X G
  have S := hd_sz c X G
  have BB := hd_bk c X G
  have BT := hd_tb c X G
  have so : (hdSm.all fun d => d.ok K) = true := (Bool.and_eq_true_iff.mp (Bool.and_eq_true_iff.mp (Bool.and_eq_true_iff.mp (Bool.and_eq_true_iff.mp (Bool.and_eq_true_iff.mp c.ex).2).2).2).2).2
  have rB : clsR K (He.ga K "Book") = true := (Bool.and_eq_true_iff.mp (Bool.and_eq_true_iff.mp (Bool.and_eq_true_iff.mp (Bool.and_eq_true_iff.mp c.ex).2).2).2).1
  have rT : clsR K (He.ga K "Table") = true := (Bool.and_eq_true_iff.mp (Bool.and_eq_true_iff.mp (Bool.and_eq_true_iff.mp (Bool.and_eq_true_iff.mp (Bool.and_eq_true_iff.mp c.ex).2).2).2).2).1
  have k_is_name := ok_is_name (P := P) (w := w) (base := base) (hd_gdef c X G "is_name" 14 0 16 rfl rfl) T
  have k_is_lot := ok_is_lot (P := P) (w := w) (base := base) (hd_gdef c X G "is_lot" 16 1 17 rfl rfl) T k_is_name
  have k_is_lot_of := ok_is_lot_of (P := P) (w := w) (base := base) (hd_gdef c X G "is_lot_of" 17 2 18 rfl rfl) T k_is_lot
  have k_split_lines := ok_split_lines (P := P) (w := w) (base := base) (hd_gdef c X G "split_lines" 19 3 19 rfl rfl) T
  have k_need_line := ok_need_line (P := P) (w := w) (base := base) (hd_gdef c X G "need_line" 20 4 20 rfl rfl) T
  have k_check_line := ok_check_line (P := P) (w := w) (base := base) (hd_gdef c X G "check_line" 21 5 21 rfl rfl) T
  have k_check_tail := ok_check_tail (P := P) (w := w) (base := base) (hd_gdef c X G "check_tail" 22 6 22 rfl rfl) T
  have k_joined_lines := ok_joined_lines (P := P) (w := w) (base := base) (hd_gdef c X G "joined_lines" 23 7 23 rfl rfl) T
  have k_check_finds := ok_check_finds (P := P) (w := w) (base := base) (hd_gdef c X G "check_finds" 27 8 24 rfl rfl) T T2 k_is_name
  have k_is_word := ok_is_word (P := P) (w := w) (base := base) (hd_gdef c X G "is_word" 28 9 25 rfl rfl) T k_is_name k_is_lot_of
  have k_check_words := ok_check_words (P := P) (w := w) (base := base) (hd_gdef c X G "check_words" 29 10 26 rfl rfl) T T2 k_is_word
  have k_fault_of_finds := ok_fault_of_finds (P := P) (w := w) (base := base) (hd_gdef c X G "fault_of_finds" 30 11 27 rfl rfl) T T2 k_is_lot
  have k_fault_of_word := ok_fault_of_word (P := P) (w := w) (base := base) (hd_gdef c X G "fault_of_word" 31 12 28 rfl rfl) T T2 k_is_name k_is_lot k_is_lot_of
  have k_read_rows := ok_read_rows (P := P) (w := w) (base := base) (hd_gdef c X G "read_rows" 32 13 29 rfl rfl) T k_split_lines k_need_line k_check_line k_check_tail k_fault_of_finds k_fault_of_word
  have k_book_init := ok_book_init (P := P) (w := w) (base := base) (hd_ini_b c X G) BB T k_check_finds k_check_words
  have k_book_finds := ok_book_finds (P := P) (w := w) (base := base) (hd_mdef c "Book" 33 "finds" 1 "Book.finds" 53 85 77 rfl rfl rfl) BB T
  have k_book_words := ok_book_words (P := P) (w := w) (base := base) (hd_mdef c "Book" 33 "words" 2 "Book.words" 54 86 77 rfl rfl rfl) BB T
  have k_book_contains := ok_book_contains (P := P) (w := w) (base := base) (hd_mdef c "Book" 33 "__contains__" 12 "Book.__contains__" 57 89 77 rfl rfl rfl) BB T
  have k_book_eq := ok_book_eq (P := P) (w := w) (base := base) (hd_mdef c "Book" 33 "__eq__" 13 "Book.__eq__" 58 90 77 rfl rfl rfl) BB T
  have k_book_text := ok_book_text (P := P) (w := w) (base := base) (hd_mdef c "Book" 33 "text" 8 "Book.text" 56 88 77 rfl rfl rfl) BB T k_joined_lines
  have k_book_str := ok_book_str (P := P) (w := w) (base := base) (hd_mdef c "Book" 33 "__str__" 16 "Book.__str__" 59 91 77 rfl rfl rfl) BB T k_book_text
  have k_book_without := ok_book_without (P := P) (w := w) (base := base) (hd_mdef c "Book" 33 "without" 6 "Book.without" 55 87 77 rfl rfl rfl) BB T k_book_contains k_book_init
  have k_book_read := ok_book_read (P := P) (w := w) (base := base) (hd_sdef c "Book" 33 9 "Book.read" 0 rfl rB so) T k_read_rows k_book_init
  have k_is_fact := ok_is_fact (P := P) (w := w) (base := base) (hd_gdef c X G "is_fact" 37 14 30 rfl rfl) T S k_is_name
  have k_is_marked_fact := ok_is_marked_fact (P := P) (w := w) (base := base) (hd_gdef c X G "is_marked_fact" 38 15 31 rfl rfl) T k_is_name k_is_fact
  have k_write_facts := ok_write_facts (P := P) (w := w) (base := base) (hd_gdef c X G "write_facts" 39 16 32 rfl rfl) T k_joined_lines
  have k_fact_in := ok_fact_in (P := P) (w := w) (base := base) (hd_gdef c X G "fact_in" 40 17 33 rfl rfl) T k_is_marked_fact
  have k_fault_of_fact := ok_fault_of_fact (P := P) (w := w) (base := base) (hd_gdef c X G "fault_of_fact" 41 18 34 rfl rfl) T T2
  have k_read_facts := ok_read_facts (P := P) (w := w) (base := base) (hd_gdef c X G "read_facts" 42 19 35 rfl rfl) T k_split_lines k_check_line k_check_tail k_fact_in k_fault_of_fact
  have k_is_holding := ok_is_holding (P := P) (w := w) (base := base) (hd_gdef c X G "is_holding" 46 20 36 rfl rfl) T k_is_name
  have k_kinds_in := ok_kinds_in (P := P) (w := w) (base := base) (hd_gdef c X G "kinds_in" 47 21 37 rfl rfl) T
  have k_check_holdings := ok_check_holdings (P := P) (w := w) (base := base) (hd_gdef c X G "check_holdings" 48 22 38 rfl rfl) T T2 k_is_holding k_kinds_in
  have k_holding_in := ok_holding_in (P := P) (w := w) (base := base) (hd_gdef c X G "holding_in" 49 23 39 rfl rfl) T k_is_name k_is_lot
  have k_fault_of_holding := ok_fault_of_holding (P := P) (w := w) (base := base) (hd_gdef c X G "fault_of_holding" 50 24 40 rfl rfl) T T2 k_kinds_in
  have k_read_holdings := ok_read_holdings (P := P) (w := w) (base := base) (hd_gdef c X G "read_holdings" 51 25 41 rfl rfl) T k_split_lines k_need_line k_check_line k_check_tail k_holding_in k_fault_of_holding
  have k_table_init := ok_table_init (P := P) (w := w) (base := base) (hd_ini_t c X G) BT T k_check_holdings
  have k_table_finds := ok_table_finds (P := P) (w := w) (base := base) (hd_mdef c "Table" 52 "finds" 1 "Table.finds" 60 92 78 rfl rfl rfl) BT T
  have k_table_contains := ok_table_contains (P := P) (w := w) (base := base) (hd_mdef c "Table" 52 "__contains__" 8 "Table.__contains__" 63 95 78 rfl rfl rfl) BT T
  have k_table_kinds_of := ok_table_kinds_of (P := P) (w := w) (base := base) (hd_mdef c "Table" 52 "kinds_of" 3 "Table.kinds_of" 61 93 78 rfl rfl rfl) BT T k_table_contains
  have k_table_text := ok_table_text (P := P) (w := w) (base := base) (hd_mdef c "Table" 52 "text" 6 "Table.text" 62 94 78 rfl rfl rfl) BT T k_joined_lines k_table_kinds_of
  have k_table_str := ok_table_str (P := P) (w := w) (base := base) (hd_mdef c "Table" 52 "__str__" 11 "Table.__str__" 65 97 78 rfl rfl rfl) BT T k_table_text
  have k_table_eq := ok_table_eq (P := P) (w := w) (base := base) (hd_mdef c "Table" 52 "__eq__" 9 "Table.__eq__" 64 96 78 rfl rfl rfl) BT T
  have k_table_read := ok_table_read (P := P) (w := w) (base := base) (hd_sdef c "Table" 52 7 "Table.read" 1 rfl rT so) T k_read_holdings k_table_init
  have k_law_draw := ok_law_draw (P := P) (w := w) (base := base) (hd_gdef c X G "_law_draw" 55 27 43 rfl rfl) T
  have k_law_pick := ok_law_pick (P := P) (w := w) (base := base) (hd_gdef c X G "_law_pick" 56 28 44 rfl rfl) T k_law_draw
  have k_law_shuffle := ok_law_shuffle (P := P) (w := w) (base := base) (hd_gdef c X G "_law_shuffle" 57 29 45 rfl rfl) T k_law_draw
  have k_law_letters := ok_law_letters (P := P) (w := w) (base := base) (hd_gdef c X G "_law_letters" 58 30 46 rfl rfl)
  have k_law_word := ok_law_word (P := P) (w := w) (base := base) (hd_gdef c X G "_law_word" 59 31 47 rfl rfl) T k_law_draw k_law_letters
  have k_law_names := ok_law_names (P := P) (w := w) (base := base) (hd_gdef c X G "_law_names" 60 32 48 rfl rfl) T k_law_draw k_law_letters k_law_pick k_law_word k_law_shuffle
  have k_law_subset := ok_law_subset (P := P) (w := w) (base := base) (hd_gdef c X G "_law_subset" 61 33 49 rfl rfl) T k_law_draw k_law_pick
  have k_law_stretch := ok_law_stretch (P := P) (w := w) (base := base) (hd_gdef c X G "_law_stretch" 62 34 50 rfl rfl) T k_law_draw k_law_pick
  have k_law_fact := ok_law_fact (P := P) (w := w) (base := base) (hd_gdef c X G "_law_fact" 66 37 53 rfl rfl) T k_law_draw k_law_pick
  have k_law_rows_text := ok_law_rows_text (P := P) (w := w) (base := base) (hd_gdef c X G "_law_rows_text" 67 38 54 rfl rfl) T
  have k_law_table_rows := ok_law_table_rows (P := P) (w := w) (base := base) (hd_gdef c X G "_law_table_rows" 68 39 55 rfl rfl) T
  have k_law_book_rows := ok_law_book_rows (P := P) (w := w) (base := base) (hd_gdef c X G "_law_book_rows" 69 40 56 rfl rfl) T
  have k_law_fact_rows := ok_law_fact_rows (P := P) (w := w) (base := base) (hd_gdef c X G "_law_fact_rows" 70 41 57 rfl rfl) T
  have k_law_terms := ok_law_terms (P := P) (w := w) (base := base) (hd_gdef c X G "_law_terms" 72 43 59 rfl rfl) T k_law_draw k_law_shuffle k_law_subset k_law_stretch
  have k_law_stock := ok_law_stock (P := P) (w := w) (base := base) (hd_gdef c X G "_law_stock" 71 42 58 rfl rfl) T k_law_draw k_law_pick
  have k_law_same := ok_law_same (P := P) (w := w) (base := base) (hd_gdef c X G "_law_same" 63 35 51 rfl rfl) T
  have k_law_drawn_rows := ok_law_drawn_rows (P := P) (w := w) (base := base) (hd_gdef c X G "_law_drawn_rows" 75 46 62 rfl rfl) T k_law_draw k_law_names k_law_stock k_law_terms k_law_fact k_law_table_rows k_law_book_rows k_law_fact_rows
  have k_law_rows_of := ok_law_rows_of (P := P) (w := w) (base := base) (hd_gdef c X G "_law_rows_of" 74 45 61 rfl rfl) T k_table_finds k_table_kinds_of k_book_finds k_book_words
  have k_law_reader := ok_law_reader (P := P) (w := w) (base := base) (hd_reader c X G) (hd_gdef c X G "_law_try" 65 36 52 rfl rfl) TB T BT BB k_table_read k_book_read k_read_facts.1 k_read_facts.2 k_law_rows_of
  have k_law_table_so := ok_law_table_so (P := P) (w := w) (base := base) (hd_gdef c X G "_law_table_so" 76 47 63 rfl rfl) T BT k_law_drawn_rows k_law_rows_text k_law_shuffle k_table_init k_table_text k_table_str k_table_eq k_table_read (k_law_same 1) (k_law_same 4) k_law_reader
  have k_law_book_so := ok_law_book_so (P := P) (w := w) (base := base) (hd_gdef c X G "_law_book_so" 77 48 64 rfl rfl) T BB k_law_drawn_rows k_law_rows_text k_law_shuffle k_book_init k_book_text k_book_str k_book_eq k_book_read k_book_without (k_law_same 0) (k_law_same 1) (k_law_same 4) k_law_reader
  have k_law_facts_so := ok_law_facts_so (P := P) (w := w) (base := base) (PP := (He.cT K ("_law_reader", none)).2) (hd_gdef c X G "_law_facts_so" 78 49 65 rfl rfl) T k_law_drawn_rows k_law_rows_text k_write_facts.1 k_write_facts.2 k_read_facts.1 k_read_facts.2 (k_law_same 3) (k_law_same 4)
  have k_law_start := ok_law_start (P := P) (w := w) (base := base) (hd_gdef c X G "_law_start" 54 26 42 rfl rfl) T
  exact ok_law F T k_law_start k_law_draw k_write_facts.1 k_read_facts.1 (k_law_same 4) k_law_table_so k_law_book_so k_law_facts_so
end
end K11
/-! HX3 -/
section
set_option maxHeartbeats 0
namespace K11
open PySem PySem.Spec PyProof.Rows L2
theorem hd_end {w : World} {mg : Str → Option Value} {fa : Addr} {h : Heap} {P : Program} (Y : hdHook.says w h) (G : h.Ns mainGlobals mg) (hm : mg "law" = some (.ref fa)) : ∃ K : PySem.W.Frag, K.In h ∧ ∃ (fd : FuncData) (cs : List (Addr × Addr)) (sp : Sp), (∀ p ∈ cs, h.get? p.2 = some { cls := .none, data := .fields #[] }) ∧ (∀ p ∈ cs, K.lookup p.2 = none) ∧ (∀ p ∈ cs, PySem.W.CodeHd h p.1 p.2) ∧ (∀ (s : Shared) (u : Value), BindsTo s fd ⟨[u], []⟩ [("_law_script", u)]) ∧
    (∀ (H : Hp) (a : Addr) (ns : List Int), ns.length ≤ 63 → (∀ z ∈ ns, Builtin.Int.intBits z ≤ 1048576) → (∀ p ∈ cs, H p.2 = some (.tbl #[])) → SqL K H a (ns.map V.int) → sp [.ref a] H (fun v _ => v = .bl true) fun _ _ _ => False) ∧
    ∀ base : Heap, K.In base → base.Ns mainGlobals mg → (∀ p ∈ cs, LamX.TabB base mg p.1 p.2) → FnOk P w K mg base C8.CX0 13 fa fd ["_law_script"] sp := by
  obtain ⟨K, X, c⟩ := Y
  obtain ⟨fd, hb, hF⟩ := hd_law (P := P) c X G hm
  have one : ∀ {Q : Addr × Addr → Prop}, (∀ p ∈ hdTf, Q (He.cT K p)) → ∀ p ∈ [He.cT K ("_law_reader", none)], Q p := fun hQ p hp => by
    cases List.mem_singleton.mp hp
    exact hQ _ (List.mem_singleton.mpr rfl)
  refine ⟨K, X, fd, [He.cT K ("_law_reader", none)], spLaw K (tabR (He.cT K ("_law_reader", none)).2), one (Q := fun p => h.get? p.2 = some { cls := .none, data := .fields #[] }) c.emp, one (Q := fun p => K.lookup p.2 = none) c.out, one (Q := fun p => PySem.W.CodeHd h p.1 p.2) fun p hp => PySem.W.codeHd_of_K X (c.hd p hp), hb, fun H a ns hl _ hH hS => ?_, fun base _ _ hT => hF base (hT _ (List.mem_singleton.mpr rfl))⟩
  refine ⟨a, ns, rfl, hS, hl, fun p hp => ?_, fun _ => rfl⟩
  cases List.mem_singleton.mp hp
  exact LamX.TabS.nil (hH _ (List.mem_singleton.mpr rfl))
end K11
open PySem PySem.W PySem.Calls PyProof.Rows
theorem PySem.Challenge.cw_threeorders_k11_whole_texts_read_back_holds : PySem.Challenge.rw_threeorders_k11_whole_texts_read_back.Holds := by
  w_on; o_law
  refine HandSHeadRun.head_any (r := OpenLaw.row PySem.Challenge.rw_threeorders_k11_whole_texts_read_back) (q := view (OpenLaw.row PySem.Challenge.rw_threeorders_k11_whole_texts_read_back).prog [79]) (H := K11.hdHook) (ob := K11.hdOb) (M := 6500) (loose := K11.hdN) (d := HandSHeadRun.topDef (OpenLaw.row PySem.Challenge.rw_threeorders_k11_whole_texts_read_back).prog 79) (kwd := []) K11.hdOb_eq
    (by kernel_rfl) (fun s => by kernel_rfl) K11.hd_run (by kernel_rfl) (by kernel_rfl) (by kernel_rfl) (by rfl) (by first | assumption | decide +kernel) (by decide +kernel) ⟨rfl, rfl, rfl, rfl, rfl, by decide +kernel⟩ ?hw ?hc
  case hw => w_witness2
  case hc =>
    refine LamX.walk_ofTsE (l := PySem.Challenge.rw_threeorders_k11_whole_texts_read_back) (n := 63) (k := 13) (x := "_law_script") (CX := fun _ => C8.CX0) rfl (by decide) (by kernel_rfl) ⟨rfl, by decide, by decide⟩ ?F (fun _ _ _ _ _ z => z)
    intro w mg fa h Y G hmg0
    have hmg : mg ("law" : PySem.Str) = some (.ref fa) := by
      have e : (HandSHeadRun.topDef (OpenLaw.row PySem.Challenge.rw_threeorders_k11_whole_texts_read_back).prog 79).name = ("law" : PySem.Str) := by kernel_rfl
      rw [← e]
      exact hmg0
    exact K11.hd_end Y G hmg
end
