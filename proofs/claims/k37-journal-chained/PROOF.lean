import PyProof.Rows.All
import Wide.All
import OpenK.AllK
import Wide.FinOn
import HandS.ForMost
import HandS.ForExc
import HandS.Walk
import HandS.Words
import HandS.ExcField
import HandS.ExcInit
import HandS.RaiseMore
import HandS.Head0
import HandS.Head1
import HandS.Head2
import HandS.HeadEnd
import HandS.HeadHook1
import HandS.HeadHook2
import HandS.HeadHook3
import HandS.HeadHook4
import HandS.ExcIs
import HandS.TupAny
import HandS.IsInst
import HandS.SortInts
import HandS.Style
import HandS.StrMore
import HandS.StrSplit
import HandS.Flow
import HandS.CallLocal
import HandS.Rev
import HandS.NoneIn
import HandS.FStr
import HandS.Defaults
import HandS.TryOnly
import HandS.Text
import HandS.Iter
import HandS.Zip
import HandS.More
import HandS.Replace
import HandS.ReplaceLit
import PyProof.ToksMono
import PyProof.StrLawsReplace
import PyProof.StrCalls6
import KE.KStrBytes
import KE.KBytesIn
import KE.GoesEnum
import HandS.Codes
import KE.IntTextLaws
import PySem.Challenge.RW_bothdays_k37_journal_chained
set_option Elab.async false
set_option linter.all false
set_option maxRecDepth 100000
set_option maxHeartbeats 4000000
/-! DL0: what the head tells, as looks. -/
namespace DL
open PySem PySem.Spec PyProof.Rows L2
def strO (x : List Nat) : Str := ⟨x.toArray⟩
def bltNames : List Str := ["len", "int", "max", "min", "sum", "sorted", "tuple", "list", "str", "isinstance", "range", "reversed", "enumerate", "zip", "bool", "ord"]
def oexB (K : PySem.W.Frag) (C : Addr) : Bool := (match K.lookup C with
  | some ⟨.type ty, _, .cls cd, sl⟩ => (match cd.mro, sl.toList with
    | .ref C' :: bm, [_, _, _, _, some (.builtin n), _] => ty == "type" && C' == C && n == "ValueError.__new__" && !cd.hasDel && cd.hasDict && PySem.HandSPX.refsVE bm
    | _, _ => false)
  | _ => false) && decide (PySem.W.findIn K (.ref C) "__setattr__" = some (some (.builtin "object.__setattr__"))) && decide (PySem.W.subIn K (.ref C) (.type "BaseException") = some true) && decide (PySem.W.typeIn K (.ref C) = some (.type "type")) && PySem.W.keepIn K (.ref C)
def headB (K : PySem.W.Frag) (CL : Addr) : Bool := PySem.W.readsIn K CL (.type "type") && decide (PySem.W.specialIn K (.ref CL) "__getattribute__" = some (some (.builtin "type.__getattribute__"))) && (match PySem.W.findCls K (.ref CL) (.type "type") "__init__" with
  | some (.val v) => decide (v = .builtin "ValueError.__init__")
  | _ => false)
def excB (K : PySem.W.Frag) (C : Addr) : Bool := decide (PySem.W.findIn K (.ref C) "__class__" = some (some (.builtin "object.__class__"))) && decide (PySem.W.specialIn K (.builtin "object.__class__") "__get__" = some (some (.builtin "getset_descriptor.__get__"))) && decide (PySem.W.takesIn K (.builtin "object.__class__") = some true) && decide (PySem.W.mroIn K C (.type "object") = some true)
/-! ### a Hook with a look of one's own -/
def obsE (n : Nat) (fa : List He.Fa) (fn : List He.DefD) (ex : PySem.W.Frag → Bool) (g : Addr → Option Obj) : He.AlD × Bool := (He.obsD fa fn (He.frG g (cStatics :: He.asD g n)), ex (He.frG g (cStatics :: He.asD g n)))
def hookE (n : Nat) (fa : List He.Fa) (fn : List He.DefD) (ex : PySem.W.Frag → Bool) : PySem.W.Hook where
  α := He.AlD × Bool
  obs := fun s => obsE n fa fn ex s.heap.get?
  val := fun _ => (He.valD fn, true)
  says := fun _ h => ∃ K : PySem.W.Frag, K.In h ∧ He.SaysD fa fn K ∧ ex K = true
  of := fun _ _ e => ⟨_, He.frG_in, congrArg (fun z : He.AlD × Bool => z.1) e, congrArg (fun z : He.AlD × Bool => z.2) e⟩
  keeps := fun _ _ _ ⟨K, hK, c⟩ k => ⟨K, PySem.W.Frag.In.keeps hK k, c⟩
theorem obsE_eq {n : Nat} {fa : List He.Fa} {fn : List He.DefD} {ex : PySem.W.Frag → Bool} {g : Addr → Option Obj} {s : Shared} (h : ∀ a, g a = s.heap.get? a) : obsE n fa fn ex g = (hookE n fa fn ex).obs s := by
  have e : g = s.heap.get? := funext h
  rw [e] <;> rfl
/-! ### .. and tables -/
abbrev AlX : Type := (He.AlD × Bool) × List (Option (List (Option (Str × Int))))
def obsX (n : Nat) (fa : List He.Fa) (fn : List He.DefD) (ex : PySem.W.Frag → Bool) (ts : List He.Tab) (g : Addr → Option Obj) : AlX := ((He.obsD fa fn (He.frG g (cStatics :: He.asD g n)), ex (He.frG g (cStatics :: He.asD g n))), ts.map fun t => He.dicW (He.frG g (cStatics :: He.asD g n)) (t.1 (He.frG g (cStatics :: He.asD g n))))
def SaysX (fa : List He.Fa) (fn : List He.DefD) (ex : PySem.W.Frag → Bool) (ts : List He.Tab) (w : World) (K : PySem.W.Frag) : Prop := He.SaysD fa fn K ∧ ex K = true ∧ (ts.map fun t => He.dicW K (t.1 K)) = ts.map fun t => some (He.keysIn w.params t.2)
def hookX (n : Nat) (fa : List He.Fa) (fn : List He.DefD) (ex : PySem.W.Frag → Bool) (ts : List He.Tab) : PySem.W.Hook where
  α := AlX
  obs := fun s => obsX n fa fn ex ts s.heap.get?
  val := fun w => ((He.valD fn, true), ts.map fun t => some (He.keysIn w.params t.2))
  says := fun w h => ∃ K : PySem.W.Frag, K.In h ∧ SaysX fa fn ex ts w K
  of := fun w h e => ⟨He.frG h.heap.get? (cStatics :: He.asD h.heap.get? n), He.frG_in, congrArg (fun z : AlX => z.1.1) e, congrArg (fun z : AlX => z.1.2) e, (congrArg (fun z : AlX => z.2) e : ((obsX n fa fn ex ts h.heap.get?).2 = (ts.map fun t => some (He.keysIn w.params t.2))))⟩
  keeps := fun _ _ _ ⟨K, hK, c⟩ k => ⟨K, PySem.W.Frag.In.keeps hK k, c⟩
theorem obsX_eq {n : Nat} {fa : List He.Fa} {fn : List He.DefD} {ex : PySem.W.Frag → Bool} {ts : List He.Tab} {g : Addr → Option Obj} {s : Shared} (h : ∀ a, g a = s.heap.get? a) : obsX n fa fn ex ts g = (hookX n fa fn ex ts).obs s := by
  have e : g = s.heap.get? := funext h
  rw [e] <;> rfl
end DL
set_option Elab.async false
set_option linter.all false
set_option maxRecDepth 100000
set_option maxHeartbeats 0
/-! K37G: the head of k37 runs. -/
namespace K37
open PySem PySem.Spec PyProof.Rows L2 DL
def top (i : Nat) : Stmt := PySem.Challenge.pw_bothdays_k37_journal_chained.main.body.getD i (.Pass ⟨0, 0, 0, 0⟩)
def keys : List Str := [("is_whole_dnames" : Str), ("is_day" : Str), ("is_whole_cforms" : Str), ("is_clean" : Str), ("is_name_cforms" : Str), ("is_office" : Str), ("is_span" : Str), ("is_source" : Str), ("is_deed" : Str), ("is_entry" : Str), ("_is_fact" : Str), ("show_plain" : Str), ("read_plain" : Str), ("_value" : Str), ("_members" : Str), ("_quoted" : Str), ("_quote" : Str), ("_look" : Str), ("_integer" : Str), ("is_ground" : Str), ("journal_line" : Str), ("_line_sum" : Str), ("read_journal" : Str), ("read_lines" : Str), ("_entry_of" : Str), ("_has_form" : Str), ("_is_integer" : Str), ("_is_pair" : Str), ("_law_cell" : Str), ("_law_digits" : Str), ("_law_draw" : Str), ("_law_pick" : Str), ("_law_like" : Str), ("_law_entry" : Str), ("_law_wrong" : Str), ("_law_sum" : Str), ("_law_lines" : Str), ("_law_shifted" : Str), ("_law_due" : Str), ("law" : Str)]
def t_ACTS : List (List Nat × Int) × List (List Nat) := ([([101, 110, 97, 99, 116], 4), ([114, 101, 112, 101, 97, 108], 4), ([97, 109, 101, 110, 100], 6)], [])
def t_FACTS : List (List Nat × Int) × List (List Nat) := ([([109, 97, 114, 107], 5), ([110, 117, 109, 98, 101, 114], 6), ([101, 118, 101, 110, 116], 4)], [])
def t_OTHERS : List (List Nat × Int) × List (List Nat) := ([([119, 105, 116, 104, 100, 114, 97, 119], 3), ([100, 101, 99, 105, 100, 101], 4), ([111, 98, 106, 101, 99, 116], 3), ([114, 101, 118, 111, 107, 101], 5), ([104, 111, 108, 105, 100, 97, 121], 2), ([116, 101, 114, 109, 115], 3)], [])
def t_PARTS : List (List Nat × Int) × List (List Nat) := ([([111, 102, 102, 105, 99, 101], 7), ([115, 104, 111, 114, 116], 2), ([109, 97, 100, 101], 3), ([104, 101, 97, 114, 100], 3), ([116, 111, 108, 100], 5), ([114, 97, 110], 4), ([112, 97, 105, 100], 4), ([115, 101, 110, 116], 4)], [[106, 117, 109, 112]])
abbrev sInit : Stmt := match top 24 with
  | .ClassDef _ _ _ b _ _ _ _ _ _ _ => b.getD 0 (.Pass ⟨0, 0, 0, 0⟩)
  | _ => .Pass ⟨0, 0, 0, 0⟩
def dI : He.DefD := ⟨("BadPlain", some "__init__"), "__init__", "BadPlain.__init__", defArgs sInit, defBody sInit, defScope sInit, [], []⟩
def w_FIXED_cforms : List (List Nat) := [[97, 108, 108], [110, 111, 116], [97, 110, 100], [111, 114], [111, 102], [108, 101, 97, 115, 116], [112, 97, 115, 116], [121, 101, 97, 114, 115], [105, 115], [121, 101, 115], [110, 111], [103, 97, 112], [99, 108, 97, 115, 104], [105, 102], [100, 101, 102, 105, 110, 101], [97, 114, 116, 105, 99, 108, 101], [114, 97, 110, 107], [111, 110], [112, 97, 121, 115], [102, 108, 97, 116], [112, 108, 117, 115], [102, 114, 111, 109], [98, 97, 115, 101], [97, 116], [107, 110, 111, 119, 110], [110, 111, 110, 101]]
def dks : List He.DefD := [⟨(("is_whole_dnames" : Str), none), "is_whole", "is_whole", defArgs (top 1), defBody (top 1), defScope (top 1), [], []⟩, ⟨(("is_day" : Str), none), "is_day", "is_day", defArgs (top 3), defBody (top 3), defScope (top 3), [], []⟩, ⟨(("is_whole_cforms" : Str), none), "is_whole", "is_whole", defArgs (top 10), defBody (top 10), defScope (top 10), [], []⟩, ⟨(("is_clean" : Str), none), "is_clean", "is_clean", defArgs (top 12), defBody (top 12), defScope (top 12), [], []⟩, ⟨(("is_name_cforms" : Str), none), "is_name", "is_name", defArgs (top 15), defBody (top 15), defScope (top 15), [], []⟩, ⟨(("is_office" : Str), none), "is_office", "is_office", defArgs (top 17), defBody (top 17), defScope (top 17), [], []⟩, ⟨(("is_span" : Str), none), "is_span", "is_span", defArgs (top 18), defBody (top 18), defScope (top 18), [], []⟩, ⟨(("is_source" : Str), none), "is_source", "is_source", defArgs (top 19), defBody (top 19), defScope (top 19), [], []⟩, ⟨(("is_deed" : Str), none), "is_deed", "is_deed", defArgs (top 67), defBody (top 67), defScope (top 67), [], []⟩, ⟨(("is_entry" : Str), none), "is_entry", "is_entry", defArgs (top 68), defBody (top 68), defScope (top 68), [], []⟩, ⟨(("_is_fact" : Str), none), "_is_fact", "_is_fact", defArgs (top 69), defBody (top 69), defScope (top 69), [], []⟩, ⟨(("show_plain" : Str), none), "show_plain", "show_plain", defArgs (top 77), defBody (top 77), defScope (top 77), [], []⟩, ⟨(("read_plain" : Str), none), "read_plain", "read_plain", defArgs (top 78), defBody (top 78), defScope (top 78), [], []⟩, ⟨(("_value" : Str), none), "_value", "_value", defArgs (top 79), defBody (top 79), defScope (top 79), [], []⟩, ⟨(("_members" : Str), none), "_members", "_members", defArgs (top 80), defBody (top 80), defScope (top 80), [], []⟩, ⟨(("_quoted" : Str), none), "_quoted", "_quoted", defArgs (top 81), defBody (top 81), defScope (top 81), [], []⟩, ⟨(("_quote" : Str), none), "_quote", "_quote", defArgs (top 82), defBody (top 82), defScope (top 82), [], []⟩, ⟨(("_look" : Str), none), "_look", "_look", defArgs (top 83), defBody (top 83), defScope (top 83), [], []⟩, ⟨(("_integer" : Str), none), "_integer", "_integer", defArgs (top 84), defBody (top 84), defScope (top 84), [], []⟩, ⟨(("is_ground" : Str), none), "is_ground", "is_ground", defArgs (top 88), defBody (top 88), defScope (top 88), [], []⟩, ⟨(("journal_line" : Str), none), "journal_line", "journal_line", defArgs (top 92), defBody (top 92), defScope (top 92), [], []⟩, ⟨(("_line_sum" : Str), none), "_line_sum", "_line_sum", defArgs (top 93), defBody (top 93), defScope (top 93), [], []⟩, ⟨(("read_journal" : Str), none), "read_journal", "read_journal", defArgs (top 94), defBody (top 94), defScope (top 94), [], []⟩, ⟨(("read_lines" : Str), none), "read_lines", "read_lines", defArgs (top 95), defBody (top 95), defScope (top 95), [], []⟩, ⟨(("_entry_of" : Str), none), "_entry_of", "_entry_of", defArgs (top 96), defBody (top 96), defScope (top 96), [], []⟩, ⟨(("_has_form" : Str), none), "_has_form", "_has_form", defArgs (top 97), defBody (top 97), defScope (top 97), [], []⟩, ⟨(("_is_integer" : Str), none), "_is_integer", "_is_integer", defArgs (top 98), defBody (top 98), defScope (top 98), [], []⟩, ⟨(("_is_pair" : Str), none), "_is_pair", "_is_pair", defArgs (top 99), defBody (top 99), defScope (top 99), [], []⟩, ⟨(("_law_cell" : Str), none), "_law_cell", "_law_cell", defArgs (top 101), defBody (top 101), defScope (top 101), [], []⟩, ⟨(("_law_digits" : Str), none), "_law_digits", "_law_digits", defArgs (top 102), defBody (top 102), defScope (top 102), [], []⟩, ⟨(("_law_draw" : Str), none), "_law_draw", "_law_draw", defArgs (top 103), defBody (top 103), defScope (top 103), [], []⟩, ⟨(("_law_pick" : Str), none), "_law_pick", "_law_pick", defArgs (top 104), defBody (top 104), defScope (top 104), [], []⟩, ⟨(("_law_like" : Str), none), "_law_like", "_law_like", defArgs (top 105), defBody (top 105), defScope (top 105), [], []⟩, ⟨(("_law_entry" : Str), none), "_law_entry", "_law_entry", defArgs (top 106), defBody (top 106), defScope (top 106), [], []⟩, ⟨(("_law_wrong" : Str), none), "_law_wrong", "_law_wrong", defArgs (top 107), defBody (top 107), defScope (top 107), [], []⟩, ⟨(("_law_sum" : Str), none), "_law_sum", "_law_sum", defArgs (top 108), defBody (top 108), defScope (top 108), [], []⟩, ⟨(("_law_lines" : Str), none), "_law_lines", "_law_lines", defArgs (top 109), defBody (top 109), defScope (top 109), [], []⟩, ⟨(("_law_shifted" : Str), none), "_law_shifted", "_law_shifted", defArgs (top 110), defBody (top 110), defScope (top 110), [], []⟩, ⟨(("_law_due" : Str), none), "_law_due", "_law_due", defArgs (top 111), defBody (top 111), defScope (top 111), [], []⟩, ⟨(("law" : Str), none), "law", "law", defArgs (top 112), defBody (top 112), defScope (top 112), [], []⟩]
def fn : List He.DefD := dI :: dks
def ifa : List He.Fa := [.int "EARLIEST" (-73048), .int "END" 20000, .int "LAST_DAY" 19999, .int "MODULUS" 99991, .int "MOST_DEEP" 20, .int "MOST_DIGITS" 20, .int "MOST_ENTRIES" 400, .int "MOST_HEIGHT" 2000, .int "MOST_OFFICES" 5]
def fa : List He.Fa := keys.map He.Fa.glo ++ bltNames.map .free ++ ([.glo "BadPlain", .glo "LawError"] ++ ifa)
/-- a tuple of texts that the module holds -/
def tupB (K : PySem.W.Frag) (y : Str) (ws : List (List Nat)) : Bool := eqv (PySem.W.nsIn K mainGlobals y) && (match K.lookup (He.ga K y) with
  | some o => decide (o.cls = .type "tuple") && (match o.data with
    | .seq its _ => decide (its.size ≤ 100) && its.toList.map (fun v => match v with | .str x _ => some x | _ => none) == ws.map fun w => some (strO w)
    | _ => false)
  | none => false)
where eqv (o : Option (Option Value)) : Bool := decide (o = some (some (.ref (He.ga K y))))
/-- what a table holds at its words -/
def tabB (K : PySem.W.Frag) (y : Str) (kv : List (List Nat × Int) × List (List Nat)) : Bool := decide (PySem.W.nsIn K mainGlobals y = some (some (.ref (He.ga K y)))) && kv.1.all (fun q => match PySem.W.nsIn K (He.ga K y) (strO q.1) with
  | some (some (.int j _)) => decide (j = q.2)
  | _ => false) && kv.2.all fun s => decide (PySem.W.nsIn K (He.ga K y) (strO s) = some none)
/-- the looks at the error classes, tuples, tables -/
def ex (K : PySem.W.Frag) : Bool := headB K (He.ga K "LawError") && oexB K (He.ga K "BadPlain") && xfB K (He.ga K "BadPlain") && excB K (He.ga K "BadPlain") && decide (PySem.W.findIn K (.ref (He.ga K "BadPlain")) "place" = some none)
  && decide (PySem.W.findIn K (.ref (He.ga K "BadPlain")) "__init__" = some (some (.ref (He.ma K (He.ga K "BadPlain") "__init__")))) && decide (PySem.W.typeIn K (.ref (He.ma K (He.ga K "BadPlain") "__init__")) = some (.type "function"))
  && decide (PySem.W.exmOne K (.ref (He.ga K "BadPlain")) (.ref (He.ga K "BadPlain")) = some true)
  && (tupB K "FIXED_cforms" w_FIXED_cforms) && (tabB K "ACTS" t_ACTS && tabB K "FACTS" t_FACTS && tabB K "OTHERS" t_OTHERS && tabB K "PARTS" t_PARTS)
def ts : List He.Tab := [(fun K => He.ga K "ACTS", ["enact", "repeal", "amend"]), (fun K => He.ga K "FACTS", ["mark", "number", "event"]), (fun K => He.ga K "OTHERS", ["withdraw", "decide", "object", "revoke", "holiday", "terms"]), (fun K => He.ga K "PARTS", ["office", "short", "made", "heard", "told", "ran", "paid", "sent"])]
abbrev Ro : PySem.W.OpenRow := PySem.W.OpenLaw.row PySem.Challenge.rw_bothdays_k37_journal_chained
abbrev hk : PySem.W.Hook := hookX 6 fa fn ex ts
def ob (s : PySem.W.SharedT) : AlX := obsX 6 fa fn ex ts (HandSHeadRun.getT s)
theorem ob_eq (s : PySem.W.SharedT) : ob s = hk.obs s.abs := obsX_eq (HandSHeadRun.getT_eq s)
def loose1 : List PySem.Str := [("ACTS" : PySem.Str), ("BOUNDS" : PySem.Str), ("BadPlain" : PySem.Str), ("BadText" : PySem.Str), ("EARLIEST" : PySem.Str), ("END" : PySem.Str), ("FACTS" : PySem.Str), ("FIXED_aforms" : PySem.Str), ("FIXED_cforms" : PySem.Str), ("LAST_DAY" : PySem.Str), ("LawError" : PySem.Str), ("MODULUS" : PySem.Str), ("MOST_AMOUNT_aforms" : PySem.Str), ("MOST_AMOUNT_cforms" : PySem.Str), ("MOST_DAYS" : PySem.Str), ("MOST_DEEP" : PySem.Str), ("MOST_DIGITS" : PySem.Str), ("MOST_ENTRIES" : PySem.Str), ("MOST_FOOT" : PySem.Str), ("MOST_HEIGHT" : PySem.Str), ("MOST_NEST" : PySem.Str), ("MOST_OFFICES" : PySem.Str), ("MOST_ROWS" : PySem.Str), ("MOST_SIGNS" : PySem.Str), ("MOST_SPANS" : PySem.Str)]
def loose2 : List PySem.Str := [("MOST_TERMS" : PySem.Str), ("MOST_TESTS" : PySem.Str), ("OTHERS" : PySem.Str), ("PARTS" : PySem.Str), ("Words" : PySem.Str), ("__name__" : PySem.Str), ("_begins" : PySem.Str), ("_entry_of" : PySem.Str), ("_has_form" : PySem.Str), ("_integer" : PySem.Str), ("_is_act" : PySem.Str), ("_is_fact" : PySem.Str), ("_is_integer" : PySem.Str), ("_is_other" : PySem.Str), ("_is_own_text" : PySem.Str), ("_is_pair" : PySem.Str), ("_is_spans" : PySem.Str), ("_joined" : PySem.Str), ("_law_cell" : PySem.Str), ("_law_digits" : PySem.Str), ("_law_draw" : PySem.Str), ("_law_due" : PySem.Str), ("_law_entry" : PySem.Str), ("_law_like" : PySem.Str), ("_law_lines" : PySem.Str)]
def loose3 : List PySem.Str := [("_law_pick" : PySem.Str), ("_law_shifted" : PySem.Str), ("_law_sum" : PySem.Str), ("_law_wrong" : PySem.Str), ("_line_sum" : PySem.Str), ("_look" : PySem.Str), ("_members" : PySem.Str), ("_number_of" : PySem.Str), ("_quote" : PySem.Str), ("_quoted" : PySem.Str), ("_read_and" : PySem.Str), ("_read_kind" : PySem.Str), ("_read_or" : PySem.Str), ("_read_part" : PySem.Str), ("_read_rows" : PySem.Str), ("_read_terms" : PySem.Str), ("_read_test" : PySem.Str), ("_value" : PySem.Str), ("_write_part" : PySem.Str), ("_write_says" : PySem.Str), ("_write_term" : PySem.Str), ("in_brackets" : PySem.Str), ("is_answer" : PySem.Str), ("is_clean" : PySem.Str), ("is_day" : PySem.Str)]
def loose4 : List PySem.Str := [("is_deed" : PySem.Str), ("is_entry" : PySem.Str), ("is_ground" : PySem.Str), ("is_name" : PySem.Str), ("is_name_aforms" : PySem.Str), ("is_name_cforms" : PySem.Str), ("is_office" : PySem.Str), ("is_source" : PySem.Str), ("is_span" : PySem.Str), ("is_text" : PySem.Str), ("is_whole" : PySem.Str), ("is_whole_cforms" : PySem.Str), ("is_whole_dnames" : PySem.Str), ("is_words" : PySem.Str), ("journal_line" : PySem.Str), ("read_journal" : PySem.Str), ("read_last" : PySem.Str), ("read_lines" : PySem.Str), ("read_plain" : PySem.Str), ("read_provision" : PySem.Str), ("read_says" : PySem.Str), ("show_plain" : PySem.Str), ("write_condition" : PySem.Str), ("write_provision" : PySem.Str), ("write_test" : PySem.Str)]
def loose : List PySem.Str := loose1 ++ loose2 ++ loose3 ++ loose4
theorem parts_eq {o : Option PySem.W.SharedT} {f : PySem.W.SharedT → Bool} {b : Bool} {β γ : Type} {g : PySem.W.SharedT → β} {c : β} {h : PySem.W.SharedT → γ} {d : γ} (h1 : o.map (fun s => (f s, g s)) = some (b, c)) (h2 : o.map h = some d) :
    o.map (fun s => (f s, g s, h s)) = some (b, c, d) := by
  cases o with
  | none => cases h1
  | some s =>
    simp only [Option.map_some, Option.some.injEq, Prod.mk.injEq] at h1 h2 ⊢
    exact ⟨h1.1, h1.2, h2⟩
theorem parts2_eq {o : Option PySem.W.SharedT} {α β γ : Type} {f : PySem.W.SharedT → α} {a : α} {g : PySem.W.SharedT → β} {b : β} {h : PySem.W.SharedT → γ} {c : γ} (h1 : o.map f = some a) (h2 : o.map (fun s => (g s, h s)) = some (b, c)) :
    o.map (fun s => ((f s, g s), h s)) = some ((a, b), c) := by
  cases o with
  | none => cases h1
  | some s =>
    simp only [Option.map_some, Option.some.injEq, Prod.mk.injEq] at h1 h2 ⊢
    exact ⟨⟨h1, h2.1⟩, h2.2⟩
open HandSHeadRun PySem.W in
theorem q1F (w : World) (os : OsState) : (endF (stepQ (denQ tabQ) Ro.prog (w.withFollow "special-get-raises" false)) 4000 Ro.prog (w.withFollow "special-get-raises" false) os).map (fun s => (looksF Ro.prog (boot_heap (w.withFollow "special-get-raises" false).params) s.abs, seenQ (PySem.W.view Ro.prog [112]) loose (importedModules Ro.prog.main.body) (fun s => PySem.W.xlAt (PySem.W.view Ro.prog [112]) [] s && PySem.W.recOk Ro.toRowW.records s) s.abs)) = some (true, PySem.W.openGood (PySem.W.view Ro.prog [112]) loose) := by kernel_rfl
open HandSHeadRun PySem.W in
theorem q2aF (w : World) (os : OsState) : (endF (stepQ (denQ tabQ) Ro.prog (w.withFollow "special-get-raises" false)) 4000 Ro.prog (w.withFollow "special-get-raises" false) os).map (fun s => He.obsD fa fn (He.frG (HandSHeadRun.getT s) (cStatics :: He.asD (HandSHeadRun.getT s) 6))) = some (He.valD fn) := by kernel_rfl
open HandSHeadRun PySem.W in
theorem q2bF (w : World) (os : OsState) : (endF (stepQ (denQ tabQ) Ro.prog (w.withFollow "special-get-raises" false)) 4000 Ro.prog (w.withFollow "special-get-raises" false) os).map (fun s => (ex (He.frG (HandSHeadRun.getT s) (cStatics :: He.asD (HandSHeadRun.getT s) 6)), ts.map fun t => He.dicW (He.frG (HandSHeadRun.getT s) (cStatics :: He.asD (HandSHeadRun.getT s) 6)) (t.1 (He.frG (HandSHeadRun.getT s) (cStatics :: He.asD (HandSHeadRun.getT s) 6))))) = some (true, ts.map fun t => some (He.keysIn (w.withFollow "special-get-raises" false).params t.2)) := by kernel_rfl
open HandSHeadRun PySem.W in
theorem q2F (w : World) (os : OsState) : (endF (stepQ (denQ tabQ) Ro.prog (w.withFollow "special-get-raises" false)) 4000 Ro.prog (w.withFollow "special-get-raises" false) os).map (fun s => ob s) = some ((He.valD fn, true), ts.map fun t => some (He.keysIn (w.withFollow "special-get-raises" false).params t.2)) := parts2_eq (q2aF w os) (q2bF w os)
theorem valF (w : World) : hk.val (w.withFollow "special-get-raises" false) = ((He.valD fn, true), ts.map fun t => some (He.keysIn (w.withFollow "special-get-raises" false).params t.2)) := rfl
theorem runsF (w : World) : HandSHeadRun.RunEq Ro (PySem.W.view Ro.prog [112]) hk ob 4000 loose (w.withFollow "special-get-raises" false) := by
  unfold HandSHeadRun.RunEq
  intro os
  rw [valF]
  exact parts_eq (q1F w os) (q2F w os)
open HandSHeadRun PySem.W in
theorem q1T (w : World) (os : OsState) : (endF (stepQ (denQ tabQ) Ro.prog (w.withFollow "special-get-raises" true)) 4000 Ro.prog (w.withFollow "special-get-raises" true) os).map (fun s => (looksF Ro.prog (boot_heap (w.withFollow "special-get-raises" true).params) s.abs, seenQ (PySem.W.view Ro.prog [112]) loose (importedModules Ro.prog.main.body) (fun s => PySem.W.xlAt (PySem.W.view Ro.prog [112]) [] s && PySem.W.recOk Ro.toRowW.records s) s.abs)) = some (true, PySem.W.openGood (PySem.W.view Ro.prog [112]) loose) := by kernel_rfl
open HandSHeadRun PySem.W in
theorem q2aT (w : World) (os : OsState) : (endF (stepQ (denQ tabQ) Ro.prog (w.withFollow "special-get-raises" true)) 4000 Ro.prog (w.withFollow "special-get-raises" true) os).map (fun s => He.obsD fa fn (He.frG (HandSHeadRun.getT s) (cStatics :: He.asD (HandSHeadRun.getT s) 6))) = some (He.valD fn) := by kernel_rfl
open HandSHeadRun PySem.W in
theorem q2bT (w : World) (os : OsState) : (endF (stepQ (denQ tabQ) Ro.prog (w.withFollow "special-get-raises" true)) 4000 Ro.prog (w.withFollow "special-get-raises" true) os).map (fun s => (ex (He.frG (HandSHeadRun.getT s) (cStatics :: He.asD (HandSHeadRun.getT s) 6)), ts.map fun t => He.dicW (He.frG (HandSHeadRun.getT s) (cStatics :: He.asD (HandSHeadRun.getT s) 6)) (t.1 (He.frG (HandSHeadRun.getT s) (cStatics :: He.asD (HandSHeadRun.getT s) 6))))) = some (true, ts.map fun t => some (He.keysIn (w.withFollow "special-get-raises" true).params t.2)) := by kernel_rfl
open HandSHeadRun PySem.W in
theorem q2T (w : World) (os : OsState) : (endF (stepQ (denQ tabQ) Ro.prog (w.withFollow "special-get-raises" true)) 4000 Ro.prog (w.withFollow "special-get-raises" true) os).map (fun s => ob s) = some ((He.valD fn, true), ts.map fun t => some (He.keysIn (w.withFollow "special-get-raises" true).params t.2)) := parts2_eq (q2aT w os) (q2bT w os)
theorem valT (w : World) : hk.val (w.withFollow "special-get-raises" true) = ((He.valD fn, true), ts.map fun t => some (He.keysIn (w.withFollow "special-get-raises" true).params t.2)) := rfl
theorem runsT (w : World) : HandSHeadRun.RunEq Ro (PySem.W.view Ro.prog [112]) hk ob 4000 loose (w.withFollow "special-get-raises" true) := by
  unfold HandSHeadRun.RunEq
  intro os
  rw [valT]
  exact parts_eq (q1T w os) (q2T w os)
theorem runs (w : World) : HandSHeadRun.RunEq Ro (PySem.W.view Ro.prog [112]) hk ob 4000 loose w :=
  PySem.W.byRow2 "special-get-raises" (P := fun w => HandSHeadRun.RunEq Ro (PySem.W.view Ro.prog [112]) hk ob 4000 loose w) runsF runsT w
end K37
set_option Elab.async false
set_option linter.all false
set_option maxRecDepth 100000
set_option maxHeartbeats 4000000
/-! DL1: a pure domain of values with a small store, its relation to the abstract heap of the hand layer, and readings made of functions. -/
namespace DL
open PySem PySem.Spec PyProof.Rows L2

/-- plain values; ref: an object of the store, fn: a def of the program -/
inductive D where
  | non
  | bl (b : Bool)
  | int (i : Int)
  | str (s : List Nat)
  | tup (ds : List D)
  | lst (ds : List D)
  | ref (i : Nat)
  | fn (f : Nat)
  | scr (ns : List Int)
  | exn (a dd x : Nat) (fs : List D)
  deriving Inhabited

inductive Ob where
  | lst (ds : List D)
  | ins (c : Nat) (fs : List (Str × D))
  deriving Inhabited

abbrev Sto := List Ob
abbrev Loc := List (Option D)

inductive Re (α : Type) where
  | ok (a : α) (S : Sto)
  | err (x : Nat) (fs : List D) (S : Sto)
  | bad

def Re.bind {α β : Type} (r : Re α) (g : α → Sto → Re β) : Re β := match r with
  | .ok a S => g a S
  | .err x fs S => .err x fs S
  | .bad => .bad
@[simp] theorem bind_ok {α β : Type} {a : α} {S : Sto} {g : α → Sto → Re β} : (Re.ok a S).bind g = g a S := rfl
@[simp] theorem bind_err {α β : Type} {x : Nat} {fs : List D} {S : Sto} {g : α → Sto → Re β} : (Re.err x fs S : Re α).bind g = .err x fs S := rfl
@[simp] theorem bind_bad {α β : Type} {g : α → Sto → Re β} : (Re.bad : Re α).bind g = .bad := rfl

abbrev M (α : Type) := Loc → Sto → Re α
def M.bind {α β : Type} (f : M α) (g : α → M β) : M β := fun r S => (f r S).bind fun a S1 => g a r S1
@[simp] theorem mbind_at {α β : Type} {f : M α} {g : α → M β} {r : Loc} {S : Sto} : M.bind f g r S = (f r S).bind fun a S1 => g a r S1 := rfl

/-- the ground: the written part, where the defs stand, where the classes stand, the names of the fields of an error's class -/
structure Gb where
  K : PySem.W.Frag
  fa : Nat → Option Addr
  ca : Nat → Option Addr
  xf : Nat → List Str

/-- tracked addresses (the store's), hidden ones -/
structure Wd where
  t : List Addr
  b : List Addr

def KT (K : PySem.W.Frag) (a : Addr) (xs : List V) : Prop :=
  ∃ (o : Obj) (its : Array Value) (n : Nat), K.lookup a = some o ∧ o.cls = .type "tuple" ∧ o.data = .seq its n ∧ its.size ≤ sizeLine ∧ Vals xs its.toList
def KL (K : PySem.W.Frag) (a : Addr) (xs : List V) : Prop :=
  ∃ (o : Obj) (its : Array Value) (n : Nat), K.lookup a = some o ∧ o.cls = .type "list" ∧ o.dict = none ∧ o.data = .seq its n ∧ its.size ≤ sizeLine ∧ Vals xs its.toList
def PT (K : PySem.W.Frag) (W : Wd) (H : Hp) (a : Addr) (vs : List V) : Prop := (a ∉ W.t ∧ a ∉ W.b ∧ Rd H a (.tup vs)) ∨ KT K a vs
def PL (W : Wd) (H : Hp) (a : Addr) (vs : List V) : Prop := a ∉ W.t ∧ a ∉ W.b ∧ H a = some (.lst vs)
def PZ (K : PySem.W.Frag) (W : Wd) (H : Hp) (a : Addr) (vs : List V) : Prop := (a ∉ W.t ∧ a ∉ W.b ∧ Rd H a (.lst vs)) ∨ KL K a vs
theorem PT.sq {K : PySem.W.Frag} {W : Wd} {H : Hp} {a : Addr} {vs : List V} (h : PT K W H a vs) : SqT K H a vs := by
  rcases h with ⟨_, _, h⟩ | h
  · exact .inl h
  · exact .inr h
theorem PL.sq {K : PySem.W.Frag} {W : Wd} {H : Hp} {a : Addr} {vs : List V} (h : PL W H a vs) : SqL K H a vs := SqL.of h.2.2
theorem PZ.sq {K : PySem.W.Frag} {W : Wd} {H : Hp} {a : Addr} {vs : List V} (h : PZ K W H a vs) : SqL K H a vs := by
  rcases h with ⟨_, _, h⟩ | h
  · exact .inl h
  · exact .inr h

mutual
def Rp (G : Gb) (W : Wd) (H : Hp) : D → V → Prop
  | .non, v => v = .non
  | .bl b, v => v = .bl b
  | .int i, v => v = .int i
  | .str s, v => v = .str ⟨s.toArray⟩
  | .tup ds, v => ∃ a vs, v = .ref a ∧ PT G.K W H a vs ∧ Rps G W H ds vs
  | .lst ds, v => ∃ a vs, v = .ref a ∧ PL W H a vs ∧ Rps G W H ds vs
  | .ref i, v => ∃ a, v = .ref a ∧ W.t[i]? = some a
  | .fn f, v => ∃ a, v = .ref a ∧ G.fa f = some a
  | .scr ns, v => ∃ a, v = .ref a ∧ PZ G.K W H a (ns.map V.int)
  | .exn a dd x fs, v => v = .ref a ∧ dd ∉ W.t ∧ dd ∉ W.b ∧ ∃ fv : List (Str × V), H dd = some (.xd fv) ∧ fv.map (·.1) = G.xf x ∧ Rps G W H fs (fv.map (·.2))
def Rps (G : Gb) (W : Wd) (H : Hp) : List D → List V → Prop
  | [], vs => vs = []
  | d :: ds, vs => ∃ v r, vs = v :: r ∧ Rp G W H d v ∧ Rps G W H ds r
end

/-- the step from one world to a later one -/
structure Ext (W : Wd) (H : Hp) (W' : Wd) (H' : Hp) : Prop where
  b : ∃ l, W'.b = l ++ W.b ∧ ∀ a ∈ l, H a = none
  t : ∃ l, W'.t = W.t ++ l ∧ ∀ a ∈ l, H a = none
  k : ∀ a o, a ∉ W.t → H a = some o → H' a = some o
  lv : ∀ a o, H a = some o → ∃ o', H' a = some o'
theorem Ext.refl (W : Wd) (H : Hp) : Ext W H W H := ⟨⟨[], by simp, by simp⟩, ⟨[], by simp, by simp⟩, fun _ _ _ h => h, fun _ o h => ⟨o, h⟩⟩
theorem Ext.back {W W1 : Wd} {H H1 : Hp} (a : Ext W H W1 H1) {x : Addr} (q : H1 x = none) : H x = none := by
  cases e3 : H x with
  | none => rfl
  | some o =>
    obtain ⟨o', q'⟩ := a.lv x o e3
    rw [q] at q'
    cases q'
theorem Ext.trans {W W1 W2 : Wd} {H H1 H2 : Hp} (a : Ext W H W1 H1) (b : Ext W1 H1 W2 H2) : Ext W H W2 H2 := by
  obtain ⟨l, e, n⟩ := a.t
  obtain ⟨l2, e2, n2⟩ := b.t
  obtain ⟨m, f, g⟩ := a.b
  obtain ⟨m2, f2, g2⟩ := b.b
  refine ⟨⟨m2 ++ m, by rw [f2, f, List.append_assoc], fun x hx => ?_⟩, ⟨l ++ l2, by rw [e2, e, List.append_assoc], fun x hx => ?_⟩, fun x o hx h => ?_, fun x o h => ?_⟩
  · rcases List.mem_append.mp hx with hx | hx
    · exact a.back (g2 x hx)
    · exact g x hx
  · rcases List.mem_append.mp hx with hx | hx
    · exact n x hx
    · exact a.back (n2 x hx)
  · refine b.k x o (fun hm => ?_) (a.k x o hx h)
    rw [e] at hm
    rcases List.mem_append.mp hm with hm | hm
    · exact hx hm
    · rw [n x hm] at h
      cases h
  · obtain ⟨o', h'⟩ := a.lv x o h
    exact b.lv x o' h'
theorem Ext.new {W : Wd} {H : Hp} {p : Addr} {o : HO} (h : H p = none) : Ext W H W (upd H p o) := by
  refine ⟨⟨[], by simp, by simp⟩, ⟨[], by simp, by simp⟩, fun x u _ e => ?_, fun x u e => ⟨u, ?_⟩⟩ <;>
  · rw [upd_ne (ne_of_none e h)]
    exact e
theorem Ext.push {W : Wd} {H : Hp} {p : Addr} {o : HO} (h : H p = none) : Ext W H ⟨W.t ++ [p], W.b⟩ (upd H p o) := by
  refine ⟨⟨[], by simp, by simp⟩, ⟨[p], rfl, fun a ha => ?_⟩, fun x u _ e => ?_, fun x u e => ⟨u, ?_⟩⟩
  · rw [List.mem_singleton.mp ha]
    exact h
  all_goals
    rw [upd_ne (ne_of_none e h)]
    exact e
theorem Ext.hide {W : Wd} {H : Hp} {p : Addr} {o : HO} (h : H p = none) : Ext W H ⟨W.t, p :: W.b⟩ (upd H p o) := by
  refine ⟨⟨[p], rfl, fun a ha => ?_⟩, ⟨[], by simp, by simp⟩, fun x u _ e => ?_, fun x u e => ⟨u, ?_⟩⟩
  · rw [List.mem_singleton.mp ha]
    exact h
  all_goals
    rw [upd_ne (ne_of_none e h)]
    exact e
theorem Ext.set {W : Wd} {H : Hp} {p : Addr} {o : HO} (h : p ∈ W.t) : Ext W H W (upd H p o) := by
  refine ⟨⟨[], by simp, by simp⟩, ⟨[], by simp, by simp⟩, fun x u hx e => ?_, fun x u e => ?_⟩
  · rw [upd_ne (fun z => hx (by rw [z]; exact h))]
    exact e
  · by_cases z : x = p
    · subst z
      exact ⟨o, upd_same⟩
    · exact ⟨u, by rw [upd_ne z]; exact e⟩
theorem Ext.out {W W' : Wd} {H H' : Hp} {a : Addr} {o : HO} (x : Ext W H W' H') (h1 : a ∉ W.t) (h : H a = some o) : a ∉ W'.t := by
  obtain ⟨l, e, n⟩ := x.t
  rw [e]
  intro hm
  rcases List.mem_append.mp hm with hm | hm
  · exact h1 hm
  · rw [n a hm] at h
    cases h
theorem Ext.outB {W W' : Wd} {H H' : Hp} {a : Addr} {o : HO} (x : Ext W H W' H') (h1 : a ∉ W.b) (h : H a = some o) : a ∉ W'.b := by
  obtain ⟨l, e, n⟩ := x.b
  rw [e]
  intro hm
  rcases List.mem_append.mp hm with hm | hm
  · rw [n a hm] at h
    cases h
  · exact h1 hm

/-- the same where hidden objects may have changed -/
structure ExtW (W : Wd) (H : Hp) (W' : Wd) (H' : Hp) : Prop where
  b : ∃ l, W'.b = l ++ W.b ∧ ∀ a ∈ l, H a = none
  t : ∃ l, W'.t = W.t ++ l ∧ ∀ a ∈ l, H a = none
  k : ∀ a o, a ∉ W.t → a ∉ W.b → H a = some o → H' a = some o
  lv : ∀ a o, H a = some o → ∃ o', H' a = some o'
theorem Ext.w {W W' : Wd} {H H' : Hp} (x : Ext W H W' H') : ExtW W H W' H' := ⟨x.b, x.t, fun a o h _ e => x.k a o h e, x.lv⟩
theorem ExtW.out {W W' : Wd} {H H' : Hp} {a : Addr} {o : HO} (x : ExtW W H W' H') (h1 : a ∉ W.t) (h : H a = some o) : a ∉ W'.t := by
  obtain ⟨l, e, n⟩ := x.t
  rw [e]
  intro hm
  rcases List.mem_append.mp hm with hm | hm
  · exact h1 hm
  · rw [n a hm] at h
    cases h
theorem ExtW.outB {W W' : Wd} {H H' : Hp} {a : Addr} {o : HO} (x : ExtW W H W' H') (h1 : a ∉ W.b) (h : H a = some o) : a ∉ W'.b := by
  obtain ⟨l, e, n⟩ := x.b
  rw [e]
  intro hm
  rcases List.mem_append.mp hm with hm | hm
  · rw [n a hm] at h
    cases h
  · exact h1 hm
theorem ExtW.back {W W1 : Wd} {H H1 : Hp} (a : ExtW W H W1 H1) {x : Addr} (q : H1 x = none) : H x = none := by
  cases e3 : H x with
  | none => rfl
  | some o =>
    obtain ⟨o', q'⟩ := a.lv x o e3
    rw [q] at q'
    cases q'
theorem ExtW.trans {W W1 W2 : Wd} {H H1 H2 : Hp} (a : ExtW W H W1 H1) (b : ExtW W1 H1 W2 H2) : ExtW W H W2 H2 := by
  obtain ⟨l, e, n⟩ := a.t
  obtain ⟨l2, e2, n2⟩ := b.t
  obtain ⟨m, f, g⟩ := a.b
  obtain ⟨m2, f2, g2⟩ := b.b
  refine ⟨⟨m2 ++ m, by rw [f2, f, List.append_assoc], fun x hx => ?_⟩, ⟨l ++ l2, by rw [e2, e, List.append_assoc], fun x hx => ?_⟩, fun x o hx hb h => ?_, fun x o h => ?_⟩
  · rcases List.mem_append.mp hx with hx | hx
    · exact a.back (g2 x hx)
    · exact g x hx
  · rcases List.mem_append.mp hx with hx | hx
    · exact n x hx
    · exact a.back (n2 x hx)
  · exact b.k x o (a.out hx h) (a.outB hb h) (a.k x o hx hb h)
  · obtain ⟨o', h'⟩ := a.lv x o h
    exact b.lv x o' h'
/-- a hidden object changes -/
theorem ExtW.upd {W W' : Wd} {H H' : Hp} {p : Addr} {o : HO} (x : ExtW W H W' H') (h : p ∈ W.b) : ExtW W H W' (upd H' p o) := by
  refine ⟨x.b, x.t, fun a u ha hb e => ?_, fun a u e => ?_⟩
  · rw [upd_ne (fun z => hb (by rw [z]; exact h))]
    exact x.k a u ha hb e
  · by_cases z : a = p
    · rw [z]
      exact ⟨o, upd_same⟩
    · rw [upd_ne z]
      exact x.lv a u e

section
variable {G : Gb} {W W' : Wd} {H H' : Hp}
theorem PT.extw {K : PySem.W.Frag} {a : Addr} {vs : List V} (x : ExtW W H W' H') (h : PT K W H a vs) : PT K W' H' a vs := by
  rcases h with ⟨h1, h2, h3⟩ | h
  · rcases h3 with h3 | ⟨o, h3⟩
    · exact .inl ⟨x.out h1 h3, x.outB h2 h3, .inl (x.k _ _ h1 h2 h3)⟩
    · exact .inl ⟨x.out h1 h3, x.outB h2 h3, .inr ⟨o, x.k _ _ h1 h2 h3⟩⟩
  · exact .inr h
theorem PL.extw {a : Addr} {vs : List V} (x : ExtW W H W' H') (h : PL W H a vs) : PL W' H' a vs := by
  obtain ⟨h1, h2, h3⟩ := h
  exact ⟨x.out h1 h3, x.outB h2 h3, x.k _ _ h1 h2 h3⟩
theorem PZ.extw {K : PySem.W.Frag} {a : Addr} {vs : List V} (x : ExtW W H W' H') (h : PZ K W H a vs) : PZ K W' H' a vs := by
  rcases h with ⟨h1, h2, h3⟩ | h
  · rcases h3 with h3 | ⟨o, h3⟩
    · exact .inl ⟨x.out h1 h3, x.outB h2 h3, .inl (x.k _ _ h1 h2 h3)⟩
    · exact .inl ⟨x.out h1 h3, x.outB h2 h3, .inr ⟨o, x.k _ _ h1 h2 h3⟩⟩
  · exact .inr h
theorem ExtW.at {i : Nat} {a : Addr} (x : ExtW W H W' H') (h : W.t[i]? = some a) : W'.t[i]? = some a := by
  obtain ⟨l, e, _⟩ := x.t
  rw [e, List.getElem?_append_left (List.getElem?_eq_some_iff.mp h).1]
  exact h
mutual
theorem Rp.extw (x : ExtW W H W' H') : ∀ (d : D) (v : V), Rp G W H d v → Rp G W' H' d v
  | .non, _, h => by simpa only [Rp] using h
  | .bl _, _, h => by simpa only [Rp] using h
  | .int _, _, h => by simpa only [Rp] using h
  | .str _, _, h => by simpa only [Rp] using h
  | .tup ds, v, h => by
    simp only [Rp] at h ⊢
    obtain ⟨a, vs, e, p, r⟩ := h
    exact ⟨a, vs, e, p.extw x, Rps.extw x ds vs r⟩
  | .lst ds, v, h => by
    simp only [Rp] at h ⊢
    obtain ⟨a, vs, e, p, r⟩ := h
    exact ⟨a, vs, e, p.extw x, Rps.extw x ds vs r⟩
  | .ref i, v, h => by
    simp only [Rp] at h ⊢
    obtain ⟨a, e, p⟩ := h
    exact ⟨a, e, x.at p⟩
  | .fn _, _, h => by simpa only [Rp] using h
  | .scr ns, v, h => by
    simp only [Rp] at h ⊢
    obtain ⟨a, e, p⟩ := h
    exact ⟨a, e, p.extw x⟩
  | .exn a dd c fs, v, h => by
    simp only [Rp] at h ⊢
    obtain ⟨e, h1, h2, fv, h3, h4, h5⟩ := h
    exact ⟨e, x.out h1 h3, x.outB h2 h3, fv, x.k _ _ h1 h2 h3, h4, Rps.extw x fs _ h5⟩
theorem Rps.extw (x : ExtW W H W' H') : ∀ (ds : List D) (vs : List V), Rps G W H ds vs → Rps G W' H' ds vs
  | [], _, h => by simpa only [Rps] using h
  | d :: ds, vs, h => by
    simp only [Rps] at h ⊢
    obtain ⟨v, r, e, h1, h2⟩ := h
    exact ⟨v, r, e, Rp.extw x d v h1, Rps.extw x ds r h2⟩
end

theorem PT.ext {K : PySem.W.Frag} {a : Addr} {vs : List V} (x : Ext W H W' H') (h : PT K W H a vs) : PT K W' H' a vs := h.extw x.w
theorem PL.ext {a : Addr} {vs : List V} (x : Ext W H W' H') (h : PL W H a vs) : PL W' H' a vs := h.extw x.w
theorem PZ.ext {K : PySem.W.Frag} {a : Addr} {vs : List V} (x : Ext W H W' H') (h : PZ K W H a vs) : PZ K W' H' a vs := h.extw x.w
theorem Ext.at {i : Nat} {a : Addr} (x : Ext W H W' H') (h : W.t[i]? = some a) : W'.t[i]? = some a := x.w.at h
theorem Rp.ext (x : Ext W H W' H') : ∀ (d : D) (v : V), Rp G W H d v → Rp G W' H' d v := Rp.extw x.w
theorem Rps.ext (x : Ext W H W' H') : ∀ (ds : List D) (vs : List V), Rps G W H ds vs → Rps G W' H' ds vs := Rps.extw x.w

/-! ### lists of values -/
theorem Rps.nil_iff {vs : List V} : Rps G W H [] vs ↔ vs = [] := by simp only [Rps]
theorem Rps.cons {d : D} {ds : List D} {v : V} {vs : List V} (h : Rp G W H d v) (t : Rps G W H ds vs) : Rps G W H (d :: ds) (v :: vs) := by
  simp only [Rps]
  exact ⟨v, vs, rfl, h, t⟩
theorem Rps.cons_iff {d : D} {ds : List D} {vs : List V} : Rps G W H (d :: ds) vs ↔ ∃ v r, vs = v :: r ∧ Rp G W H d v ∧ Rps G W H ds r := by simp only [Rps]
theorem Rps.nil : Rps G W H [] [] := by simp only [Rps]
theorem Rps.length : ∀ {ds : List D} {vs : List V}, Rps G W H ds vs → vs.length = ds.length
  | [], _, h => by rw [Rps.nil_iff.mp h]; rfl
  | d :: ds, _, h => by
    obtain ⟨v, r, rfl, _, t⟩ := Rps.cons_iff.mp h
    rw [List.length_cons, List.length_cons, Rps.length t]
theorem Rps.append : ∀ {ds es : List D} {vs us : List V}, Rps G W H ds vs → Rps G W H es us → Rps G W H (ds ++ es) (vs ++ us)
  | [], _, _, _, h, k => by rw [Rps.nil_iff.mp h]; exact k
  | d :: ds, _, _, _, h, k => by
    obtain ⟨v, r, rfl, h1, t⟩ := Rps.cons_iff.mp h
    exact Rps.cons h1 (Rps.append t k)
theorem Rps.one {d : D} {v : V} (h : Rp G W H d v) : Rps G W H [d] [v] := Rps.cons h Rps.nil
theorem Rps.get : ∀ {ds : List D} {vs : List V} {i : Nat} {d : D}, Rps G W H ds vs → ds[i]? = some d → ∃ v, vs[i]? = some v ∧ Rp G W H d v
  | [], _, _, _, _, e => by simp at e
  | c :: ds, _, 0, d, h, e => by
    obtain ⟨v, r, rfl, h1, _⟩ := Rps.cons_iff.mp h
    simp at e
    subst e
    exact ⟨v, by simp, h1⟩
  | c :: ds, _, i + 1, d, h, e => by
    obtain ⟨v, r, rfl, _, t⟩ := Rps.cons_iff.mp h
    obtain ⟨u, h1, h2⟩ := Rps.get (i := i) (d := d) t (by simpa using e)
    exact ⟨u, by simpa using h1, h2⟩
theorem Rps.set {e : D} {u : V} (r : Rp G W H e u) : ∀ {ds : List D} {vs : List V} (i : Nat), Rps G W H ds vs → Rps G W H (ds.set i e) (vs.set i u)
  | [], _, _, h => by rw [Rps.nil_iff.mp h]; exact Rps.nil
  | d :: ds, _, 0, h => by
    obtain ⟨v, q, rfl, _, t⟩ := Rps.cons_iff.mp h
    exact Rps.cons r t
  | d :: ds, _, i + 1, h => by
    obtain ⟨v, q, rfl, h1, t⟩ := Rps.cons_iff.mp h
    exact Rps.cons h1 (Rps.set r i t)
theorem Rps.take : ∀ {ds : List D} {vs : List V} (n : Nat), Rps G W H ds vs → Rps G W H (ds.take n) (vs.take n)
  | [], _, n, h => by rw [Rps.nil_iff.mp h]; simpa using Rps.nil
  | d :: ds, _, 0, h => by simpa using Rps.nil
  | d :: ds, _, n + 1, h => by
    obtain ⟨v, q, rfl, h1, t⟩ := Rps.cons_iff.mp h
    exact Rps.cons h1 (Rps.take n t)
theorem Rps.drop : ∀ {ds : List D} {vs : List V} (n : Nat), Rps G W H ds vs → Rps G W H (ds.drop n) (vs.drop n)
  | [], _, n, h => by rw [Rps.nil_iff.mp h]; simpa using Rps.nil
  | d :: ds, _, 0, h => h
  | d :: ds, _, n + 1, h => by
    obtain ⟨v, q, rfl, h1, t⟩ := Rps.cons_iff.mp h
    exact Rps.drop n t
theorem Rps.reverse : ∀ {ds : List D} {vs : List V}, Rps G W H ds vs → Rps G W H ds.reverse vs.reverse
  | [], _, h => by rw [Rps.nil_iff.mp h]; simpa using Rps.nil
  | d :: ds, _, h => by
    obtain ⟨v, q, rfl, h1, t⟩ := Rps.cons_iff.mp h
    rw [List.reverse_cons, List.reverse_cons]
    exact Rps.append (Rps.reverse t) (Rps.one h1)
end

/-! ### the store -/
def ObR (G : Gb) (W : Wd) (H : Hp) (a : Addr) : Ob → Prop
  | .lst ds => ∃ vs, H a = some (.lst vs) ∧ Rps G W H ds vs
  | .ins c fs => ∃ C dx fv, G.ca c = some C ∧ H a = some (.ins C dx fv) ∧ H dx = some (.own a) ∧ dx ∉ W.t ∧ dx ∉ W.b ∧ fv.map (·.1) = fs.map (·.1) ∧ Rps G W H (fs.map (·.2)) (fv.map (·.2))
structure StoR (G : Gb) (W : Wd) (H : Hp) (S : Sto) : Prop where
  len : W.t.length = S.length
  nd : W.t.Nodup
  ob : ∀ (i : Nat) (a : Addr) (o : Ob), W.t[i]? = some a → S[i]? = some o → ObR G W H a o
  live : ∀ a ∈ W.t, ∃ o, H a = some o
  liveB : ∀ a ∈ W.b, ∃ o, H a = some o
def ErrR (G : Gb) (W : Wd) (H : Hp) (x : Nat) (fs : List D) (c : Value) (dd : Option Addr) : Prop :=
  ∃ C dx fv, G.ca x = some C ∧ c = .ref C ∧ dd = some dx ∧ dx ∉ W.t ∧ dx ∉ W.b ∧ H dx = some (.xd fv) ∧ fv.map (·.1) = G.xf x ∧ Rps G W H fs (fv.map (·.2))
section
variable {G : Gb} {W W' : Wd} {H H' : Hp} {S : Sto}
theorem StoR.fresh (s : StoR G W H S) {p : Addr} (h : H p = none) : p ∉ W.t ∧ p ∉ W.b := by
  constructor
  · intro hm
    obtain ⟨o, e⟩ := s.live p hm
    rw [h] at e
    cases e
  · intro hm
    obtain ⟨o, e⟩ := s.liveB p hm
    rw [h] at e
    cases e
/-- an object that another one's change leaves -/
theorem ObR.keep {a : Addr} {o : Ob} (x : Ext W H W' H') (e : H' a = H a) (h : ObR G W H a o) : ObR G W' H' a o := by
  cases o with
  | lst ds =>
    obtain ⟨vs, h1, h2⟩ := h
    exact ⟨vs, e.trans h1, Rps.ext x _ _ h2⟩
  | ins c fs =>
    obtain ⟨C, dx, fv, h1, h2, h0, h3, h4, h5, h6⟩ := h
    exact ⟨C, dx, fv, h1, e.trans h2, x.k _ _ h3 h0, x.out h3 h0, x.outB h4 h0, h5, Rps.ext x _ _ h6⟩
/-- a new object that is not the store's -/
theorem StoR.new (s : StoR G W H S) {p : Addr} {o : HO} (h : H p = none) : StoR G W (upd H p o) S := by
  have x : Ext W H W (upd H p o) := Ext.new h
  have f := s.fresh h
  refine ⟨s.len, s.nd, fun i a u h1 h2 => (s.ob i a u h1 h2).keep x (upd_ne fun z => f.1 (z ▸ List.mem_of_getElem? h1)), fun a ha => ?_, fun a ha => ?_⟩
  · obtain ⟨u, hu⟩ := s.live a ha
    exact x.lv a u hu
  · obtain ⟨u, hu⟩ := s.liveB a ha
    exact x.lv a u hu
/-- an object of the store is changed -/
theorem StoR.set (s : StoR G W H S) {i : Nat} {a : Addr} {o : HO} {u : Ob} (h : W.t[i]? = some a) (hn : ObR G W (upd H a o) a u) : StoR G W (upd H a o) (S.set i u) := by
  have x : Ext W H W (upd H a o) := Ext.set (List.mem_of_getElem? h)
  refine ⟨by rw [s.len, List.length_set], s.nd, fun j b v h1 h2 => ?_, fun b hb => ?_, fun b hb => ?_⟩
  · by_cases e : j = i
    · subst e
      rw [h] at h1
      cases h1
      have hl : j < S.length := by
        rw [← s.len]
        exact (List.getElem?_eq_some_iff.mp h).1
      rw [List.getElem?_set_self hl] at h2
      cases h2
      exact hn
    · rw [List.getElem?_set_ne (Ne.symm e)] at h2
      refine (s.ob j b v h1 h2).keep x (upd_ne fun z => e ?_)
      subst z
      obtain ⟨l1, e1⟩ := List.getElem?_eq_some_iff.mp h1
      obtain ⟨l2, e2⟩ := List.getElem?_eq_some_iff.mp h
      exact (List.getElem_inj s.nd).mp (e1.trans e2.symm)
  · obtain ⟨v, hv⟩ := s.live b hb
    exact x.lv b v hv
  · obtain ⟨v, hv⟩ := s.liveB b hb
    exact x.lv b v hv
/-- a new object of the store -/
theorem StoR.push (s : StoR G W H S) {p : Addr} {o : HO} {u : Ob} (h : H p = none) (hn : ObR G ⟨W.t ++ [p], W.b⟩ (upd H p o) p u) : StoR G ⟨W.t ++ [p], W.b⟩ (upd H p o) (S ++ [u]) := by
  have x : Ext W H ⟨W.t ++ [p], W.b⟩ (upd H p o) := Ext.push h
  have f := s.fresh h
  refine ⟨by simp [s.len], ?_, fun j b v h1 h2 => ?_, fun b hb => ?_, fun b hb => ?_⟩
  · refine List.nodup_append.mpr ⟨s.nd, by simp, fun a ha b hb => ?_⟩
    rw [List.mem_singleton.mp hb]
    exact fun z => f.1 (z ▸ ha)
  · by_cases e : j < W.t.length
    · have h1' : W.t[j]? = some b := by
        have h1 : (W.t ++ [p])[j]? = some b := h1
        rw [List.getElem?_append_left e] at h1
        exact h1
      rw [List.getElem?_append_left (by rw [← s.len]; exact e)] at h2
      exact (s.ob j b v h1' h2).keep x (upd_ne fun z => f.1 (z ▸ List.mem_of_getElem? h1'))
    · have h1 : (W.t ++ [p])[j]? = some b := h1
      rw [List.getElem?_append_right (by omega)] at h1
      rw [List.getElem?_append_right (by rw [← s.len]; omega)] at h2
      have e2 : j - W.t.length = 0 := by
        cases q : j - W.t.length with
        | zero => rfl
        | succ m => rw [q] at h1; simp at h1
      rw [e2] at h1
      rw [← s.len, e2] at h2
      simp at h1 h2
      subst h1
      subst h2
      exact hn
  · rcases List.mem_append.mp hb with hb | hb
    · obtain ⟨v, hv⟩ := s.live b hb
      exact x.lv b v hv
    · rw [List.mem_singleton.mp hb]
      exact ⟨o, upd_same⟩
  · obtain ⟨v, hv⟩ := s.liveB b hb
    exact x.lv b v hv
end

/-! ### hidden objects -/
section
variable {G : Gb} {W W' : Wd} {H H' : Hp} {S : Sto}
/-- only tracked and hidden objects changed; fewer are hidden, some hidden ones are tracked -/
structure Wk (W : Wd) (H : Hp) (W' : Wd) (H' : Hp) : Prop where
  t : ∃ l, W'.t = W.t ++ l ∧ ∀ a ∈ l, a ∈ W.b
  b : ∀ a ∈ W'.b, a ∈ W.b
  k : ∀ a o, a ∉ W.t → a ∉ W.b → H a = some o → H' a = some o
theorem Wk.out {a : Addr} (x : Wk W H W' H') (h1 : a ∉ W.t) (h2 : a ∉ W.b) : a ∉ W'.t := by
  obtain ⟨l, e, n⟩ := x.t
  rw [e]
  intro hm
  rcases List.mem_append.mp hm with hm | hm
  · exact h1 hm
  · exact h2 (n a hm)
theorem Wk.at {i : Nat} {a : Addr} (x : Wk W H W' H') (h : W.t[i]? = some a) : W'.t[i]? = some a := by
  obtain ⟨l, e, _⟩ := x.t
  rw [e, List.getElem?_append_left (List.getElem?_eq_some_iff.mp h).1]
  exact h
mutual
theorem Rp.wk (x : Wk W H W' H') : ∀ (d : D) (v : V), Rp G W H d v → Rp G W' H' d v
  | .non, _, h => by simpa only [Rp] using h
  | .bl _, _, h => by simpa only [Rp] using h
  | .int _, _, h => by simpa only [Rp] using h
  | .str _, _, h => by simpa only [Rp] using h
  | .tup ds, v, h => by
    simp only [Rp] at h ⊢
    obtain ⟨a, vs, e, p, r⟩ := h
    refine ⟨a, vs, e, ?_, Rps.wk x ds vs r⟩
    rcases p with ⟨h1, h2, h3⟩ | h
    · rcases h3 with h3 | ⟨o, h3⟩
      · exact .inl ⟨x.out h1 h2, fun z => h2 (x.b a z), .inl (x.k _ _ h1 h2 h3)⟩
      · exact .inl ⟨x.out h1 h2, fun z => h2 (x.b a z), .inr ⟨o, x.k _ _ h1 h2 h3⟩⟩
    · exact .inr h
  | .lst ds, v, h => by
    simp only [Rp] at h ⊢
    obtain ⟨a, vs, e, ⟨h1, h2, h3⟩, r⟩ := h
    exact ⟨a, vs, e, ⟨x.out h1 h2, fun z => h2 (x.b a z), x.k _ _ h1 h2 h3⟩, Rps.wk x ds vs r⟩
  | .ref i, v, h => by
    simp only [Rp] at h ⊢
    obtain ⟨a, e, p⟩ := h
    exact ⟨a, e, x.at p⟩
  | .fn _, _, h => by simpa only [Rp] using h
  | .scr ns, v, h => by
    simp only [Rp] at h ⊢
    obtain ⟨a, e, p⟩ := h
    refine ⟨a, e, ?_⟩
    rcases p with ⟨h1, h2, h3⟩ | h
    · rcases h3 with h3 | ⟨o, h3⟩
      · exact .inl ⟨x.out h1 h2, fun z => h2 (x.b a z), .inl (x.k _ _ h1 h2 h3)⟩
      · exact .inl ⟨x.out h1 h2, fun z => h2 (x.b a z), .inr ⟨o, x.k _ _ h1 h2 h3⟩⟩
    · exact .inr h
  | .exn a dd c fs, v, h => by
    simp only [Rp] at h ⊢
    obtain ⟨e, h1, h2, fv, h3, h4, h5⟩ := h
    exact ⟨e, x.out h1 h2, fun z => h2 (x.b _ z), fv, x.k _ _ h1 h2 h3, h4, Rps.wk x fs _ h5⟩
theorem Rps.wk (x : Wk W H W' H') : ∀ (ds : List D) (vs : List V), Rps G W H ds vs → Rps G W' H' ds vs
  | [], _, h => by simpa only [Rps] using h
  | d :: ds, vs, h => by
    simp only [Rps] at h ⊢
    obtain ⟨v, r, e, h1, h2⟩ := h
    exact ⟨v, r, e, Rp.wk x d v h1, Rps.wk x ds r h2⟩
end
theorem ObR.wk {a : Addr} {o : Ob} (x : Wk W H W' H') (em : H' a = H a) (q : ObR G W H a o) : ObR G W' H' a o := by
  cases o with
  | lst ds =>
    obtain ⟨vs, k1, k2⟩ := q
    exact ⟨vs, em.trans k1, Rps.wk x _ _ k2⟩
  | ins c fs =>
    obtain ⟨C, dx, fv, k1, k2, k0, k3, k4, k5, k6⟩ := q
    exact ⟨C, dx, fv, k1, em.trans k2, x.k _ _ k3 k4 k0, x.out k3 k4, fun z => k4 (x.b _ z), k5, Rps.wk x _ _ k6⟩
theorem StoR.wk (x : Wk W H W' H') (ht : W'.t = W.t) (s : StoR G W H S) (e : ∀ a ∈ W.t, H' a = H a) (lb : ∀ a ∈ W'.b, ∃ o, H' a = some o) : StoR G W' H' S := by
  refine ⟨by rw [ht]; exact s.len, by rw [ht]; exact s.nd, fun i a o h1 h2 => ?_, fun a ha => ?_, lb⟩
  · rw [ht] at h1
    exact (s.ob i a o h1 h2).wk x (e a (List.mem_of_getElem? h1))
  · rw [ht] at ha
    obtain ⟨o, ho⟩ := s.live a ha
    exact ⟨o, (e a ha).trans ho⟩
/-- a hidden object is tracked -/
theorem StoR.adopt {p : Addr} {o : Ob} {b : List Addr} (s : StoR G W H S) (hp : p ∈ W.b) (hn : p ∉ W.t) (hb : ∀ a ∈ b, a ∈ W.b) (q : ObR G ⟨W.t ++ [p], b⟩ H p o) : StoR G ⟨W.t ++ [p], b⟩ H (S ++ [o]) := by
  have x : Wk W H ⟨W.t ++ [p], b⟩ H := ⟨⟨[p], rfl, fun a ha => by rw [List.mem_singleton.mp ha]; exact hp⟩, hb, fun _ _ _ _ e => e⟩
  refine ⟨by simp [s.len], ?_, fun j c v h1 h2 => ?_, fun c hc => ?_, fun c hc => s.liveB c (hb c hc)⟩
  · refine List.nodup_append.mpr ⟨s.nd, by simp, fun a ha c hc => ?_⟩
    rw [List.mem_singleton.mp hc]
    exact fun z => hn (z ▸ ha)
  · by_cases e : j < W.t.length
    · have h1' : W.t[j]? = some c := by
        have h1 : (W.t ++ [p])[j]? = some c := h1
        rw [List.getElem?_append_left e] at h1
        exact h1
      rw [List.getElem?_append_left (by rw [← s.len]; exact e)] at h2
      exact (s.ob j c v h1' h2).wk x rfl
    · have h1 : (W.t ++ [p])[j]? = some c := h1
      rw [List.getElem?_append_right (by omega)] at h1
      rw [List.getElem?_append_right (by rw [← s.len]; omega)] at h2
      have e2 : j - W.t.length = 0 := by
        cases q : j - W.t.length with
        | zero => rfl
        | succ m => rw [q] at h1; simp at h1
      rw [e2] at h1
      rw [← s.len, e2] at h2
      simp at h1 h2
      subst h1
      subst h2
      exact q
  · rcases List.mem_append.mp hc with hc | hc
    · exact s.live c hc
    · rw [List.mem_singleton.mp hc]
      exact s.liveB p hp
/-- a hidden object changes -/
theorem Wk.upd {p : Addr} {o : HO} (h : p ∈ W.b) : Wk W H W (upd H p o) := ⟨⟨[], by simp, by simp⟩, fun _ z => z, fun a u _ hb e => by rw [upd_ne (fun z => hb (by rw [z]; exact h))]; exact e⟩
theorem Wk.less {b : List Addr} (h : ∀ a ∈ b, a ∈ W.b) : Wk W H ⟨W.t, b⟩ H := ⟨⟨[], by simp, by simp⟩, h, fun _ _ _ _ e => e⟩
theorem StoR.hide (s : StoR G W H S) {p : Addr} {o : HO} (h : H p = none) : StoR G ⟨W.t, p :: W.b⟩ (upd H p o) S := by
  have x : Ext W H ⟨W.t, p :: W.b⟩ (upd H p o) := Ext.hide h
  have f := s.fresh h
  refine ⟨s.len, s.nd, fun i a u h1 h2 => (s.ob i a u h1 h2).keep x (upd_ne fun z => f.1 (z ▸ List.mem_of_getElem? h1)), fun a ha => ?_, fun a ha => ?_⟩
  · obtain ⟨u, hu⟩ := s.live a ha
    exact x.lv a u hu
  · rcases List.mem_cons.mp ha with e | ha
    · rw [e]
      exact ⟨o, upd_same⟩
    · obtain ⟨u, hu⟩ := s.liveB a ha
      exact x.lv a u hu
end

/-! ### slots -/
structure SlR (G : Gb) (W : Wd) (H : Hp) (r : Loc) (q : L2.St) : Prop where
  len : r.length ≤ q.length
  at_ : ∀ (i : Nat) (d : D), r[i]? = some (some d) → ∃ v, q[i]? = some (some v) ∧ Rp G W H d v
theorem SlR.ext {G : Gb} {W W' : Wd} {H H' : Hp} {r : Loc} {q : L2.St} (x : Ext W H W' H') (h : SlR G W H r q) : SlR G W' H' r q :=
  ⟨h.len, fun i d e => let ⟨v, h1, h2⟩ := h.at_ i d e; ⟨v, h1, Rp.ext x d v h2⟩⟩
theorem SlR.set {G : Gb} {W : Wd} {H : Hp} {r : Loc} {q : L2.St} {d : D} {v : V} (h : SlR G W H r q) (i : Nat) (p : Rp G W H d v) : SlR G W H (r.set i (some d)) (q.set i (some v)) := by
  refine ⟨by simpa using h.len, fun j c e => ?_⟩
  by_cases z : j = i
  · subst z
    by_cases hl : j < r.length
    · rw [List.getElem?_set_self hl] at e
      cases e
      exact ⟨v, by rw [List.getElem?_set_self (Nat.lt_of_lt_of_le hl h.len)], p⟩
    · rw [List.getElem?_eq_none (by simpa using hl)] at e
      cases e
  · rw [List.getElem?_set_ne (Ne.symm z)] at e ⊢
    exact h.at_ j c e
structure Rel (G : Gb) (W : Wd) (r : Loc) (S : Sto) (q : L2.St) (H : Hp) : Prop where
  sl : SlR G W H r q
  st : StoR G W H S

/-! ### readings made of functions -/
abbrev Rep (a b : Type) := Wd → Hp → a → b → Prop
def Mono {a b : Type} (p : Rep a b) : Prop := ∀ (W W' : Wd) (H H' : Hp) (d : a) (v : b), Ext W H W' H' → p W H d v → p W' H' d v
abbrev repB : Rep Bool Bool := fun _ _ b c => c = b
abbrev repO : Rep (Option Int) (Option Int) := fun _ _ b c => c = b
theorem mono_D {G : Gb} : Mono (Rp G) := fun _ _ _ _ d v x h => Rp.ext x d v h
theorem mono_Ds {G : Gb} : Mono (Rps G) := fun _ _ _ _ d v x h => Rps.ext x d v h
theorem mono_B : Mono repB := fun _ _ _ _ _ _ _ h => h
theorem mono_O : Mono repO := fun _ _ _ _ _ _ _ h => h

def Post (G : Gb) (E : XK) {a b : Type} (p : Rep a b) (W : Wd) (H : Hp) (r : Re a) (Q : b → Hp → Prop) : Prop := match r with
  | .ok d S => ∀ W' H' v, Ext W H W' H' → StoR G W' H' S → p W' H' d v → Q v H'
  | .err x fs S => ∀ W' H' c dd, Ext W H W' H' → StoR G W' H' S → ErrR G W' H' x fs c dd → E c dd H'
  | .bad => False
section
variable {G : Gb} {E : XK} {W W' : Wd} {H H' : Hp} {a b c d : Type}
theorem Post.mono {p : Rep a b} {r : Re a} {Q : b → Hp → Prop} (x : Ext W H W' H') (h : Post G E p W H r Q) : Post G E p W' H' r Q := by
  cases r with
  | ok d S => exact fun W2 H2 v y s q => h W2 H2 v (x.trans y) s q
  | err n fs S => exact fun W2 H2 c dd y s q => h W2 H2 c dd (x.trans y) s q
  | bad => exact h
theorem Post.imp {p : Rep a b} {r : Re a} {Q Q' : b → Hp → Prop} (h : Post G E p W H r Q) (k : ∀ v H', Q v H' → Q' v H') : Post G E p W H r Q' := by
  cases r with
  | ok d S => exact fun W2 H2 v y s q => k _ _ (h W2 H2 v y s q)
  | err n fs S => exact h
  | bad => exact h
theorem Post.done {p : Rep a b} {x : a} {S : Sto} {v : b} {Q : b → Hp → Prop} (h : Post G E p W H (.ok x S) Q) (s : StoR G W H S) (r : p W H x v) : Q v H := h W H v (Ext.refl W H) s r
theorem Post.bind {p : Rep a b} {p' : Rep c d} {r : Re a} {g : a → Sto → Re c} {Q : d → Hp → Prop} (h : Post G E p' W H (r.bind g) Q) :
    Post G E p W H r fun v H1 => ∃ W1 x S1, Ext W H W1 H1 ∧ StoR G W1 H1 S1 ∧ p W1 H1 x v ∧ r = .ok x S1 ∧ Post G E p' W1 H1 (g x S1) Q := by
  cases r with
  | ok x S => exact fun W2 H2 v y s q => ⟨W2, x, S, y, s, q, rfl, Post.mono y h⟩
  | err n fs S => exact h
  | bad => exact h
end

/-- the reading that a function makes -/
def T (G : Gb) (E : XK) {a b : Type} (p : Rep a b) (f : M a) : L2.St → Hp → (b → Hp → Prop) → Prop := fun q H Q =>
  ∃ W r S, Rel G W r S q H ∧ Post G E p W H (f r S) Q
theorem T.bind {G : Gb} {E : XK} {a b c d : Type} {p : Rep a b} {p' : Rep c d} {f : M a} {g : a → M c} {q : L2.St} {H : Hp} {Q : d → Hp → Prop} (h : T G E p' (M.bind f g) q H Q) :
    T G E p f q H fun v H1 => ∃ W1 r S1 x, Rel G W1 r S1 q H1 ∧ p W1 H1 x v ∧ Post G E p' W1 H1 (g x r S1) Q := by
  obtain ⟨W, r, S, rel, h⟩ := h
  refine ⟨W, r, S, rel, Post.imp (Post.bind (p := p) h) fun v H1 k => ?_⟩
  obtain ⟨W1, x, S1, ext, st, pr, _, k⟩ := k
  exact ⟨W1, r, S1, x, ⟨rel.sl.ext ext, st⟩, pr, k⟩
abbrev TD (G : Gb) (E : XK) (f : M D) : TE := T G E (Rp G) f
abbrev TB (G : Gb) (E : XK) (f : M Bool) : TT := T G E repB f
abbrev TDs (G : Gb) (E : XK) (f : M (List D)) : TA := T G E (Rps G) f

/-! ### weaker readings -/
theorem PE.imp {X : Cx} {e : Expr} {t t' : TE} (h : PE X e t) (k : ∀ q H Q, t' q H Q → t q H Q) : PE X e t' := ⟨fun pins s q H Q I hw => h.run pins s q H Q I (k _ _ _ hw)⟩
theorem PT.imp {X : Cx} {e : Expr} {t t' : TT} (h : L2.PT X e t) (k : ∀ q H Q, t' q H Q → t q H Q) : L2.PT X e t' := ⟨fun pins s q H Q I hw => h.run pins s q H Q I (k _ _ _ hw)⟩
theorem PA.imp {X : Cx} {e : List Expr} {t t' : TA} (h : PA X e t) (k : ∀ q H Q, t' q H Q → t q H Q) : PA X e t' := ⟨fun pos pins s q H Q I hw => h.run pos pins s q H Q I (k _ _ _ hw)⟩
theorem PS.imp {X : Cx} {e : Stmt} {t t' : TS} (h : PS X e t) (k : ∀ D q H, t' D q H → t D q H) : PS X e t' := ⟨fun pins s q H D I hw => h.run pins s q H D I (k _ _ _ hw)⟩
theorem PSs.imp {X : Cx} {e : List Stmt} {t t' : TS} (h : PSs X e t) (k : ∀ D q H, t' D q H → t D q H) : PSs X e t' := ⟨fun pins s q H D I hw => h.run pins s q H D I (k _ _ _ hw)⟩
theorem PE.ex {X : Cx} {e : Expr} {i : Type} {t : i → TE} (h : ∀ x, PE X e (t x)) : PE X e (fun q H Q => ∃ x, t x q H Q) := ⟨fun pins s q H Q I ⟨x, hw⟩ => (h x).run pins s q H Q I hw⟩
end DL
set_option Elab.async false
set_option linter.all false
set_option maxRecDepth 100000
set_option maxHeartbeats 4000000
/-! DL2: operations on values. -/
namespace DL
open PySem PySem.Spec PyProof.Rows L2

/-! ### reading values -/
/-- the value with its list looked up -/
def vw (S : Sto) : D → D
  | .ref i => match S[i]? with
    | some (.lst ds) => .lst ds
    | _ => .ref i
  | d => d
@[simp] theorem vw_non {S : Sto} : vw S .non = .non := rfl
@[simp] theorem vw_bl {S : Sto} {b : Bool} : vw S (.bl b) = .bl b := rfl
@[simp] theorem vw_int {S : Sto} {i : Int} : vw S (.int i) = .int i := rfl
@[simp] theorem vw_str {S : Sto} {x : List Nat} : vw S (.str x) = .str x := rfl
@[simp] theorem vw_tup {S : Sto} {x : List D} : vw S (.tup x) = .tup x := rfl
@[simp] theorem vw_lst {S : Sto} {x : List D} : vw S (.lst x) = .lst x := rfl
@[simp] theorem vw_fn {S : Sto} {x : Nat} : vw S (.fn x) = .fn x := rfl
@[simp] theorem vw_scr {S : Sto} {x : List Int} : vw S (.scr x) = .scr x := rfl
theorem vw_ref {S : Sto} {i : Nat} {ds : List D} (h : S[i]? = some (.lst ds)) : vw S (.ref i) = .lst ds := by
  unfold vw
  simp only [h]

section
variable {G : Gb} {W : Wd} {H : Hp} {S : Sto} {d : D} {v : V}
theorem rp_non (h : Rp G W H .non v) : v = .non := by simpa only [Rp] using h
theorem rp_bl {b : Bool} (h : Rp G W H (.bl b) v) : v = .bl b := by simpa only [Rp] using h
theorem rp_int {i : Int} (h : Rp G W H (.int i) v) : v = .int i := by simpa only [Rp] using h
theorem rp_str {x : List Nat} (h : Rp G W H (.str x) v) : v = .str ⟨x.toArray⟩ := by simpa only [Rp] using h
theorem rp_tup {x : List D} (h : Rp G W H (.tup x) v) : ∃ a vs, v = .ref a ∧ DL.PT G.K W H a vs ∧ Rps G W H x vs := by simpa only [Rp] using h
theorem rp_lst {x : List D} (h : Rp G W H (.lst x) v) : ∃ a vs, v = .ref a ∧ PL W H a vs ∧ Rps G W H x vs := by simpa only [Rp] using h
theorem rp_ref {i : Nat} (h : Rp G W H (.ref i) v) : ∃ a, v = .ref a ∧ W.t[i]? = some a := by simpa only [Rp] using h
theorem rp_fn {f : Nat} (h : Rp G W H (.fn f) v) : ∃ a, v = .ref a ∧ G.fa f = some a := by simpa only [Rp] using h
theorem rp_scr {ns : List Int} (h : Rp G W H (.scr ns) v) : ∃ a, v = .ref a ∧ PZ G.K W H a (ns.map V.int) := by simpa only [Rp] using h
theorem rp_exn {a dd x : Nat} {fs : List D} (h : Rp G W H (.exn a dd x fs) v) : v = .ref a ∧ dd ∉ W.t ∧ dd ∉ W.b ∧ ∃ fv : List (Str × V), H dd = some (.xd fv) ∧ fv.map (·.1) = G.xf x ∧ Rps G W H fs (fv.map (·.2)) := by simpa only [Rp] using h
theorem mk_non : Rp G W H .non .non := by simp only [Rp]
theorem mk_bl {b : Bool} : Rp G W H (.bl b) (.bl b) := by simp only [Rp]
theorem mk_int {i : Int} : Rp G W H (.int i) (.int i) := by simp only [Rp]
theorem mk_str {x : List Nat} : Rp G W H (.str x) (.str ⟨x.toArray⟩) := by simp only [Rp]
/-- a list read -/
theorem rd_lst {ds : List D} (st : StoR G W H S) (e : vw S d = .lst ds) (h : Rp G W H d v) : ∃ a vs, v = .ref a ∧ H a = some (.lst vs) ∧ Rps G W H ds vs := by
  cases d with
  | lst xs =>
    simp only [vw_lst, D.lst.injEq] at e
    subst e
    obtain ⟨a, vs, e, p, r⟩ := rp_lst h
    exact ⟨a, vs, e, p.2.2, r⟩
  | ref i =>
    obtain ⟨a, rfl, hi⟩ := rp_ref h
    unfold vw at e
    simp only at e
    split at e
    · rename_i xs hs
      cases e
      obtain ⟨vs, h1, h2⟩ := st.ob i a _ hi hs
      exact ⟨a, vs, rfl, h1, h2⟩
    · cases e
  | exn a dd x fs =>
    unfold vw at e
    cases e
  | _ => simp at e
theorem vw_flat (e : ∀ ds, vw S d ≠ .lst ds) : vw S d = d := by
  cases d with
  | ref i =>
    unfold vw at e ⊢
    simp only at e ⊢
    split
    · rename_i xs hs
      simp only [hs] at e
      exact absurd rfl (e xs)
    · rfl
  | _ => rfl
theorem vw_of {e : D} (h : vw S d = e) (n : ∀ ds, e ≠ .lst ds) : d = e := (vw_flat (S := S) fun ds q => n ds (h.symm.trans q)).symm.trans h

/-! ### results -/
variable {E : XK} {Q : VK}
theorem out_flat {x : D} {u : V} (st : StoR G W H S) (p : Post G E (Rp G) W H (.ok x S) Q) (r : Rp G W H x u) : Q u H := p.done st r
/-- a new list, a new tuple -/
theorem out_lst {ds : List D} {vs : List V} (st : StoR G W H S) (p : Post G E (Rp G) W H (.ok (.lst ds) S) Q) (r : Rps G W H ds vs) : ∀ a, H a = none → Q (.ref a) (upd H a (.lst vs)) := fun a ha => by
  have x : Ext W H W (upd H a (.lst vs)) := Ext.new ha
  have f := st.fresh ha
  refine p W _ _ x (st.new ha) ?_
  simp only [Rp]
  exact ⟨a, vs, rfl, ⟨f.1, f.2, upd_same⟩, Rps.ext x _ _ r⟩
theorem out_tup {ds : List D} {vs : List V} (st : StoR G W H S) (p : Post G E (Rp G) W H (.ok (.tup ds) S) Q) (r : Rps G W H ds vs) : ∀ a, H a = none → Q (.ref a) (upd H a (.tup vs)) := fun a ha => by
  have x : Ext W H W (upd H a (.tup vs)) := Ext.new ha
  have f := st.fresh ha
  refine p W _ _ x (st.new ha) ?_
  simp only [Rp]
  exact ⟨a, vs, rfl, .inl ⟨f.1, f.2, .inl upd_same⟩, Rps.ext x _ _ r⟩
end

/-! ### the canonical readings of operations -/
def r2 (G : Gb) (E : XK) (g : D → D → Sto → Re D) : R2 := fun x y H Q => ∃ W S d e, StoR G W H S ∧ Rp G W H d x ∧ Rp G W H e y ∧ Post G E (Rp G) W H (g d e S) Q
def r1 (G : Gb) (E : XK) (g : D → Sto → Re D) : V → Hp → VK → Prop := fun x H Q => ∃ W S d, StoR G W H S ∧ Rp G W H d x ∧ Post G E (Rp G) W H (g d S) Q
def rC (G : Gb) (E : XK) (g : List D → Sto → Re D) : List V → Hp → VK → Prop := fun xs H Q => ∃ W S ds, StoR G W H S ∧ Rps G W H ds xs ∧ Post G E (Rp G) W H (g ds S) Q
def rM (G : Gb) (E : XK) (g : D → List D → Sto → Re D) : V → List V → Hp → VK → Prop := fun x xs H Q => ∃ W S d ds, StoR G W H S ∧ Rp G W H d x ∧ Rps G W H ds xs ∧ Post G E (Rp G) W H (g d ds S) Q

theorem sz {n : Nat} (h : n ≤ 1000000) : n ≤ sizeLine := by rw [sizeLine_eq]; omega
theorem szlt {n : Nat} (h : n < 1000000) : n < sizeLine := by rw [sizeLine_eq]; omega
theorem Post.no {G : Gb} {E : XK} {a b : Type} {p : Rep a b} {W : Wd} {H : Hp} {Q : b → Hp → Prop} {P : Prop} (h : Post G E p W H .bad Q) : P := False.elim h

/-! ### arithmetic -/
def fAdd (d e : D) (S : Sto) : Re D := match vw S d, vw S e with
  | .int i, .int j => .ok (.int (i + j)) S
  | .str x, .str y => if x.length + y.length ≤ 1000000 then .ok (.str (x ++ y)) S else .bad
  | .tup x, .tup y => if x.length + y.length ≤ 1000000 then .ok (.tup (x ++ y)) S else .bad
  | .lst x, .lst y => if x.length + y.length ≤ 1000000 then .ok (.lst (x ++ y)) S else .bad
  | _, _ => .bad
def fSub (d e : D) (S : Sto) : Re D := match d, e with
  | .int i, .int j => .ok (.int (i - j)) S
  | _, _ => .bad
def fMul (d e : D) (S : Sto) : Re D := match d, e with
  | .int i, .int j => if i.natAbs < 18446744073709551616 ∨ j.natAbs < 18446744073709551616 then .ok (.int (i * j)) S else .bad
  | _, _ => .bad
def fDiv (d e : D) (S : Sto) : Re D := match d, e with
  | .int i, .int j => if 0 < j ∧ j < 1073741824 then .ok (.int (i / j)) S else .bad
  | _, _ => .bad
def fMod (d e : D) (S : Sto) : Re D := match d, e with
  | .int i, .int j => if 0 < j then .ok (.int (i % j)) S else .bad
  | _, _ => .bad
def fPow (d e : D) (S : Sto) : Re D := match d, e with
  | .int i, .int j => if 0 ≤ j ∧ j ≤ 1000000 ∧ i.natAbs < 2 ^ 64 then .ok (.int (i ^ j.toNat)) S else .bad
  | _, _ => .bad
def fNeg (d : D) (S : Sto) : Re D := match d with
  | .int i => .ok (.int (-i)) S
  | _ => .bad

section
variable {X : Cx} {G : Gb} {E : XK}
theorem str_cat (x y : List Nat) : ((⟨x.toArray⟩ : Str) ++ (⟨y.toArray⟩ : Str)) = (⟨(x ++ y).toArray⟩ : Str) := by
  show Str.append _ _ = _
  unfold Str.append
  simp
theorem str_len (x : List Nat) : Str.length (⟨x.toArray⟩ : Str) = x.length := by
  unfold Str.length
  simp
theorem or_add (hK : G.K = X.K) : OpR X (binaryOp .Add) (r2 G E fAdd) := by
  intro pins s σ H x y v u Q I rx ry h
  obtain ⟨W, S, d, e, st, rd, re, p⟩ := h
  unfold fAdd at p
  split at p
  · rename_i i j hd he
    have hd := vw_of hd (by simp)
    have he := vw_of he (by simp)
    subst hd he
    obtain rfl := rp_int rd
    obtain rfl := rp_int re
    exact op_add pins s σ H _ _ v u Q I rx ry ⟨i, j, rfl, rfl, p.done st mk_int⟩
  · rename_i i j hd he
    have hd := vw_of hd (by simp)
    have he := vw_of he (by simp)
    subst hd he
    obtain rfl := rp_str rd
    obtain rfl := rp_str re
    split at p
    · rename_i hz
      exact op_add_str pins s σ H _ _ v u Q I rx ry ⟨_, _, rfl, rfl, by rw [str_len, str_len]; exact sz hz, by rw [str_cat]; exact p.done st mk_str⟩
    · exact p.no
  · rename_i i j hd he
    have hd := vw_of hd (by simp)
    have he := vw_of he (by simp)
    subst hd he
    obtain ⟨a, vs, rfl, pa, ra⟩ := rp_tup rd
    obtain ⟨b, us, rfl, pb, rb⟩ := rp_tup re
    rw [hK] at pa pb
    split at p
    · rename_i hz
      refine op_catA pins s σ H _ _ v u Q I rx ry ⟨a, b, vs, us, rfl, rfl, pa.sq, pb.sq, by rw [ra.length, rb.length]; exact sz hz, fun z => ?_, fun z z2 => ?_, fun _ _ q hq => ?_⟩
      · subst z
        have : i = [] := by
          have := ra.length
          cases i with
          | nil => rfl
          | cons _ _ => simp at this
        subst this
        exact p.done st re
      · subst z2
        have : j = [] := by
          have := rb.length
          cases j with
          | nil => rfl
          | cons _ _ => simp at this
        subst this
        refine p.done st ?_
        rw [List.append_nil]
        exact rd
      · exact out_tup st p (ra.append rb) q hq
    · exact p.no
  · rename_i i j hd he
    obtain ⟨a, vs, rfl, pa, ra⟩ := rd_lst st hd rd
    obtain ⟨b, us, rfl, pb, rb⟩ := rd_lst st he re
    split at p
    · rename_i hz
      exact op_cat pins s σ H _ _ v u Q I rx ry ⟨a, b, vs, us, rfl, rfl, pa, pb, by rw [ra.length, rb.length]; exact sz hz, fun q hq => out_lst st p (ra.append rb) q hq⟩
    · exact p.no
  · exact p.no
theorem or_int2 {f : Value → Value → Sem Value} {g : D → D → Sto → Re D} {C : Int → Int → Prop} {k : Int → Int → V} {kd : Int → Int → D} (hk : ∀ i j W H, Rp G W H (kd i j) (k i j)) (ho : OpR X f (rI C k))
    (hg : ∀ d e S, (∃ i j, d = .int i ∧ e = .int j ∧ C i j ∧ g d e S = .ok (kd i j) S) ∨ g d e S = .bad) : OpR X f (r2 G E g) := by
  intro pins s σ H x y v u Q I rx ry h
  obtain ⟨W, S, d, e, st, rd, re, p⟩ := h
  rcases hg d e S with ⟨i, j, rfl, rfl, c, q⟩ | q
  · rw [q] at p
    obtain rfl := rp_int rd
    obtain rfl := rp_int re
    exact ho pins s σ H _ _ v u Q I rx ry ⟨i, j, rfl, rfl, c, p.done st (hk i j W H)⟩
  · rw [q] at p
    exact p.no
theorem or_sub : OpR X (binaryOp .Sub) (r2 G E fSub) := by
  intro pins s σ H x y v u Q I rx ry h
  obtain ⟨W, S, d, e, st, rd, re, p⟩ := h
  unfold fSub at p
  split at p
  · rename_i i j
    obtain rfl := rp_int rd
    obtain rfl := rp_int re
    exact op_sub pins s σ H _ _ v u Q I rx ry ⟨i, j, rfl, rfl, p.done st mk_int⟩
  · exact p.no
theorem or_mul : OpR X (binaryOp .Mult) (r2 G E fMul) := or_int2 (kd := fun i j => .int (i * j)) (fun _ _ _ _ => mk_int) op_mul fun d e S => by
  unfold fMul
  split
  · split
    · rename_i h
      exact .inl ⟨_, _, rfl, rfl, h.imp (fun h => ⟨by omega, by omega⟩) (fun h => ⟨by omega, by omega⟩), rfl⟩
    · exact .inr rfl
  · exact .inr rfl
theorem or_div : OpR X (binaryOp .FloorDiv) (r2 G E fDiv) := or_int2 (kd := fun i j => .int (i / j)) (fun _ _ _ _ => mk_int) op_fdiv fun d e S => by
  unfold fDiv
  split
  · split
    · rename_i h
      exact .inl ⟨_, _, rfl, rfl, h, rfl⟩
    · exact .inr rfl
  · exact .inr rfl
theorem or_mod : OpR X (binaryOp .Mod) (r2 G E fMod) := or_int2 (kd := fun i j => .int (i % j)) (fun _ _ _ _ => mk_int) op_mod fun d e S => by
  unfold fMod
  split
  · split
    · rename_i h
      exact .inl ⟨_, _, rfl, rfl, h, rfl⟩
    · exact .inr rfl
  · exact .inr rfl
theorem or_pow : OpR X (binaryOp .Pow) (r2 G E fPow) := or_int2 (kd := fun i j => .int (i ^ j.toNat)) (fun _ _ _ _ => mk_int) op_pow fun d e S => by
  unfold fPow
  split
  · split
    · rename_i h
      exact .inl ⟨_, _, rfl, rfl, h, rfl⟩
    · exact .inr rfl
  · exact .inr rfl
theorem ur_neg : UnR X (unaryOp .USub) (r1 G E fNeg) := by
  intro pins s σ H x v Q I rx h
  obtain ⟨W, S, d, st, rd, p⟩ := h
  unfold fNeg at p
  split at p
  · rename_i i
    obtain rfl := rp_int rd
    exact un_neg pins s σ H _ v Q I rx ⟨i, rfl, p.done st mk_int⟩
  · exact p.no
end
end DL
set_option Elab.async false
set_option linter.all false
set_option maxRecDepth 100000
set_option maxHeartbeats 4000000
/-! DL3: comparisons, truth, lengths, subscripts, slices, lists. -/
namespace DL
open PySem PySem.Spec PyProof.Rows L2

/-! ### == at any depth -/
mutual
def eqD : D → D → Bool
  | .non, .non => true
  | .bl a, .bl b => a == b
  | .bl a, .int j => (if a then 1 else 0) == j
  | .int i, .bl b => i == (if b then 1 else 0)
  | .int i, .int j => i == j
  | .str x, .str y => x == y
  | .lst xs, .lst ys => eqDs xs ys
  | .tup xs, .tup ys => eqDs xs ys
  | _, _ => false
def eqDs : List D → List D → Bool
  | [], [] => true
  | x :: xs, y :: ys => eqD x y && eqDs xs ys
  | _, _ => false
end
/-- data of depth at most n, its texts of signs -/
def okS (x : List Nat) : Bool := x.all (· < 1114112)
mutual
def okD : Nat → D → Bool
  | _, .non => true
  | _, .bl _ => true
  | _, .int _ => true
  | _, .str x => okS x
  | 0, _ => false
  | n + 1, .tup ds => okDs n ds
  | n + 1, .lst ds => okDs n ds
  | _, _ => false
def okDs : Nat → List D → Bool
  | _, [] => true
  | n, d :: ds => okD n d && okDs n ds
end
mutual
def toPy : D → PyData
  | .non => .none
  | .bl b => .bool b
  | .int i => .int i
  | .str x => .str ⟨x.toArray⟩
  | .tup ds => .tuple (toPys ds)
  | .lst ds => .list (toPys ds)
  | .ref _ => .none
  | .fn _ => .none
  | .scr _ => .none
  | .exn _ _ _ _ => .none
def toPys : List D → List PyData
  | [] => []
  | d :: ds => toPy d :: toPys ds
end
theorem okS_ok {x : List Nat} (h : okS x = true) : PyData.strOk (⟨x.toArray⟩ : Str) = true := by
  unfold okS at h
  unfold PyData.strOk
  rw [Array.all_eq_true]
  intro i hi
  have := List.all_eq_true.mp h (x[i]'(by simpa using hi)) (List.getElem_mem _)
  simpa using this
theorem toPy_ok : ∀ (n : Nat) (d : D), okD n d = true → PyData.canLay0 (toPy d) = true ∧ PyData.depth (toPy d) ≤ n := by
  intro n
  induction n with
  | zero =>
    intro d h
    cases d <;> simp [okD, toPy, PyData.canLay0, PyData.depth] at h ⊢
    exact okS_ok h
  | succ n ih =>
    have all : ∀ ds : List D, okDs n ds = true → PyData.canLayAll0 (toPys ds) = true ∧ PyData.depthAll (toPys ds) ≤ n := by
      intro ds
      induction ds with
      | nil => intro _; simp [toPys, PyData.canLayAll0, PyData.depthAll]
      | cons d ds ihd =>
        intro h
        simp only [okDs, Bool.and_eq_true] at h
        have h1 := ih d h.1
        have h2 := ihd h.2
        simp only [toPys, PyData.canLayAll0, PyData.depthAll, Bool.and_eq_true]
        exact ⟨⟨h1.1, h2.1⟩, Nat.max_le.mpr ⟨h1.2, h2.2⟩⟩
    intro d h
    cases d <;> simp [okD, toPy, PyData.canLay0, PyData.depth] at h ⊢
    · exact okS_ok h
    · exact all _ h
    · exact all _ h
mutual
theorem toPy_eqv : ∀ (d e : D) (n m : Nat), okD n d = true → okD m e = true → PyData.eqv (toPy d) (toPy e) = eqD d e
  | .non, e, n, m, h, k => by cases e <;> cases m <;> simp [okD, toPy, PyData.eqv, eqD] at k ⊢
  | .bl a, e, n, m, h, k => by cases e <;> cases m <;> simp [okD, toPy, PyData.eqv, eqD] at k ⊢
  | .int a, e, n, m, h, k => by cases e <;> cases m <;> simp [okD, toPy, PyData.eqv, eqD] at k ⊢
  | .str a, e, n, m, h, k => by
    cases e with
    | str b =>
      simp only [toPy, PyData.eqv, eqD]
      by_cases q : a = b
      · subst q; simp
      · have q2 : ¬ (⟨a.toArray⟩ : Str) = ⟨b.toArray⟩ := fun z => q (by injection z with z; simpa using z)
        rw [beq_eq_false_iff_ne.mpr q, beq_eq_false_iff_ne.mpr q2]
    | _ => cases m <;> simp [okD, toPy, PyData.eqv, eqD] at k ⊢
  | .lst a, e, n, m, h, k => by
    cases e with
    | lst b =>
      cases n with
      | zero => simp [okD] at h
      | succ n =>
        cases m with
        | zero => simp [okD] at k
        | succ m =>
          simp only [okD] at h k
          simp only [toPy, PyData.eqv, eqD]
          exact toPys_eqv a b n m h k
    | _ => cases m <;> simp [okD, toPy, PyData.eqv, eqD] at k ⊢
  | .tup a, e, n, m, h, k => by
    cases e with
    | tup b =>
      cases n with
      | zero => simp [okD] at h
      | succ n =>
        cases m with
        | zero => simp [okD] at k
        | succ m =>
          simp only [okD] at h k
          simp only [toPy, PyData.eqv, eqD]
          exact toPys_eqv a b n m h k
    | _ => cases m <;> simp [okD, toPy, PyData.eqv, eqD] at k ⊢
  | .ref _, e, n, m, h, k => by cases n <;> simp [okD] at h
  | .fn _, e, n, m, h, k => by cases n <;> simp [okD] at h
  | .scr _, e, n, m, h, k => by cases n <;> simp [okD] at h
  | .exn _ _ _ _, e, n, m, h, k => by cases n <;> simp [okD] at h
theorem toPys_eqv : ∀ (ds es : List D) (n m : Nat), okDs n ds = true → okDs m es = true → PyData.eqvAll (toPys ds) (toPys es) = eqDs ds es
  | [], [], n, m, h, k => by simp [toPys, PyData.eqvAll, eqDs]
  | [], _ :: _, n, m, h, k => by simp [toPys, PyData.eqvAll, eqDs]
  | _ :: _, [], n, m, h, k => by simp [toPys, PyData.eqvAll, eqDs]
  | d :: ds, e :: es, n, m, h, k => by
    simp only [okDs, Bool.and_eq_true] at h k
    simp only [toPys, PyData.eqvAll, eqDs]
    rw [toPy_eqv d e n m h.1 k.1, toPys_eqv ds es n m h.2 k.2]
end
section
variable {G : Gb} {W : Wd} {H : Hp}
mutual
theorem rp_dp : ∀ (d : D) (v : V) (n : Nat), okD n d = true → Rp G W H d v → Dp G.K H v (toPy d)
  | .non, v, n, h, r => by rw [rp_non r]; simp only [toPy]; exact .non
  | .bl b, v, n, h, r => by rw [rp_bl r]; simp only [toPy]; exact .bl b
  | .int i, v, n, h, r => by rw [rp_int r]; simp only [toPy]; exact .int i
  | .str x, v, n, h, r => by rw [rp_str r]; simp only [toPy]; exact .str _
  | .tup ds, v, n, h, r => by
    obtain ⟨a, vs, rfl, p, q⟩ := rp_tup r
    cases n with
    | zero => simp [okD] at h
    | succ n =>
      simp only [okD] at h
      simp only [toPy]
      exact .tup p.sq (rps_dp ds vs n h q)
  | .lst ds, v, n, h, r => by
    obtain ⟨a, vs, rfl, p, q⟩ := rp_lst r
    cases n with
    | zero => simp [okD] at h
    | succ n =>
      simp only [okD] at h
      simp only [toPy]
      exact .lst p.sq (rps_dp ds vs n h q)
  | .ref _, v, n, h, r => by cases n <;> simp [okD] at h
  | .fn _, v, n, h, r => by cases n <;> simp [okD] at h
  | .scr _, v, n, h, r => by cases n <;> simp [okD] at h
  | .exn _ _ _ _, v, n, h, r => by cases n <;> simp [okD] at h
theorem rps_dp : ∀ (ds : List D) (vs : List V) (n : Nat), okDs n ds = true → Rps G W H ds vs → DpAll G.K H vs (toPys ds)
  | [], vs, n, h, r => by rw [Rps.nil_iff.mp r]; simp only [toPys]; exact .nil
  | d :: ds, vs, n, h, r => by
    obtain ⟨v, t, rfl, r1, r2⟩ := Rps.cons_iff.mp r
    simp only [okDs, Bool.and_eq_true] at h
    simp only [toPys]
    exact .cons (rp_dp d v n h.1 r1) (rps_dp ds t n h.2 r2)
end
/-- a value of the store, read as data -/
theorem rd_dp {S : Sto} {d : D} {v : V} {n : Nat} (st : StoR G W H S) (h : okD n (vw S d) = true) (r : Rp G W H d v) : Dp G.K H v (toPy (vw S d)) := by
  by_cases q : ∃ ds, vw S d = .lst ds
  · obtain ⟨ds, e⟩ := q
    obtain ⟨a, vs, rfl, ha, rs⟩ := rd_lst st e r
    rw [e] at h ⊢
    cases n with
    | zero => simp [okD] at h
    | succ n =>
      simp only [okD] at h
      simp only [toPy]
      exact .lst (SqL.of ha) (rps_dp ds vs n h rs)
  · have e := vw_flat (S := S) (d := d) fun ds z => q ⟨ds, z⟩
    rw [e] at h ⊢
    exact rp_dp d v n h r
end
/-- a value with what it means of the store in place, n deep -/
def dv : Nat → Sto → D → D
  | 0, _, d => d
  | n + 1, S, d => match d with
    | .ref i => match S[i]? with
      | some (.lst ds) => .lst (ds.map (dv n S))
      | _ => .ref i
    | .tup ds => .tup (ds.map (dv n S))
    | .lst ds => .lst (ds.map (dv n S))
    | d => d
section
variable {G : Gb} {W : Wd} {H : Hp}
theorem dv_dps {g : D → D} {n : Nat} (ih : ∀ (d : D) (v : V), okD n (g d) = true → Rp G W H d v → Dp G.K H v (toPy (g d))) : ∀ (ds : List D) (vs : List V), okDs n (ds.map g) = true → Rps G W H ds vs → DpAll G.K H vs (toPys (ds.map g))
  | [], vs, h, r => by rw [Rps.nil_iff.mp r]; simp only [List.map_nil, toPys]; exact .nil
  | d :: ds, vs, h, r => by
    obtain ⟨v, t, rfl, r1, r2⟩ := Rps.cons_iff.mp r
    simp only [List.map_cons, okDs, Bool.and_eq_true] at h
    simp only [List.map_cons, toPys]
    exact .cons (ih d v h.1 r1) (dv_dps ih ds t h.2 r2)
theorem dv_dp {S : Sto} (st : StoR G W H S) : ∀ (m n : Nat) (d : D) (v : V), okD n (dv m S d) = true → Rp G W H d v → Dp G.K H v (toPy (dv m S d))
  | 0, n, d, v, h, r => rp_dp d v n h r
  | m + 1, n, d, v, h, r => by
    cases d with
    | ref i =>
      simp only [dv] at h ⊢
      split at h
      · rename_i ds hs
        obtain ⟨a, rfl, hi⟩ := rp_ref r
        obtain ⟨vs, h1, h2⟩ := st.ob i a _ hi hs
        cases n with
        | zero => simp [okD] at h
        | succ n =>
          simp only [okD] at h
          simp only [toPy]
          exact .lst (SqL.of h1) (dv_dps (fun d v => dv_dp st m n d v) ds vs h h2)
      · cases n <;> simp [okD] at h
    | tup ds =>
      obtain ⟨a, vs, rfl, p, q⟩ := rp_tup r
      cases n with
      | zero => simp [dv, okD] at h
      | succ n =>
        simp only [dv, okD] at h
        simp only [dv, toPy]
        exact .tup p.sq (dv_dps (fun d v => dv_dp st m n d v) ds vs h q)
    | lst ds =>
      obtain ⟨a, vs, rfl, p, q⟩ := rp_lst r
      cases n with
      | zero => simp [dv, okD] at h
      | succ n =>
        simp only [dv, okD] at h
        simp only [dv, toPy]
        exact .lst p.sq (dv_dps (fun d v => dv_dp st m n d v) ds vs h q)
    | non => exact rp_dp _ v n h r
    | bl _ => exact rp_dp _ v n h r
    | int _ => exact rp_dp _ v n h r
    | str _ => exact rp_dp _ v n h r
    | fn _ => exact rp_dp _ v n h r
    | scr _ => exact rp_dp _ v n h r
    | exn _ _ _ _ => exact rp_dp _ v n h r
end
def fEq (d e : D) (S : Sto) : Re D := if okD 60 (vw S d) = true ∧ okD 60 (vw S e) = true then .ok (.bl (eqD (vw S d) (vw S e))) S
  else if okD 60 (dv 9 S d) = true ∧ okD 60 (dv 9 S e) = true then .ok (.bl (eqD (dv 9 S d) (dv 9 S e))) S else .bad
def fNe (d e : D) (S : Sto) : Re D := if okD 60 (vw S d) = true ∧ okD 60 (vw S e) = true then .ok (.bl (!eqD (vw S d) (vw S e))) S
  else if okD 60 (dv 9 S d) = true ∧ okD 60 (dv 9 S e) = true then .ok (.bl (!eqD (dv 9 S d) (dv 9 S e))) S else .bad
def fLt (d e : D) (S : Sto) : Re D := match d, e with
  | .int i, .int j => .ok (.bl (decide (i < j))) S
  | .str x, .str y => .ok (.bl (decide (x < y))) S
  | _, _ => .bad
def fLe (d e : D) (S : Sto) : Re D := match d, e with
  | .int i, .int j => .ok (.bl (decide (i ≤ j))) S
  | .str x, .str y => .ok (.bl (!decide (y < x))) S
  | _, _ => .bad
def fGt (d e : D) (S : Sto) : Re D := match d, e with
  | .int i, .int j => .ok (.bl (decide (j < i))) S
  | .str x, .str y => .ok (.bl (decide (y < x))) S
  | _, _ => .bad
def fGe (d e : D) (S : Sto) : Re D := match d, e with
  | .int i, .int j => .ok (.bl (decide (j ≤ i))) S
  | .str x, .str y => .ok (.bl (!decide (x < y))) S
  | _, _ => .bad
def isNon : D → Bool
  | .non => true
  | _ => false
def isBl (b : Bool) : D → Bool
  | .bl a => a == b
  | _ => false
/-- is None, is True, is False -/
def fIs (d e : D) (S : Sto) : Re D := match e with
  | .non => .ok (.bl (isNon d)) S
  | .bl b => .ok (.bl (isBl b d)) S
  | _ => .bad
def fIsN (d e : D) (S : Sto) : Re D := match e with
  | .non => .ok (.bl (!isNon d)) S
  | .bl b => .ok (.bl (!isBl b d)) S
  | _ => .bad
def flatD : D → Bool
  | .non => true
  | .bl _ => true
  | .int _ => true
  | .str _ => true
  | _ => false
def memD (d : D) (ds : List D) : Bool := ds.any fun e => eqD e d
/-- whether y is a part of x -/
def subS (x y : List Nat) : Bool := !(Builtin.Str.occurrences (⟨y.toArray⟩ : Str) (⟨x.toArray⟩ : Str) 0 y.length 1).isEmpty
def fIn (d e : D) (S : Sto) : Re D := match vw S e with
  | .tup ds => if flatD d = true ∧ ds.all flatD = true then .ok (.bl (memD d ds)) S else .bad
  | .lst ds => if flatD d = true ∧ ds.all flatD = true then .ok (.bl (memD d ds)) S else .bad
  | .str y => match d with
    | .str x => .ok (.bl (subS x y)) S
    | _ => .bad
  | _ => .bad
def fNotIn (d e : D) (S : Sto) : Re D := match vw S e with
  | .tup ds => if flatD d = true ∧ ds.all flatD = true then .ok (.bl (!memD d ds)) S else .bad
  | .lst ds => if flatD d = true ∧ ds.all flatD = true then .ok (.bl (!memD d ds)) S else .bad
  | .str y => match d with
    | .str x => .ok (.bl (!subS x y)) S
    | _ => .bad
  | _ => .bad

section
variable {X : Cx} {G : Gb} {E : XK}
theorem shaped_of {d : D} (h : okD 60 d = true) : SeqAt.shaped (toPy d) = true := by
  have q := toPy_ok 60 d h
  unfold SeqAt.shaped
  simp only [Bool.and_eq_true, decide_eq_true_eq]
  exact ⟨q.1, by omega⟩
theorem or_eq (hK : G.K = X.K) (hu : X.A.units + 64 < cLine) : OpR X (compareOp .Eq) (r2 G E fEq) := by
  intro pins s σ H x y v u Q I rx ry h
  obtain ⟨W, S, d, e, st, rd, re, p⟩ := h
  unfold fEq at p
  split at p
  · rename_i hz
    refine op_eqD hu pins s σ H x y v u Q I rx ry ⟨toPy (vw S d), toPy (vw S e), ?_, ?_, shaped_of hz.1, shaped_of hz.2, ?_⟩
    · rw [← hK]; exact rd_dp st hz.1 rd
    · rw [← hK]; exact rd_dp st hz.2 re
    · rw [toPy_eqv _ _ 60 60 hz.1 hz.2]
      exact p.done st mk_bl
  · split at p
    · rename_i hz
      refine op_eqD hu pins s σ H x y v u Q I rx ry ⟨toPy (dv 9 S d), toPy (dv 9 S e), ?_, ?_, shaped_of hz.1, shaped_of hz.2, ?_⟩
      · rw [← hK]; exact dv_dp st 9 60 d _ hz.1 rd
      · rw [← hK]; exact dv_dp st 9 60 e _ hz.2 re
      · rw [toPy_eqv _ _ 60 60 hz.1 hz.2]
        exact p.done st mk_bl
    · exact p.no
theorem or_ne (hK : G.K = X.K) (hu : X.A.units + 64 < cLine) : OpR X (compareOp .NotEq) (r2 G E fNe) := by
  intro pins s σ H x y v u Q I rx ry h
  obtain ⟨W, S, d, e, st, rd, re, p⟩ := h
  unfold fNe at p
  split at p
  · rename_i hz
    refine op_neD hu pins s σ H x y v u Q I rx ry ⟨toPy (vw S d), toPy (vw S e), ?_, ?_, shaped_of hz.1, shaped_of hz.2, ?_⟩
    · rw [← hK]; exact rd_dp st hz.1 rd
    · rw [← hK]; exact rd_dp st hz.2 re
    · rw [toPy_eqv _ _ 60 60 hz.1 hz.2]
      exact p.done st mk_bl
  · split at p
    · rename_i hz
      refine op_neD hu pins s σ H x y v u Q I rx ry ⟨toPy (dv 9 S d), toPy (dv 9 S e), ?_, ?_, shaped_of hz.1, shaped_of hz.2, ?_⟩
      · rw [← hK]; exact dv_dp st 9 60 d _ hz.1 rd
      · rw [← hK]; exact dv_dp st 9 60 e _ hz.2 re
      · rw [toPy_eqv _ _ 60 60 hz.1 hz.2]
        exact p.done st mk_bl
    · exact p.no
theorem or_lt : OpR X (compareOp .Lt) (r2 G E fLt) := by
  intro pins s σ H x y v u Q I rx ry h
  obtain ⟨W, S, d, e, st, rd, re, p⟩ := h
  unfold fLt at p
  split at p
  · obtain rfl := rp_int rd
    obtain rfl := rp_int re
    exact op_lt pins s σ H _ _ v u Q I rx ry ⟨_, _, rfl, rfl, p.done st mk_bl⟩
  · obtain rfl := rp_str rd
    obtain rfl := rp_str re
    exact op_lt_str pins s σ H _ _ v u Q I rx ry ⟨_, _, rfl, rfl, by simpa using p.done st mk_bl⟩
  · exact p.no
theorem or_le : OpR X (compareOp .LtE) (r2 G E fLe) := by
  intro pins s σ H x y v u Q I rx ry h
  obtain ⟨W, S, d, e, st, rd, re, p⟩ := h
  unfold fLe at p
  split at p
  · obtain rfl := rp_int rd
    obtain rfl := rp_int re
    exact op_le pins s σ H _ _ v u Q I rx ry ⟨_, _, rfl, rfl, p.done st mk_bl⟩
  · obtain rfl := rp_str rd
    obtain rfl := rp_str re
    exact op_le_str pins s σ H _ _ v u Q I rx ry ⟨_, _, rfl, rfl, by simpa using p.done st mk_bl⟩
  · exact p.no
theorem or_gt : OpR X (compareOp .Gt) (r2 G E fGt) := by
  intro pins s σ H x y v u Q I rx ry h
  obtain ⟨W, S, d, e, st, rd, re, p⟩ := h
  unfold fGt at p
  split at p
  · obtain rfl := rp_int rd
    obtain rfl := rp_int re
    exact op_gt pins s σ H _ _ v u Q I rx ry ⟨_, _, rfl, rfl, p.done st mk_bl⟩
  · obtain rfl := rp_str rd
    obtain rfl := rp_str re
    exact op_gt_str pins s σ H _ _ v u Q I rx ry ⟨_, _, rfl, rfl, by simpa using p.done st mk_bl⟩
  · exact p.no
theorem or_ge : OpR X (compareOp .GtE) (r2 G E fGe) := by
  intro pins s σ H x y v u Q I rx ry h
  obtain ⟨W, S, d, e, st, rd, re, p⟩ := h
  unfold fGe at p
  split at p
  · obtain rfl := rp_int rd
    obtain rfl := rp_int re
    exact op_ge pins s σ H _ _ v u Q I rx ry ⟨_, _, rfl, rfl, p.done st mk_bl⟩
  · obtain rfl := rp_str rd
    obtain rfl := rp_str re
    exact op_ge_str pins s σ H _ _ v u Q I rx ry ⟨_, _, rfl, rfl, by simpa using p.done st mk_bl⟩
  · exact p.no
theorem is_bool_gen {M : Model} {A : Around} {E : Value → Shared → Prop} {s : Shared} {Q : Value → Shared → Prop} {v : Value} {b : Bool} (hv : ∀ i, v ≠ .builtin i) (h : Q (.bool (v == .bool b)) s) : wpAny M A (compareOp .Is v (.bool b)) Q E s := by
  cases v <;> first | exact wpAny_pure h | exact absurd rfl (hv _)
theorem isnot_bool_gen {M : Model} {A : Around} {E : Value → Shared → Prop} {s : Shared} {Q : Value → Shared → Prop} {v : Value} {b : Bool} (hv : ∀ i, v ≠ .builtin i) (h : Q (.bool (!(v == .bool b))) s) : wpAny M A (compareOp .IsNot v (.bool b)) Q E s := by
  cases v <;> first | exact wpAny_pure h | exact absurd rfl (hv _)
theorem relV_nb {x : V} {v : Value} (r : RelV x v) : ∀ i, v ≠ .builtin i := fun i z => by
  subst z
  cases x <;> first | (cases r; done) | (obtain ⟨t, q⟩ := r; cases q)
theorem rp_isNon {W : Wd} {H : Hp} {d : D} {x : V} {v : Value} (r : Rp G W H d x) (rv : RelV x v) : (v == Value.none) = isNon d := by
  cases d with
  | non => cases rp_non r; cases rv; rfl
  | bl _ => cases rp_bl r; cases rv; rfl
  | int _ => cases rp_int r; obtain ⟨t, rfl⟩ := rv; rfl
  | str _ => cases rp_str r; obtain ⟨t, rfl⟩ := rv; rfl
  | tup _ => obtain ⟨a, vs, rfl, _⟩ := rp_tup r; cases rv; rfl
  | lst _ => obtain ⟨a, vs, rfl, _⟩ := rp_lst r; cases rv; rfl
  | ref _ => obtain ⟨a, rfl, _⟩ := rp_ref r; cases rv; rfl
  | fn _ => obtain ⟨a, rfl, _⟩ := rp_fn r; cases rv; rfl
  | scr _ => obtain ⟨a, rfl, _⟩ := rp_scr r; cases rv; rfl
  | exn a dd x fs => obtain ⟨rfl, _⟩ := rp_exn r; cases rv; rfl
theorem rp_isBl {W : Wd} {H : Hp} {d : D} {x : V} {v : Value} {b : Bool} (r : Rp G W H d x) (rv : RelV x v) : (v == Value.bool b) = isBl b d := by
  cases d with
  | non => cases rp_non r; cases rv; rfl
  | bl c => cases rp_bl r; cases rv; cases c <;> cases b <;> rfl
  | int _ => cases rp_int r; obtain ⟨t, rfl⟩ := rv; rfl
  | str _ => cases rp_str r; obtain ⟨t, rfl⟩ := rv; rfl
  | tup _ => obtain ⟨a, vs, rfl, _⟩ := rp_tup r; cases rv; rfl
  | lst _ => obtain ⟨a, vs, rfl, _⟩ := rp_lst r; cases rv; rfl
  | ref _ => obtain ⟨a, rfl, _⟩ := rp_ref r; cases rv; rfl
  | fn _ => obtain ⟨a, rfl, _⟩ := rp_fn r; cases rv; rfl
  | scr _ => obtain ⟨a, rfl, _⟩ := rp_scr r; cases rv; rfl
  | exn a dd x fs => obtain ⟨rfl, _⟩ := rp_exn r; cases rv; rfl
theorem or_is : OpR X (compareOp .Is) (r2 G E fIs) := by
  intro pins s σ H x y v u Q I rx ry h
  obtain ⟨W, S, d, e, st, rd, re, p⟩ := h
  unfold fIs at p
  split at p
  · cases rp_non re
    cases ry
    exact is_none_gen (fin_bl I (p.done st mk_bl) (rp_isNon rd rx).symm)
  · cases rp_bl re
    cases ry
    exact is_bool_gen (relV_nb rx) (fin_bl I (p.done st mk_bl) (rp_isBl rd rx).symm)
  · exact p.no
theorem or_isN : OpR X (compareOp .IsNot) (r2 G E fIsN) := by
  intro pins s σ H x y v u Q I rx ry h
  obtain ⟨W, S, d, e, st, rd, re, p⟩ := h
  unfold fIsN at p
  split at p
  · cases rp_non re
    cases ry
    exact isnot_none_gen (fin_bl I (p.done st mk_bl) (by rw [rp_isNon rd rx]))
  · cases rp_bl re
    cases ry
    exact isnot_bool_gen (relV_nb rx) (fin_bl I (p.done st mk_bl) (by rw [rp_isBl rd rx]))
  · exact p.no
theorem flat_rp {W : Wd} {H : Hp} {d : D} {x : V} (f : flatD d = true) (r : Rp G W H d x) : flatV x = true := by
  cases d with
  | non => cases rp_non r; rfl
  | bl _ => cases rp_bl r; rfl
  | int _ => cases rp_int r; rfl
  | str _ => cases rp_str r; rfl
  | _ => cases f
theorem flat_eq {W : Wd} {H : Hp} {d e : D} {x y : V} (f : flatD d = true) (g : flatD e = true) (r : Rp G W H d x) (q : Rp G W H e y) : eqV x y = eqD d e := by
  have st : ∀ a b : List Nat, ((⟨a.toArray⟩ : Str) == ⟨b.toArray⟩) = (a == b) := fun a b => by
    by_cases q : a = b
    · subst q; simp
    · have q2 : ¬ (⟨a.toArray⟩ : Str) = ⟨b.toArray⟩ := fun z => q (by injection z with z; simpa using z)
      rw [beq_eq_false_iff_ne.mpr q, beq_eq_false_iff_ne.mpr q2]
  cases d <;> first | cases f | skip
  all_goals cases e <;> first | cases g | skip
  all_goals first
    | (cases rp_non r) | (cases rp_bl r) | (cases rp_int r) | (cases rp_str r)
  all_goals first
    | (cases rp_non q; simp [eqV, eqD]; done) | (cases rp_bl q; simp [eqV, eqD]; done) | (cases rp_int q; simp [eqV, eqD]; done) | (cases rp_str q; simp [eqV, eqD, st]; done)
theorem flat_all {W : Wd} {H : Hp} : ∀ {ds : List D} {vs : List V}, ds.all flatD = true → Rps G W H ds vs → vs.all flatV = true
  | [], _, _, r => by rw [Rps.nil_iff.mp r]; rfl
  | d :: ds, _, f, r => by
    obtain ⟨v, t, rfl, r1, r2⟩ := Rps.cons_iff.mp r
    simp only [List.all_cons, Bool.and_eq_true] at f ⊢
    exact ⟨flat_rp f.1 r1, flat_all f.2 r2⟩
theorem flat_mem {W : Wd} {H : Hp} {d : D} {x : V} (g : flatD d = true) (q : Rp G W H d x) : ∀ {ds : List D} {vs : List V}, ds.all flatD = true → Rps G W H ds vs → inV x vs = memD d ds
  | [], _, _, r => by rw [Rps.nil_iff.mp r]; rfl
  | e :: ds, _, f, r => by
    obtain ⟨v, t, rfl, r1, r2⟩ := Rps.cons_iff.mp r
    simp only [List.all_cons, Bool.and_eq_true] at f
    show (eqV v x || inV x t) = (eqD e d || memD d ds)
    rw [flat_eq f.1 g r1 q, flat_mem g q f.2 r2]
theorem or_in (hK : G.K = X.K) : OpR X (compareOp .In) (r2 G E fIn) := by
  intro pins s σ H x y v u Q I rx ry h
  obtain ⟨W, S, d, e, st, rd, re, p⟩ := h
  unfold fIn at p
  split at p
  · rename_i ds he
    have he := vw_of he (by simp)
    subst he
    obtain ⟨a, vs, rfl, pa, ra⟩ := rp_tup re
    rw [hK] at pa
    split at p
    · rename_i hz
      refine op_in_seq pins s σ H _ _ v u Q I rx ry ⟨a, vs, rfl, .inr pa.sq, flat_rp hz.1 rd, flat_all hz.2 ra, ?_⟩
      rw [flat_mem hz.1 rd hz.2 ra]
      exact p.done st mk_bl
    · exact p.no
  · rename_i ds he
    obtain ⟨a, vs, rfl, pa, ra⟩ := rd_lst st he re
    split at p
    · rename_i hz
      refine op_in_seq pins s σ H _ _ v u Q I rx ry ⟨a, vs, rfl, .inl (SqL.of pa), flat_rp hz.1 rd, flat_all hz.2 ra, ?_⟩
      rw [flat_mem hz.1 rd hz.2 ra]
      exact p.done st mk_bl
    · exact p.no
  · rename_i y he
    have he := vw_of he (by simp)
    subst he
    split at p
    · cases rp_str rd
      cases rp_str re
      exact op_in_str pins s σ H _ _ v u Q I rx ry ⟨_, _, rfl, rfl, by rw [str_len]; exact p.done st mk_bl⟩
    · exact p.no
  · exact p.no
theorem or_notIn (hK : G.K = X.K) : OpR X (compareOp .NotIn) (r2 G E fNotIn) := by
  intro pins s σ H x y v u Q I rx ry h
  obtain ⟨W, S, d, e, st, rd, re, p⟩ := h
  unfold fNotIn at p
  split at p
  · rename_i ds he
    have he := vw_of he (by simp)
    subst he
    obtain ⟨a, vs, rfl, pa, ra⟩ := rp_tup re
    rw [hK] at pa
    split at p
    · rename_i hz
      refine op_notIn_seq pins s σ H _ _ v u Q I rx ry ⟨a, vs, rfl, .inr pa.sq, flat_rp hz.1 rd, flat_all hz.2 ra, ?_⟩
      rw [flat_mem hz.1 rd hz.2 ra]
      exact p.done st mk_bl
    · exact p.no
  · rename_i ds he
    obtain ⟨a, vs, rfl, pa, ra⟩ := rd_lst st he re
    split at p
    · rename_i hz
      refine op_notIn_seq pins s σ H _ _ v u Q I rx ry ⟨a, vs, rfl, .inl (SqL.of pa), flat_rp hz.1 rd, flat_all hz.2 ra, ?_⟩
      rw [flat_mem hz.1 rd hz.2 ra]
      exact p.done st mk_bl
    · exact p.no
  · rename_i y he
    have he := vw_of he (by simp)
    subst he
    split at p
    · cases rp_str rd
      cases rp_str re
      exact L2.op_notIn_str pins s σ H _ _ v u Q I rx ry ⟨_, _, rfl, rfl, by rw [str_len]; exact p.done st mk_bl⟩
    · exact p.no
  · exact p.no

/-! ### truth -/
def truD (d : D) (S : Sto) : Re Bool := match vw S d with
  | .non => .ok false S
  | .bl b => .ok b S
  | .int i => .ok (i != 0) S
  | .str x => if x.length ≤ 1000000 then .ok (!x.isEmpty) S else .bad
  | .tup ds => .ok (!ds.isEmpty) S
  | .lst ds => .ok (!ds.isEmpty) S
  | _ => .bad
def rT (G : Gb) (E : XK) : V → Hp → (Bool → Hp → Prop) → Prop := fun x H Q => ∃ W S d, StoR G W H S ∧ Rp G W H d x ∧ Post G E repB W H (truD d S) Q
theorem empty_rps {W : Wd} {H : Hp} {ds : List D} {vs : List V} (r : Rps G W H ds vs) : vs.isEmpty = ds.isEmpty := by
  have := r.length
  cases ds with
  | nil => rw [Rps.nil_iff.mp r]; rfl
  | cons _ _ => cases vs with
    | nil => simp at this
    | cons _ _ => rfl
theorem tr_ok (hK : G.K = X.K) : TruR X (rT G E) := by
  intro pins s σ H x v Q I rx h
  obtain ⟨W, S, d, st, rd, p⟩ := h
  unfold truD at p
  split at p
  · rename_i he
    have he := vw_of he (by simp)
    subst he
    cases rp_non rd
    exact tru_ok pins s σ H _ v Q I rx ⟨_, rfl, p.done st rfl⟩
  · rename_i he
    have he := vw_of he (by simp)
    subst he
    cases rp_bl rd
    exact tru_ok pins s σ H _ v Q I rx ⟨_, rfl, p.done st rfl⟩
  · rename_i he
    have he := vw_of he (by simp)
    subst he
    cases rp_int rd
    exact tru_ok pins s σ H _ v Q I rx ⟨_, rfl, p.done st rfl⟩
  · rename_i y he
    have he := vw_of he (by simp)
    subst he
    cases rp_str rd
    split at p
    · rename_i hz
      refine tru_ok pins s σ H _ v Q I rx ⟨!y.isEmpty, ⟨by rw [str_len]; exact sz hz, ?_⟩, p.done st rfl⟩
      rw [str_len]
      cases y <;> simp
      omega
    · exact p.no
  · rename_i ds he
    have he := vw_of he (by simp)
    subst he
    obtain ⟨a, vs, rfl, pa, ra⟩ := rp_tup rd
    rw [hK] at pa
    refine tru_ok pins s σ H _ v Q I rx ⟨!ds.isEmpty, .inr (.inl ⟨vs, pa.sq, by rw [empty_rps ra]⟩), p.done st rfl⟩
  · rename_i ds he
    obtain ⟨a, vs, rfl, pa, ra⟩ := rd_lst st he rd
    refine tru_ok pins s σ H _ v Q I rx ⟨!ds.isEmpty, .inl ⟨vs, SqL.of pa, by rw [empty_rps ra]⟩, p.done st rfl⟩
  · exact p.no
end
end DL
set_option Elab.async false
set_option linter.all false
set_option maxRecDepth 100000
set_option maxHeartbeats 4000000
/-! DL4: subscripts, slices, lists' methods, built-in calls. -/
namespace DL
open PySem PySem.Spec PyProof.Rows L2

theorem rps_atI {G : Gb} {W : Wd} {H : Hp} {ds : List D} {vs : List V} {i : Int} {d : D} (r : Rps G W H ds vs) (h : atI ds i = some d) : ∃ v, atI vs i = some v ∧ Rp G W H d v := by
  unfold atI at h ⊢
  rw [r.length]
  cases e : ixN ds.length i with
  | none => rw [e] at h; cases h
  | some j =>
    rw [e] at h
    exact r.get h
def fIx (d e : D) (S : Sto) : Re D := match vw S d, e with
  | .tup ds, .int i => match atI ds i with
    | some x => .ok x S
    | none => .bad
  | .lst ds, .int i => match atI ds i with
    | some x => .ok x S
    | none => .bad
  | .str s, .int i => if s.length ≤ 1000000 then (match atI s i with
    | some c => .ok (.str [c]) S
    | none => .bad) else .bad
  | .scr ns, .int i => match atI ns i with
    | some n => .ok (.int n) S
    | none => .bad
  | _, _ => .bad
theorem atI_map {α β : Type} (f : α → β) (xs : List α) (i : Int) : atI (xs.map f) i = (atI xs i).map f := by
  unfold atI
  rw [List.length_map]
  cases ixN xs.length i with
  | none => rfl
  | some j => simp
section
variable {X : Cx} {G : Gb} {E : XK}
theorem ixr (hK : G.K = X.K) : IxR X (r2 G E fIx) := by
  intro value slice pins s σ H x y v u Q I rx ry h hs
  obtain ⟨W, S, d, e, st, rd, re, p⟩ := h
  unfold fIx at p
  split at p
  · rename_i ds i hd
    have hd := vw_of hd (by simp)
    subst hd
    cases rp_int re
    obtain ⟨a, vs, rfl, pa, ra⟩ := rp_tup rd
    rw [hK] at pa
    split at p
    · rename_i z hz
      obtain ⟨w, h1, h2⟩ := rps_atI ra hz
      exact ix_tup value slice pins s σ H _ _ v u Q I rx ry ⟨a, vs, i, w, rfl, rfl, pa.sq, h1, p.done st h2⟩ hs
    · exact p.no
  · rename_i ds i hd
    cases rp_int re
    obtain ⟨a, vs, rfl, pa, ra⟩ := rd_lst st hd rd
    split at p
    · rename_i z hz
      obtain ⟨w, h1, h2⟩ := rps_atI ra hz
      exact ix_list value slice pins s σ H _ _ v u Q I rx ry ⟨a, vs, i, w, rfl, rfl, SqL.of pa, h1, p.done st h2⟩ hs
    · exact p.no
  · rename_i z i hd
    have hd := vw_of hd (by simp)
    subst hd
    cases rp_int re
    cases rp_str rd
    split at p
    · rename_i hl
      split at p
      · rename_i c hc
        exact ix_str value slice pins s σ H _ _ v u Q I rx ry ⟨_, i, c, rfl, rfl, by rw [str_len]; exact sz hl, by simpa using hc, p.done st mk_str⟩ hs
      · exact p.no
    · exact p.no
  · rename_i ns i hd
    have hd := vw_of hd (by simp)
    subst hd
    cases rp_int re
    obtain ⟨a, rfl, pa⟩ := rp_scr rd
    rw [hK] at pa
    split at p
    · rename_i n hn
      exact ix_list value slice pins s σ H _ _ v u Q I rx ry ⟨a, _, i, .int n, rfl, rfl, pa.sq, by rw [atI_map, hn]; rfl, p.done st mk_int⟩ hs
    · exact p.no
  · exact p.no

/-! ### slices -/
def cut {α : Type} (xs : List α) (lo hi : Option Int) : List α := (xs.drop (HT.sIx xs.length 0 lo)).take (HT.sIx xs.length xs.length hi - HT.sIx xs.length 0 lo)
def fSl (d : D) (lo hi : Option Int) (S : Sto) : Re D := match vw S d with
  | .tup ds => .ok (.tup (cut ds lo hi)) S
  | .lst ds => .ok (.lst (cut ds lo hi)) S
  | .str s => if s.length ≤ 1000000 then .ok (.str (cut s lo hi)) S else .bad
  | _ => .bad
def rSl (G : Gb) (E : XK) : V → Option Int → Option Int → Hp → VK → Prop := fun x lo hi H Q => ∃ W S d, StoR G W H S ∧ Rp G W H d x ∧ Post G E (Rp G) W H (fSl d lo hi S) Q
theorem rps_cut {W : Wd} {H : Hp} {ds : List D} {vs : List V} (r : Rps G W H ds vs) (lo hi : Option Int) : Rps G W H (cut ds lo hi) (cutV vs lo hi) := by
  unfold cut cutV
  rw [r.length]
  exact Rps.take _ (Rps.drop _ r)
theorem sl_ok (hK : G.K = X.K) : L2.SlR X (rSl G E) := by
  intro pins s σ H x v vl vu lo hi sl Q I rx hs pl pu h
  obtain ⟨W, S, d, st, rd, p⟩ := h
  unfold fSl at p
  split at p
  · rename_i ds hd
    have hd := vw_of hd (by simp)
    subst hd
    obtain ⟨a, vs, rfl, pa, ra⟩ := rp_tup rd
    have pa2 := pa
    rw [hK] at pa2
    refine sl_tupA pins s σ H _ v vl vu lo hi sl Q I rx hs pl pu ⟨a, vs, rfl, pa2.sq, fun z => ?_, fun _ q hq => out_tup st p (rps_cut ra lo hi) q hq⟩
    refine p.done st ?_
    have e : cut ds lo hi = ds := by
      unfold cut
      rw [← ra.length, z.1, z.2]
      rw [List.drop_zero, ra.length, Nat.sub_zero, List.take_length]
    rw [e]
    exact rd
  · rename_i ds hd
    obtain ⟨a, vs, rfl, pa, ra⟩ := rd_lst st hd rd
    exact sl_list pins s σ H _ v vl vu lo hi sl Q I rx hs pl pu ⟨a, vs, rfl, SqL.of pa, fun q hq => out_lst st p (rps_cut ra lo hi) q hq⟩
  · rename_i z hd
    have hd := vw_of hd (by simp)
    subst hd
    cases rp_str rd
    split at p
    · rename_i hl
      refine sl_str pins s σ H _ v vl vu lo hi sl Q I rx hs pl pu ⟨_, rfl, by rw [str_len]; exact sz hl, ?_⟩
      have e : cutS (⟨z.toArray⟩ : Str) lo hi = ⟨(cut z lo hi).toArray⟩ := by
        unfold cutS cut
        rw [str_len]
      rw [e]
      exact p.done st mk_str
    · exact p.no
  · exact p.no

/-! ### lists that change -/
theorem out_set {W : Wd} {H : Hp} {S : Sto} {i : Nat} {a : Addr} {ds : List D} {vs : List V} {d : D} {v : V} {Q : VK} (st : StoR G W H S) (ha : W.t[i]? = some a) (p : Post G E (Rp G) W H (.ok d (S.set i (.lst ds))) Q)
    (r : Rps G W H ds vs) (rd : Rp G W H d v) : Q v (upd H a (.lst vs)) := by
  have x : Ext W H W (upd H a (.lst vs)) := Ext.set (List.mem_of_getElem? ha)
  exact p W _ v x (st.set ha ⟨vs, upd_same, Rps.ext x _ _ r⟩) (Rp.ext x _ _ rd)
theorem rd_ref {W : Wd} {H : Hp} {S : Sto} {i : Nat} {v : V} {ds : List D} (st : StoR G W H S) (h : S[i]? = some (.lst ds)) (r : Rp G W H (.ref i) v) : ∃ a vs, v = .ref a ∧ W.t[i]? = some a ∧ H a = some (.lst vs) ∧ Rps G W H ds vs := by
  obtain ⟨a, rfl, ha⟩ := rp_ref r
  obtain ⟨vs, h1, h2⟩ := st.ob i a _ ha h
  exact ⟨a, vs, rfl, ha, h1, h2⟩
def atS (S : Sto) : D → Option (Nat × List D)
  | .ref i => match S[i]? with
    | some (.lst ds) => some (i, ds)
    | _ => none
  | _ => none
theorem atS_ref {S : Sto} {i : Nat} {ds : List D} (h : S[i]? = some (.lst ds)) : atS S (.ref i) = some (i, ds) := by
  unfold atS
  simp only [h]
theorem atS_of {S : Sto} {d : D} {i : Nat} {ds : List D} (h : atS S d = some (i, ds)) : d = .ref i ∧ S[i]? = some (.lst ds) := by
  cases d with
  | ref j =>
    unfold atS at h
    simp only at h
    split at h
    · rename_i xs hx
      cases h
      exact ⟨rfl, hx⟩
    · cases h
  | _ => cases h
def fAppend (d : D) (es : List D) (S : Sto) : Re D := match atS S d, es with
  | some (i, ds), [x] => if ds.length < 1000000 then .ok .non (S.set i (.lst (ds ++ [x]))) else .bad
  | _, _ => .bad
def fPop (d : D) (es : List D) (S : Sto) : Re D := match atS S d, es with
  | some (i, ds), [] => match ds[ds.length - 1]? with
    | some x => .ok x (S.set i (.lst ds.dropLast))
    | none => .bad
  | _, _ => .bad
def fExtend (d : D) (es : List D) (S : Sto) : Re D := match atS S d, es with
  | some (i, ds), [e] => match vw S e with
    | .lst zs => if ds.length + zs.length ≤ 1000000 then .ok .non (S.set i (.lst (ds ++ zs))) else .bad
    | _ => .bad
  | _, _ => .bad
def fSet (d e x : D) (S : Sto) : Re D := match atS S d, e with
  | some (i, ds), .int k => match ixN ds.length k with
    | some j => .ok .non (S.set i (.lst (ds.set j x)))
    | none => .bad
  | _, _ => .bad
theorem Rps.dropLast {W : Wd} {H : Hp} {ds : List D} {vs : List V} (r : Rps G W H ds vs) : Rps G W H ds.dropLast vs.dropLast := by
  rw [List.dropLast_eq_take, List.dropLast_eq_take, r.length]
  exact Rps.take _ r
theorem Rps.one_inv {W : Wd} {H : Hp} {d : D} {vs : List V} (r : Rps G W H [d] vs) : ∃ v, vs = [v] ∧ Rp G W H d v := by
  obtain ⟨v, t, rfl, h, t2⟩ := Rps.cons_iff.mp r
  rw [Rps.nil_iff.mp t2]
  exact ⟨v, rfl, h⟩
theorem Rps.two_inv {W : Wd} {H : Hp} {d e : D} {vs : List V} (r : Rps G W H [d, e] vs) : ∃ v u, vs = [v, u] ∧ Rp G W H d v ∧ Rp G W H e u := by
  obtain ⟨v, t, rfl, h, t2⟩ := Rps.cons_iff.mp r
  obtain ⟨u, rfl, h2⟩ := t2.one_inv
  exact ⟨v, u, rfl, h, h2⟩
theorem m_append : MtM X "list.append" (rM G E fAppend) := by
  intro pins s σ H x xs v us Q I rx rs h
  obtain ⟨W, S, d, es, st, rd, re, p⟩ := h
  unfold fAppend at p
  split at p
  · rename_i i ds y ha
    obtain ⟨rfl, hs⟩ := atS_of ha
    obtain ⟨a, vs, rfl, hat, hH, r⟩ := rd_ref st hs rd
    obtain ⟨w, rfl, rw_⟩ := re.one_inv
    split at p
    · rename_i hz
      exact mt_append pins s σ H _ _ v us Q I rx rs ⟨a, vs, w, rfl, rfl, hH, by rw [r.length]; exact szlt hz, out_set st hat p (r.append (Rps.one rw_)) mk_non⟩
    · exact p.no
  · exact p.no
theorem m_pop : MtM X "list.pop" (rM G E fPop) := by
  intro pins s σ H x xs v us Q I rx rs h
  obtain ⟨W, S, d, es, st, rd, re, p⟩ := h
  unfold fPop at p
  split at p
  · rename_i i ds ha
    obtain ⟨rfl, hs⟩ := atS_of ha
    obtain ⟨a, vs, rfl, hat, hH, r⟩ := rd_ref st hs rd
    cases Rps.nil_iff.mp re
    split at p
    · rename_i y hy
      obtain ⟨w, h1, h2⟩ := r.get hy
      exact mt_pop pins s σ H _ _ v us Q I rx rs ⟨a, vs, w, rfl, rfl, hH, by rw [r.length]; exact h1, out_set st hat p r.dropLast h2⟩
    · exact p.no
  · exact p.no
theorem m_extend : MtM X "list.extend" (rM G E fExtend) := by
  intro pins s σ H x xs v us Q I rx rs h
  obtain ⟨W, S, d, es, st, rd, re, p⟩ := h
  unfold fExtend at p
  split at p
  · rename_i i ds e ha
    obtain ⟨rfl, hs⟩ := atS_of ha
    obtain ⟨a, vs, rfl, hat, hH, r⟩ := rd_ref st hs rd
    obtain ⟨w, rfl, rw_⟩ := re.one_inv
    split at p
    · rename_i zs hz
      obtain ⟨b, ws, rfl, hb, rb⟩ := rd_lst st hz rw_
      split at p
      · rename_i hl
        exact mt_extend pins s σ H _ _ v us Q I rx rs ⟨a, b, vs, ws, rfl, rfl, hH, hb, by rw [r.length, rb.length]; exact sz hl, out_set st hat p (r.append rb) mk_non⟩
      · exact p.no
    · exact p.no
  · exact p.no
/-- o[i] = x -/
def rSet (G : Gb) (E : XK) : TSet := fun o i v H Q => ∃ W S d e x, StoR G W H S ∧ Rp G W H d o ∧ Rp G W H e i ∧ Rp G W H x v ∧ Post G E (Rp G) W H (fSet d e x S) fun _ H' => Q H'
theorem set_ok : PSet X (rSet G E) := by
  intro pins s σ H o i v ov iv u Q I ro ri rv h
  obtain ⟨W, S, d, e, x, st, rd, re, rx, p⟩ := h
  unfold fSet at p
  split at p
  · rename_i n ds k ha
    obtain ⟨rfl, hs⟩ := atS_of ha
    obtain ⟨a, vs, rfl, hat, hH, r⟩ := rd_ref st hs rd
    cases rp_int re
    split at p
    · rename_i j hj
      exact set_list pins s σ H _ _ v ov iv u Q I ro ri rv ⟨a, vs, k, j, rfl, rfl, hH, by rw [r.length]; exact hj, out_set st hat p (r.set rx j) mk_non⟩
    · exact p.no
  · exact p.no

/-! ### built-in calls -/
def fLen (ds : List D) (S : Sto) : Re D := match ds with
  | [d] => match vw S d with
    | .tup ds => .ok (.int ds.length) S
    | .lst ds => .ok (.int ds.length) S
    | .scr ns => .ok (.int ns.length) S
    | .str s => if s.length ≤ 1000000 then .ok (.int s.length) S else .bad
    | _ => .bad
  | _ => .bad
theorem c_len (hK : G.K = X.K) : CallR X (.builtin "len") (rC G E fLen) := by
  intro pins s σ H xs us Q I r h
  obtain ⟨W, S, ds, st, rd, p⟩ := h
  unfold fLen at p
  split at p
  · rename_i d
    obtain ⟨v, rfl, rv⟩ := rd.one_inv
    split at p
    · rename_i es he
      have he := vw_of he (by simp)
      subst he
      obtain ⟨a, vs, rfl, pa, ra⟩ := rp_tup rv
      rw [hK] at pa
      exact call_len_seq pins s σ H _ us Q I r ⟨a, vs, rfl, .inr pa.sq, by rw [ra.length]; exact p.done st mk_int⟩
    · rename_i es he
      obtain ⟨a, vs, rfl, pa, ra⟩ := rd_lst st he rv
      exact call_len_seq pins s σ H _ us Q I r ⟨a, vs, rfl, .inl (SqL.of pa), by rw [ra.length]; exact p.done st mk_int⟩
    · rename_i es he
      have he := vw_of he (by simp)
      subst he
      obtain ⟨a, rfl, pa⟩ := rp_scr rv
      rw [hK] at pa
      exact call_len_seq pins s σ H _ us Q I r ⟨a, _, rfl, .inl pa.sq, by rw [List.length_map]; exact p.done st mk_int⟩
    · rename_i z he
      have he := vw_of he (by simp)
      subst he
      cases rp_str rv
      split at p
      · rename_i hl
        exact call_len_str pins s σ H _ us Q I r ⟨_, rfl, by rw [str_len]; exact sz hl, by rw [str_len]; exact p.done st mk_int⟩
      · exact p.no
    · exact p.no
  · exact p.no
def fInt (ds : List D) (S : Sto) : Re D := match ds with
  | [.int i] => .ok (.int i) S
  | [.bl b] => .ok (.int (if b then 1 else 0)) S
  | [.str s] => match PySem.intText? (⟨s.toArray⟩ : Str) with
    | some n => if s.length ≤ 640 then .ok (.int n) S else .bad
    | none => .bad
  | _ => .bad
theorem c_int : CallR X (.type "int") (rC G E fInt) := by
  intro pins s σ H xs us Q I r h
  obtain ⟨W, S, ds, st, rd, p⟩ := h
  unfold fInt at p
  split at p
  · obtain ⟨v, rfl, rv⟩ := rd.one_inv
    cases rp_int rv
    exact call_int1 pins s σ H _ us Q I r (.inl ⟨_, rfl, p.done st mk_int⟩)
  · obtain ⟨v, rfl, rv⟩ := rd.one_inv
    cases rp_bl rv
    exact call_int1 pins s σ H _ us Q I r (.inr ⟨_, rfl, p.done st mk_int⟩)
  · obtain ⟨v, rfl, rv⟩ := rd.one_inv
    cases rp_str rv
    split at p
    · rename_i n hn
      split at p
      · rename_i hl
        exact call_int_str pins s σ H _ us Q I r ⟨_, n, rfl, hn, by rw [str_len]; exact hl, p.done st mk_int⟩
      · exact p.no
    · exact p.no
  · exact p.no
def fMax (ds : List D) (S : Sto) : Re D := match ds with
  | [.int i, .int j] => .ok (.int (if j > i then j else i)) S
  | _ => .bad
def fMin (ds : List D) (S : Sto) : Re D := match ds with
  | [.int i, .int j] => .ok (.int (if j < i then j else i)) S
  | _ => .bad
theorem c_max (hc : X.calm = true) : CallR X (.builtin "max") (rC G E fMax) := by
  intro pins s σ H xs us Q I r h
  obtain ⟨W, S, ds, st, rd, p⟩ := h
  unfold fMax at p
  split at p
  · obtain ⟨v, u, rfl, rv, ru⟩ := rd.two_inv
    cases rp_int rv
    cases rp_int ru
    exact call_max2 hc pins s σ H _ us Q I r ⟨_, _, rfl, p.done st mk_int⟩
  · exact p.no
theorem c_min (hc : X.calm = true) : CallR X (.builtin "min") (rC G E fMin) := by
  intro pins s σ H xs us Q I r h
  obtain ⟨W, S, ds, st, rd, p⟩ := h
  unfold fMin at p
  split at p
  · obtain ⟨v, u, rfl, rv, ru⟩ := rd.two_inv
    cases rp_int rv
    cases rp_int ru
    exact call_min2 hc pins s σ H _ us Q I r ⟨_, _, rfl, p.done st mk_int⟩
  · exact p.no
/-- the ints of a list -/
def intsD : List D → Option (List Int)
  | [] => some []
  | .int i :: ds => (intsD ds).map (i :: ·)
  | _ => none
theorem intsD_rps {W : Wd} {H : Hp} : ∀ {ds : List D} {ns : List Int} {vs : List V}, intsD ds = some ns → Rps G W H ds vs → vs = ns.map V.int
  | [], ns, vs, h, r => by
    cases h
    rw [Rps.nil_iff.mp r]
    rfl
  | .int i :: ds, ns, vs, h, r => by
    obtain ⟨v, t, rfl, r1, r2⟩ := Rps.cons_iff.mp r
    unfold intsD at h
    cases e : intsD ds with
    | none => rw [e] at h; cases h
    | some ms =>
      rw [e] at h
      cases h
      rw [rp_int r1, intsD_rps e r2]
      rfl
  | .non :: _, _, _, h, _ => by cases h
  | .bl _ :: _, _, _, h, _ => by cases h
  | .str _ :: _, _, _, h, _ => by cases h
  | .tup _ :: _, _, _, h, _ => by cases h
  | .lst _ :: _, _, _, h, _ => by cases h
  | .ref _ :: _, _, _, h, _ => by cases h
  | .fn _ :: _, _, _, h, _ => by cases h
  | .scr _ :: _, _, _, h, _ => by cases h
  | .exn _ _ _ _ :: _, _, _, h, _ => by cases h
theorem intsD_map (ns : List Int) : intsD (ns.map D.int) = some ns := by
  induction ns with
  | nil => rfl
  | cons n ns ih => simp [intsD, ih]
theorem rps_ints {W : Wd} {H : Hp} (ns : List Int) : Rps G W H (ns.map D.int) (ns.map V.int) := by
  induction ns with
  | nil => exact Rps.nil
  | cons n ns ih => exact Rps.cons mk_int ih
def fSum (ds : List D) (S : Sto) : Re D := match ds with
  | [d] => match vw S d with
    | .lst es => match intsD es with
      | some ns => .ok (.int ns.sum) S
      | none => .bad
    | _ => .bad
  | _ => .bad
theorem c_sum (hK : G.K = X.K) (hc : X.calm = true) : CallR X (.builtin "sum") (rC G E fSum) := by
  intro pins s σ H xs us Q I r h
  obtain ⟨W, S, ds, st, rd, p⟩ := h
  unfold fSum at p
  split at p
  · obtain ⟨v, rfl, rv⟩ := rd.one_inv
    split at p
    · rename_i es he
      obtain ⟨a, vs, rfl, pa, ra⟩ := rd_lst st he rv
      split at p
      · rename_i ns hn
        cases intsD_rps hn ra
        exact cr_sum hc pins s σ H _ us Q I r ⟨a, ns, rfl, SqL.of pa, p.done st mk_int⟩
      · exact p.no
    · exact p.no
  · exact p.no
/-! sorting of ints -/
def ins (x : Int) : List Int → List Int
  | [] => [x]
  | y :: ys => if x ≤ y then x :: y :: ys else y :: ins x ys
def isrt : List Int → List Int
  | [] => []
  | x :: xs => ins x (isrt xs)
theorem ins_perm (x : Int) : ∀ l : List Int, (ins x l).Perm (x :: l)
  | [] => List.Perm.refl _
  | y :: ys => by
    unfold ins
    split
    · exact List.Perm.refl _
    · exact ((ins_perm x ys).cons y).trans (List.Perm.swap x y ys)
theorem isrt_perm : ∀ l : List Int, (isrt l).Perm l
  | [] => List.Perm.refl _
  | x :: xs => (ins_perm x (isrt xs)).trans ((isrt_perm xs).cons x)
theorem ins_mem {x y : Int} {l : List Int} : y ∈ ins x l ↔ y = x ∨ y ∈ l := by
  rw [(ins_perm x l).mem_iff, List.mem_cons]
theorem ins_sorted (x : Int) : ∀ l : List Int, l.Pairwise (· ≤ ·) → (ins x l).Pairwise (· ≤ ·)
  | [], _ => by simp [ins]
  | y :: ys, h => by
    have h1 := List.pairwise_cons.mp h
    unfold ins
    split
    · rename_i hxy
      refine List.pairwise_cons.mpr ⟨fun z hz => ?_, h⟩
      rcases List.mem_cons.mp hz with e | hz
      · rw [e]; exact hxy
      · exact Int.le_trans hxy (h1.1 z hz)
    · rename_i hxy
      refine List.pairwise_cons.mpr ⟨fun z hz => ?_, ins_sorted x ys h1.2⟩
      rcases ins_mem.mp hz with e | hz
      · rw [e]; omega
      · exact h1.1 z hz
theorem isrt_sorted : ∀ l : List Int, (isrt l).Pairwise (· ≤ ·)
  | [] => List.Pairwise.nil
  | x :: xs => ins_sorted x _ (isrt_sorted xs)
theorem sorted_uniq : ∀ {l m : List Int}, l.Perm m → l.Pairwise (· ≤ ·) → m.Pairwise (· ≤ ·) → l = m
  | [], m, p, _, _ => (List.nil_perm.mp p).symm
  | x :: xs, [], p, _, _ => by
    have := p.length_eq
    simp at this
  | x :: xs, y :: ys, p, h, k => by
    have h1 := List.pairwise_cons.mp h
    have k1 := List.pairwise_cons.mp k
    have e : x = y := by
      have a1 : y ∈ x :: xs := p.mem_iff.mpr List.mem_cons_self
      have a2 : x ∈ y :: ys := p.mem_iff.mp List.mem_cons_self
      have b1 : x ≤ y := by
        rcases List.mem_cons.mp a1 with e | e
        · omega
        · exact h1.1 y e
      have b2 : y ≤ x := by
        rcases List.mem_cons.mp a2 with e | e
        · omega
        · exact k1.1 x e
      omega
    subst e
    rw [sorted_uniq (List.perm_cons x |>.mp p) h1.2 k1.2]
def fSorted (ds : List D) (S : Sto) : Re D := match ds with
  | [d] => match vw S d with
    | .lst es => match intsD es with
      | some ns => .ok (.lst ((isrt ns).map D.int)) S
      | none => .bad
    | _ => .bad
  | _ => .bad
theorem c_sorted : CallR X (.builtin "sorted") (rC G E fSorted) := by
  intro pins s σ H xs us Q I r h
  obtain ⟨W, S, ds, st, rd, p⟩ := h
  unfold fSorted at p
  split at p
  · obtain ⟨v, rfl, rv⟩ := rd.one_inv
    split at p
    · rename_i es he
      obtain ⟨a, vs, rfl, pa, ra⟩ := rd_lst st he rv
      split at p
      · rename_i ns hn
        cases intsD_rps hn ra
        refine cr_sortedI pins s σ H _ us Q I r ⟨a, ns, rfl, SqL.of pa, fun ns' q h1 h2 hq => ?_⟩
        have e : ns' = isrt ns := sorted_uniq (h1.trans (isrt_perm ns).symm) h2 (isrt_sorted ns)
        subst e
        exact out_lst st p (rps_ints _) q hq
      · exact p.no
    · exact p.no
  · exact p.no
def fTuple (ds : List D) (S : Sto) : Re D := match ds with
  | [d] => match vw S d with
    | .lst es => .ok (.tup es) S
    | .tup es => .ok (.tup es) S
    | _ => .bad
  | _ => .bad
theorem c_tuple (hK : G.K = X.K) : CallR X (.type "tuple") (rC G E fTuple) := by
  intro pins s σ H xs us Q I r h
  obtain ⟨W, S, ds, st, rd, p⟩ := h
  unfold fTuple at p
  split at p
  · obtain ⟨v, rfl, rv⟩ := rd.one_inv
    split at p
    · rename_i es he
      obtain ⟨a, vs, rfl, pa, ra⟩ := rd_lst st he rv
      exact call_tuple_of pins s σ H _ us Q I r ⟨a, vs, rfl, .inl ⟨SqL.of pa, fun q hq => out_tup st p ra q hq⟩⟩
    · rename_i es he
      have he := vw_of he (by simp)
      subst he
      obtain ⟨a, vs, rfl, pa, ra⟩ := rp_tup rv
      rw [hK] at pa
      exact call_tuple_of pins s σ H _ us Q I r ⟨a, vs, rfl, .inr ⟨pa.sq, p.done st rv⟩⟩
    · exact p.no
  · exact p.no
def fList (ds : List D) (S : Sto) : Re D := match ds with
  | [d] => match vw S d with
    | .lst es => .ok (.lst es) S
    | .tup es => .ok (.lst es) S
    | _ => .bad
  | _ => .bad
theorem c_list (hK : G.K = X.K) : CallR X (.type "list") (rC G E fList) := by
  intro pins s σ H xs us Q I r h
  obtain ⟨W, S, ds, st, rd, p⟩ := h
  unfold fList at p
  split at p
  · obtain ⟨v, rfl, rv⟩ := rd.one_inv
    split at p
    · rename_i es he
      obtain ⟨a, vs, rfl, pa, ra⟩ := rd_lst st he rv
      exact call_list_of pins s σ H _ us Q I r ⟨a, vs, rfl, .inl (SqL.of pa), fun q hq => out_lst st p ra q hq⟩
    · rename_i es he
      have he := vw_of he (by simp)
      subst he
      obtain ⟨a, vs, rfl, pa, ra⟩ := rp_tup rv
      rw [hK] at pa
      exact call_list_of pins s σ H _ us Q I r ⟨a, vs, rfl, .inr pa.sq, fun q hq => out_lst st p ra q hq⟩
    · exact p.no
  · exact p.no
/-- the signs of a number's text -/
def digS (i : Int) : List Nat := (PySem.Str.ofString (toString i)).cps.toList
def fStr (ds : List D) (S : Sto) : Re D := match ds with
  | [.int i] => if i.natAbs.log2 < 1920 then .ok (.str (digS i)) S else .bad
  | [.str s] => .ok (.str s) S
  | _ => .bad
theorem c_str : CallR X (.type "str") (rC G E fStr) := by
  intro pins s σ H xs us Q I r h
  obtain ⟨W, S, ds, st, rd, p⟩ := h
  unfold fStr at p
  split at p
  · obtain ⟨v, rfl, rv⟩ := rd.one_inv
    cases rp_int rv
    split at p
    · rename_i hl
      refine call_str_int pins s σ H _ us Q I r ⟨_, rfl, hl, ?_⟩
      have q := p.done st mk_str
      unfold digS at q
      simpa using q
    · exact p.no
  · obtain ⟨v, rfl, rv⟩ := rd.one_inv
    cases rp_str rv
    exact SkE.call_str_str pins s σ H _ us Q I r ⟨_, rfl, p.done st mk_str⟩
  · exact p.no

/-! isinstance of built-in types -/
def tyD (S : Sto) (d : D) : Option String := match vw S d with
  | .non => some "NoneType"
  | .bl _ => some "bool"
  | .int _ => some "int"
  | .str _ => some "str"
  | .tup _ => some "tuple"
  | .lst _ => some "list"
  | _ => none
def isT (a b : String) : Bool := a == b || (a == "bool" && b == "int")
def tys : List String := ["int", "str", "tuple", "bool", "list"]
theorem kitB_ok : ∀ a ∈ ["NoneType", "bool", "int", "str", "tuple", "list"], ∀ b ∈ tys, kitB a b = some (isT a b) := by decide +kernel
def fIsi (T : String) (d : D) (S : Sto) : Re D := match tyD S d with
  | some a => if tys.contains T = true then .ok (.bl (isT a T)) S else .bad
  | none => .bad
theorem tyX_of {W : Wd} {H : Hp} {S : Sto} {d : D} {v : V} {a : String} (st : StoR G W H S) (h : tyD S d = some a) (r : Rp G W H d v) : TyX G.K H v (.type a) ∧ a ∈ ["NoneType", "bool", "int", "str", "tuple", "list"] := by
  unfold tyD at h
  split at h
  all_goals first | (cases h; done) | (injection h with h; subst h)
  · rename_i he
    have he := vw_of he (by simp)
    subst he
    cases rp_non r
    exact ⟨.base .non, by decide⟩
  · rename_i he
    have he := vw_of he (by simp)
    subst he
    cases rp_bl r
    exact ⟨.base (.bl _), by decide⟩
  · rename_i he
    have he := vw_of he (by simp)
    subst he
    cases rp_int r
    exact ⟨.base (.int _), by decide⟩
  · rename_i he
    have he := vw_of he (by simp)
    subst he
    cases rp_str r
    exact ⟨.base (.str _), by decide⟩
  · rename_i he
    have he := vw_of he (by simp)
    subst he
    obtain ⟨a, vs, rfl, pa, ra⟩ := rp_tup r
    refine ⟨?_, by decide⟩
    rcases pa with ⟨_, _, pa | ⟨o, pa⟩⟩ | ⟨o, its, n, h1, h2, _⟩
    · exact .base (.tup pa)
    · exact .fTuple pa
    · exact .kTuple h1 h2
  · rename_i he
    obtain ⟨a, vs, rfl, pa, ra⟩ := rd_lst st he r
    exact ⟨.base (.lst pa), by decide⟩
end
end DL
set_option Elab.async false
set_option linter.all false
set_option maxRecDepth 100000
set_option maxHeartbeats 4000000
/-! DL5: a small syntax and what it means. -/
namespace DL
open PySem PySem.Spec PyProof.Rows L2

inductive Bo where
  | add | sub | mul | div | mod | pow
  deriving DecidableEq
inductive Co where
  | eq | ne | lt | le | gt | ge | is | isN | in_ | notIn
  deriving DecidableEq
inductive Bi where
  | len | int | max | min | sum | sorted | tuple | list | str | ord
  deriving DecidableEq
inductive Mt where
  | append | pop | extend | join | split | words | splitMax | startswith | isdigit | isascii | isprintable | isalnum | isalpha | lower | removeprefix | lstripC | find2 | find3
  deriving DecidableEq

mutual
inductive Tg where
  | name (i : Nat)
  | tup (ts : Tgs)
inductive Tgs where
  | nil
  | cons (t : Tg) (ts : Tgs)
end

mutual
inductive Ex where
  | var (i : Nat)
  | int (i : Int)
  | str (s : List Nat)
  | bl (b : Bool)
  | non
  | glo (x : String)
  | fnv (f : Nat)
  | bin (o : Bo) (a b : Ex)
  | neg (a : Ex)
  | cmp (o : Co) (a b : Ex)
  | chn (o p : Co) (a b c : Ex)
  | and (es : Exs)
  | or (es : Exs)
  | not (a : Ex)
  | ite (c a b : Ex)
  | call (f : Nat) (es : Exs)
  | callv (i : Nat) (es : Exs)
  | blt (b : Bi) (es : Exs)
  | isi (a : Ex) (T : String)
  | mth (m : Mt) (o : Ex) (es : Exs)
  | tup (es : Exs)
  | lst (es : Exs)
  | new (es : Exs)
  | ix (a b : Ex)
  | sl (a : Ex) (lo hi : Ox)
  | comp (trk : Bool) (own : List Nat) (elt : Ex) (t : Tg) (it : Itr) (c : Ox)
  | comp2 (trk : Bool) (own : List Nat) (elt : Ex) (t : Tg) (it : Itr) (c : Ox) (own2 : List Nat) (t2 : Tg) (it2 : Itr) (c2 : Ox)
  | sset (own : List Nat) (elt : Ex) (t : Tg) (it : Itr) (own2 : List Nat) (t2 : Tg) (it2 : Itr)
  | ssrt (a : Ex)
  | skey (a : Ex)
  | fmt (a : Ex)
  | joi (es : Exs)
  | fld (a : Ex) (n : Str)
  | isx (a : Ex) (T : Str)
  | inD (neg : Bool) (a : Ex) (x : String)
  | ixD (x : String) (a : Ex)
  | nope (k : Nat) (a : Ex)
  | rep3 (a : Ex) (c1 : Nat) (z1 : List Nat) (c2 : Nat) (z2 : List Nat) (c3 : Nat) (z3 : List Nat)
inductive Exs where
  | nil
  | cons (e : Ex) (es : Exs)
inductive Ox where
  | none
  | some (e : Ex)
inductive Itr where
  | plain (e : Ex)
  | range1 (a : Ex)
  | range2 (a b : Ex)
  | rev (e : Ex)
  | enum (e : Ex)
  | zip (a b : Ex)
  | enumS (k : Int) (e : Ex)
end

/-- the error that a suite holds: its address, its dict's, its class -/
abbrev Exc := Option (Nat × Nat × Nat)
/-- what the meaning hangs on: the defs, the module's constants, a bound for whiles; what is told of the error classes (the fields, what a call makes, which clause catches, isinstance); the error in hand -/
structure Par where
  fn : Nat → List D → Sto → Re D
  gc : String → Option D
  fuel : Nat
  xf : Nat → List Str
  mke : Nat → List D → Option (List D)
  exm : Str → Nat → Option Bool
  isx : Nat → Str → Option Bool
  ex : Exc
  gd : String → Option (List (List Nat × Int) × List (List Nat))
def fFld (ex : Exc) (xf : Nat → List Str) (n : Str) (d : D) (S : Sto) : Re D := match d with
  | .exn a dd x fs => if ex = some (a, dd, x) then match ((xf x).zip fs).lookup n with
    | some e => .ok e S
    | none => .bad
    else .bad
  | _ => .bad
def fIsx (ex : Exc) (isx : Nat → Str → Option Bool) (T : Str) (d : D) (S : Sto) : Re D := match d with
  | .exn a dd x fs => if ex = some (a, dd, x) then match isx x T with
    | some b => .ok (.bl b) S
    | none => .bad
    else .bad
  | _ => .bad

/-! ### stores to names -/
mutual
def asg : Tg → D → Loc → Option Loc
  | .name i, d, r => some (r.set i (some d))
  | .tup ts, d, r => match d with
    | .tup ds => asgs ts ds r
    | .lst ds => asgs ts ds r
    | _ => none
def asgs : Tgs → List D → Loc → Option Loc
  | .nil, ds, r => match ds with
    | [] => some r
    | _ => none
  | .cons t ts, ds, r => match ds with
    | d :: ds => (asg t d r).bind (asgs ts ds)
    | [] => none
end
def wipeL (r : Loc) : List Nat → Loc
  | [] => r
  | v :: vs => (wipeL r vs).set v none

/-! ### operations by name -/
def boF : Bo → D → D → Sto → Re D
  | .add => fAdd | .sub => fSub | .mul => fMul | .div => fDiv | .mod => fMod | .pow => fPow
def coF : Co → D → D → Sto → Re D
  | .eq => fEq | .ne => fNe | .lt => fLt | .le => fLe | .gt => fGt | .ge => fGe | .is => fIs | .isN => fIsN | .in_ => fIn | .notIn => fNotIn
def fOrd (ds : List D) (S : Sto) : Re D := match ds with
  | [.str [c]] => .ok (.int (c : Nat)) S
  | _ => .bad
/-- a word among the keys of a dict that the module holds -/
def fInD (neg : Bool) (t : Option (List (List Nat × Int) × List (List Nat))) (d : D) (S : Sto) : Re D := match t, d with
  | some kv, .str s => if (kv.1.lookup s).isSome then .ok (.bl (!neg)) S else if s ∈ kv.2 then .ok (.bl neg) S else .bad
  | _, _ => .bad
def fIxD (t : Option (List (List Nat × Int) × List (List Nat))) (d : D) (S : Sto) : Re D := match t, d with
  | some kv, .str s => match kv.1.lookup s with
    | some i => .ok (.int i) S
    | none => .bad
  | _, _ => .bad
/-- k not in x.encode() -/
def fNope (k : Nat) (d : D) (S : Sto) : Re D := match d with
  | .str s => if s.all (· < 128) = true ∧ s.length ≤ 1000000 ∧ k < 256 then .ok (.bl (!decide (k ∈ s))) S else .bad
  | _ => .bad
/-- each sign c told as z -/
def repC (c : Nat) (z x : List Nat) : List Nat := x.flatMap fun d => if d = c then z else [d]
/-- x.replace(c1, z1).replace(c2, z2).replace(c3, z3), where the first two are not found -/
def fRep3 (c1 c2 c3 : Nat) (z3 : List Nat) (d : D) (S : Sto) : Re D := match d with
  | .str x => if c1 ∉ x ∧ c2 ∉ x ∧ x.length ≤ 100000 ∧ z3.length ≤ 9 then .ok (.str (repC c3 z3 x)) S else .bad
  | _ => .bad
def biF : Bi → List D → Sto → Re D
  | .len => fLen | .int => fInt | .max => fMax | .min => fMin | .sum => fSum | .sorted => fSorted | .tuple => fTuple | .list => fList | .str => fStr | .ord => fOrd
def strsD : List D → Option (List (List Nat))
  | [] => some []
  | .str s :: ds => (strsD ds).map (s :: ·)
  | _ => none
def strL (x : Str) : D := .str x.cps.toList
/-- s.join(xs) -/
def joinS (a : List Nat) : List (List Nat) → List Nat
  | [] => []
  | [x] => x
  | x :: y :: r => x ++ a ++ joinS a (y :: r)
def fJoin (d : D) (es : List D) (S : Sto) : Re D := match d, es with
  | .str a, [e] => match vw S e with
    | .lst ds => match strsD ds with
      | some xs => if (xs.map (·.length)).sum + xs.length * a.length ≤ 1000000 then .ok (.str (joinS a xs)) S else .bad
      | none => .bad
    | .tup ds => match strsD ds with
      | some xs => if (xs.map (·.length)).sum + xs.length * a.length ≤ 1000000 then .ok (.str (joinS a xs)) S else .bad
      | none => .bad
    | _ => .bad
  | _, _ => .bad
def fSplit (d : D) (es : List D) (S : Sto) : Re D := match d, es with
  | .str a, [.str b] => if b.length ≠ 0 ∧ a.length ≤ 1000000 then .ok (.lst ((Txt.split (strO a) (strO b)).map strL)) S else .bad
  | _, _ => .bad
def fWords (d : D) (es : List D) (S : Sto) : Re D := match d, es with
  | .str a, [] => if a.length ≤ 1000000 then .ok (.lst ((Txt.words (strO a)).map strL)) S else .bad
  | _, _ => .bad
def fSplitMax (d : D) (es : List D) (S : Sto) : Re D := match d, es with
  | .str a, [.str b, .int k] => if b.length ≠ 0 ∧ a.length ≤ 1000000 ∧ 0 ≤ k ∧ k < 1000000 then .ok (.lst ((Txt.splitMax (strO a) (strO b) k).map strL)) S else .bad
  | _, _ => .bad
def fStarts (d : D) (es : List D) (S : Sto) : Re D := match d, es with
  | .str a, [.str b] => .ok (.bl (Txt.startswith (strO a) (strO b))) S
  | _, _ => .bad
/-- a text alone, told a truth -/
def fTx0 (g : Str → Bool) (d : D) (es : List D) (S : Sto) : Re D := match d, es with
  | .str a, [] => .ok (.bl (g (strO a))) S
  | _, _ => .bad
def fLower (d : D) (es : List D) (S : Sto) : Re D := match d, es with
  | .str a, [] => if a.length ≤ 1000000 then .ok (strL (Txt.lower (strO a))) S else .bad
  | _, _ => .bad
def fTx1 (g : Str → Str → Str) (d : D) (es : List D) (S : Sto) : Re D := match d, es with
  | .str a, [.str b] => if a.length ≤ 1000000 then .ok (strL (g (strO a) (strO b))) S else .bad
  | _, _ => .bad
def fFind2 (d : D) (es : List D) (S : Sto) : Re D := match d, es with
  | .str a, [.str b, .int i] => .ok (.int (Txt.find3 (strO a) (strO b) i)) S
  | _, _ => .bad
def fFind3 (d : D) (es : List D) (S : Sto) : Re D := match d, es with
  | .str a, [.str b, .int i, .int j] => .ok (.int (Txt.findIn (strO a) (strO b) i j)) S
  | _, _ => .bad
/-- {x} -/
def fFmt (d : D) (S : Sto) : Re D := match d with
  | .int i => if i.natAbs.log2 < 1920 then .ok (.str (digS i)) S else .bad
  | .str s => if s.length ≤ 1000000 then .ok (.str s) S else .bad
  | _ => .bad
/-- the texts one behind the other -/
def fCat (xs : List (List Nat)) (S : Sto) : Re D := if (xs.map (·.length)).sum ≤ 1000000 then .ok (.str xs.flatten) S else .bad
def mtF : Mt → D → List D → Sto → Re D
  | .append => fAppend | .pop => fPop | .extend => fExtend | .join => fJoin | .split => fSplit | .words => fWords | .splitMax => fSplitMax | .startswith => fStarts | .isdigit => fTx0 Txt.isdigit | .isascii => fTx0 Txt.isascii | .isprintable => fTx0 Txt.isprintable | .isalnum => fTx0 Txt.isalnum | .isalpha => fTx0 Txt.isalpha
  | .lower => fLower | .removeprefix => fTx1 Txt.removeprefix | .lstripC => fTx1 Txt.lstripChars | .find2 => fFind2 | .find3 => fFind3
def mtT : Mt → String
  | .append => "list" | .pop => "list" | .extend => "list" | _ => "str"
/-- is the receiver of the method's type -/
def mtOk (m : Mt) (d : D) (S : Sto) : Bool := match vw S d with
  | .lst _ => mtT m == "list"
  | .str _ => mtT m == "str"
  | _ => false

/-! ### what is walked -/
abbrev Gd := Option (Nat × List D)
def gdOk (g : Gd) (S : Sto) : Prop := match g with
  | none => True
  | some (i, ds) => S[i]? = some (.lst ds)
/-- a walked value: its items, its guard -/
def walk (d : D) (S : Sto) : Re (List D × Gd) := match d with
  | .tup ds => .ok (ds, none) S
  | .lst ds => .ok (ds, none) S
  | .scr ns => .ok (ns.map D.int, none) S
  | .str s => .ok (s.map fun c => .str [c], none) S
  | .ref i => match S[i]? with
    | some (.lst ds) => .ok (ds, some (i, ds)) S
    | _ => .bad
  | _ => .bad
def rangeD (lo : Int) : Nat → List D
  | 0 => []
  | n + 1 => .int lo :: rangeD (lo + 1) n
def enumD (k : Int) : List D → List D
  | [] => []
  | d :: ds => .tup [.int k, d] :: enumD (k + 1) ds
def zipD : List D → List D → List D
  | d :: ds, e :: es => .tup [d, e] :: zipD ds es
  | _, _ => []
/-- only things that stand still -/
def still (w : Re (List D × Gd)) : Re (List D) := match w with
  | .ok (ds, none) S => .ok ds S
  | .ok (ds, some _) S => .bad
  | .err x fs S => .err x fs S
  | .bad => .bad

open Classical in
/-- a comprehension's loop: g gives an item or none -/
noncomputable def compG (gd : Gd) (g : D → Sto → Re (Option D)) : List D → Sto → Re (List D)
  | [], S => if gdOk gd S then .ok [] S else .bad
  | x :: xs, S => if gdOk gd S then (g x S).bind fun o S1 => (compG gd g xs S1).bind fun r S2 => .ok (o.toList ++ r) S2 else .bad
open Classical in
noncomputable def compL (gd : Gd) (g : D → Sto → Re (List D)) : List D → Sto → Re (List D)
  | [], S => if gdOk gd S then .ok [] S else .bad
  | x :: xs, S => if gdOk gd S then (g x S).bind fun o S1 => (compL gd g xs S1).bind fun r S2 => .ok (o ++ r) S2 else .bad
/-- no exception goes out -/
def Re.quiet {α : Type} (r : Re α) : Re α := match r with
  | .err _ _ _ => .bad
  | r => r
def toB (d : D) (S : Sto) : Re Bool := match d with
  | .bl b => .ok b S
  | _ => .bad
def keyP : D → Option (Int × Int)
  | .tup (.int a :: .int b :: _) => some (a, b)
  | _ => none
def ltP2 (p q : Int × Int) : Bool := decide (p.1 < q.1) || (p.1 == q.1 && decide (p.2 < q.2))
/-- stable insertion by a pair of ints -/
def insK (x : (Int × Int) × D) : List ((Int × Int) × D) → List ((Int × Int) × D)
  | [] => [x]
  | y :: ys => if ltP2 y.1 x.1 then y :: insK x ys else x :: y :: ys
def srtK : List ((Int × Int) × D) → List ((Int × Int) × D)
  | [] => []
  | x :: xs => insK x (srtK xs)
def keysD : List D → Option (List ((Int × Int) × D))
  | [] => some []
  | d :: ds => match keyP d, keysD ds with
    | some k, some r => some ((k, d) :: r)
    | _, _ => none
def fSkey (d : D) (S : Sto) : Re D := match d with
  | .lst ds => match keysD ds with
    | some ks => .ok (.lst ((srtK ks).map (·.2))) S
    | none => .bad
  | _ => .bad
/-- sorted(set(ints)) -/
def dedup : List Int → List Int
  | [] => []
  | x :: xs => if x ∈ xs then dedup xs else x :: dedup xs
def fSsrt (d : D) (S : Sto) : Re D := match vw S d with
  | .lst es => match intsD es with
    | some ns => if ns.length < 60 then .ok (.lst ((isrt (dedup ns)).map D.int)) S else .bad
    | none => .bad
  | _ => .bad
def pushD (trk : Bool) (ds : List D) (S : Sto) : Re D := if trk then .ok (.ref S.length) (S ++ [.lst ds]) else .ok (.lst ds) S

/-! ### expressions -/
mutual
noncomputable def semE (P : Par) : Ex → M D
  | .var i => fun r S => match r[i]? with
    | some (some d) => .ok d S
    | _ => .bad
  | .int i => fun _ S => .ok (.int i) S
  | .str s => fun _ S => .ok (.str s) S
  | .bl b => fun _ S => .ok (.bl b) S
  | .non => fun _ S => .ok .non S
  | .glo x => fun _ S => match P.gc x with
    | some d => .ok d S
    | none => .bad
  | .fnv f => fun _ S => .ok (.fn f) S
  | .bin o a b => fun r S => (semE P a r S).bind fun x S1 => (semE P b r S1).bind fun y S2 => boF o x y S2
  | .neg a => fun r S => (semE P a r S).bind fNeg
  | .cmp o a b => fun r S => (semE P a r S).bind fun x S1 => (semE P b r S1).bind fun y S2 => coF o x y S2
  | .chn o p a b c => fun r S => (semE P a r S).bind fun x S1 => (semE P b r S1).bind fun y S2 => (coF o x y S2).bind fun z S3 => (toB z S3).bind fun k S4 =>
      if k then (semE P c r S4).bind fun w S5 => (coF p y w S5).bind fun z2 S6 => (toB z2 S6).bind fun k2 S7 => .ok (.bl k2) S7 else .ok (.bl false) S4
  | .and es => fun r S => semAnd P es r S
  | .or es => fun r S => semOr P es r S
  | .not a => fun r S => (semE P a r S).bind fun d S1 => (truD d S1).bind fun b S2 => .ok (.bl (!b)) S2
  | .ite c a b => fun r S => (semB P c r S).bind fun k S1 => if k then semE P a r S1 else semE P b r S1
  | .call f es => fun r S => (semEs P es r S).bind fun ds S1 => P.fn f ds S1
  | .callv i es => fun r S => match r[i]? with
    | some (some (.fn f)) => (semEs P es r S).bind fun ds S1 => P.fn f ds S1
    | _ => .bad
  | .blt b es => fun r S => (semEs P es r S).bind fun ds S1 => biF b ds S1
  | .isi a T => fun r S => (semE P a r S).bind fun d S1 => fIsi T d S1
  | .mth m o es => fun r S => (semE P o r S).bind fun d S1 => if mtOk m d S1 then (semEs P es r S1).bind fun ds S2 => mtF m d ds S2 else .bad
  | .tup es => fun r S => (semEs P es r S).bind fun ds S1 => .ok (.tup ds) S1
  | .lst es => fun r S => (semEs P es r S).bind fun ds S1 => .ok (.lst ds) S1
  | .new es => fun r S => (semEs P es r S).bind fun ds S1 => .ok (.ref S1.length) (S1 ++ [.lst ds])
  | .ix a b => fun r S => (semE P a r S).bind fun x S1 => (semE P b r S1).bind fun y S2 => fIx x y S2
  | .sl a lo hi => fun r S => (semE P a r S).bind fun x S1 => (semO P lo r S1).bind fun l S2 => (semO P hi r S2).bind fun u S3 => fSl x l u S3
  | .comp trk own elt t it c => fun r S => (semI P it r S).bind fun w S1 =>
      if w.1.length ≤ 1000000 then
        (compG w.2 (fun x S2 => match asg t x (wipeL r own) with
          | some r2 => ((semC P c r2 S2).bind fun k S3 => if k then (semE P elt r2 S3).bind fun y S4 => .ok (some y) S4 else .ok none S3).quiet
          | none => .bad) w.1 S1).bind fun ds S2 => pushD trk ds S2
      else .bad
  | .comp2 trk own elt t it c own2 t2 it2 c2 => fun r S => (semI P it r S).bind fun w S1 =>
      if w.1.length ≤ 1000 then
        (compL w.2 (fun x S2 => match asg t x (wipeL r own) with
          | some r2 => ((semC P c r2 S2).bind fun k S3 => if k then (semI P it2 r2 S3).bind fun w2 S4 =>
              if w2.1.length ≤ 1000 then
                compG w2.2 (fun x2 S5 => match asg t2 x2 (wipeL r2 own2) with
                  | some r3 => ((semC P c2 r3 S5).bind fun k2 S6 => if k2 then (semE P elt r3 S6).bind fun y S7 => .ok (some y) S7 else .ok none S6).quiet
                  | none => .bad) w2.1 S4
              else .bad
            else .ok [] S3).quiet
          | none => .bad) w.1 S1).bind fun ds S2 => pushD trk ds S2
      else .bad
  | .sset own elt t it own2 t2 it2 => fun r S => (semI P it r S).bind fun w S1 =>
      if w.1.length ≤ 1000 then
        (compL w.2 (fun x S2 => match asg t x (wipeL r own) with
          | some r2 => ((semI P it2 r2 S2).bind fun w2 S4 =>
              if w2.1.length ≤ 1000 then
                compG w2.2 (fun x2 S5 => match asg t2 x2 (wipeL r2 own2) with
                  | some r3 => ((semE P elt r3 S5).bind fun y S7 => .ok (some y) S7).quiet
                  | none => .bad) w2.1 S4
              else .bad).quiet
          | none => .bad) w.1 S1).bind fun ds S2 => fSsrt (.lst ds) S2
      else .bad
  | .ssrt a => fun r S => (semE P a r S).bind fSsrt
  | .fmt a => fun r S => (semE P a r S).bind fFmt
  | .joi es => fun r S => (semJ P es r S).bind fCat
  | .fld a n => fun r S => (semE P a r S).bind (fFld P.ex P.xf n)
  | .isx a T => fun r S => (semE P a r S).bind (fIsx P.ex P.isx T)
  | .skey a => fun r S => (semE P a r S).bind fSkey
  | .inD neg a x => fun r S => (semE P a r S).bind (fInD neg (P.gd x))
  | .ixD x a => fun r S => (semE P a r S).bind (fIxD (P.gd x))
  | .nope k a => fun r S => (semE P a r S).bind (fNope k)
  | .rep3 a c1 z1 c2 z2 c3 z3 => fun r S => (semE P a r S).bind (fRep3 c1 c2 c3 z3)
noncomputable def semEs (P : Par) : Exs → M (List D)
  | .nil => fun _ S => .ok [] S
  | .cons e es => fun r S => (semE P e r S).bind fun d S1 => (semEs P es r S1).bind fun ds S2 => .ok (d :: ds) S2
noncomputable def semJ (P : Par) : Exs → M (List (List Nat))
  | .nil => fun _ S => .ok [] S
  | .cons e es => fun r S => (semE P e r S).bind fun d S1 => match d with
    | .str s => if s.length ≤ 100000 then (semJ P es r S1).bind fun xs S2 => .ok (s :: xs) S2 else .bad
    | _ => .bad
noncomputable def semAnd (P : Par) : Exs → M D
  | .nil => fun _ _ => .bad
  | .cons e .nil => fun r S => semE P e r S
  | .cons e es => fun r S => (semE P e r S).bind fun d S1 => (truD d S1).bind fun k S2 => if k then semAnd P es r S2 else .ok d S2
noncomputable def semOr (P : Par) : Exs → M D
  | .nil => fun _ _ => .bad
  | .cons e .nil => fun r S => semE P e r S
  | .cons e es => fun r S => (semE P e r S).bind fun d S1 => (truD d S1).bind fun k S2 => if k then .ok d S2 else semOr P es r S2
noncomputable def semO (P : Par) : Ox → M (Option Int)
  | .none => fun _ S => .ok none S
  | .some e => fun r S => (semE P e r S).bind fun d S1 => match d with
    | .int i => .ok (some i) S1
    | _ => .bad
/-- a test that may be left out -/
noncomputable def semC (P : Par) : Ox → M Bool
  | .none => fun _ S => .ok true S
  | .some e => fun r S => semB P e r S
noncomputable def semI (P : Par) : Itr → M (List D × Gd)
  | .plain e => fun r S => (semE P e r S).bind walk
  | .range1 a => fun r S => (semE P a r S).bind fun x S1 => match x with
    | .int n => if n.natAbs < 4611686018427387904 then .ok (rangeD 0 n.toNat, none) S1 else .bad
    | _ => .bad
  | .range2 a b => fun r S => (semE P a r S).bind fun x S1 => (semE P b r S1).bind fun y S2 => match x, y with
    | .int n, .int m => if n.natAbs < 4611686018427387904 ∧ m.natAbs < 4611686018427387904 then .ok (rangeD n (m - n).toNat, none) S2 else .bad
    | _, _ => .bad
  | .rev e => fun r S => (semE P e r S).bind fun x S1 => match x with
    | .tup ds => .ok (ds.reverse, none) S1
    | .lst ds => .ok (ds.reverse, none) S1
    | _ => .bad
  | .enum e => fun r S => (semE P e r S).bind fun x S1 => match x with
    | .lst ds => .ok (enumD 0 ds, none) S1
    | _ => .bad
  | .zip a b => fun r S => (semE P a r S).bind fun x S1 => (semE P b r S1).bind fun y S2 => match x, y with
    | .tup ds, .tup es => .ok (zipD ds es, none) S2
    | .lst ds, .lst es => .ok (zipD ds es, none) S2
    | _, _ => .bad
  | .enumS k e => fun r S => (semE P e r S).bind fun x S1 => match x with
    | .str s => .ok (enumD k (s.map fun c => .str [c]), none) S1
    | _ => .bad
/-- as a test -/
noncomputable def semB (P : Par) : Ex → M Bool
  | .and es => fun r S => semAll P es r S
  | .or es => fun r S => semAny P es r S
  | .not a => fun r S => (semB P a r S).bind fun b S1 => .ok (!b) S1
  | .ite c a b => fun r S => (semB P c r S).bind fun k S1 => if k then semB P a r S1 else semB P b r S1
  | .cmp o a b => fun r S => (semE P a r S).bind fun x S1 => (semE P b r S1).bind fun y S2 => (coF o x y S2).bind toB
  | .chn o p a b c => fun r S => (semE P a r S).bind fun x S1 => (semE P b r S1).bind fun y S2 => (coF o x y S2).bind fun z S3 => (toB z S3).bind fun k S4 =>
      if k then (semE P c r S4).bind fun w S5 => (coF p y w S5).bind toB else .ok false S4
  | .var i => fun r S => (match r[i]? with
    | some (some d) => .ok d S
    | _ => .bad : Re D).bind truD
  | .call f es => fun r S => ((semEs P es r S).bind fun ds S1 => P.fn f ds S1).bind truD
  | .callv i es => fun r S => (match r[i]? with
    | some (some (.fn f)) => (semEs P es r S).bind fun ds S1 => P.fn f ds S1
    | _ => .bad : Re D).bind truD
  | .isi a T => fun r S => ((semE P a r S).bind fun d S1 => fIsi T d S1).bind truD
  | .isx a T => fun r S => ((semE P a r S).bind (fIsx P.ex P.isx T)).bind truD
  | .inD neg a x => fun r S => ((semE P a r S).bind (fInD neg (P.gd x))).bind truD
  | .mth m o es => fun r S => ((semE P o r S).bind fun d S1 => if mtOk m d S1 then (semEs P es r S1).bind fun ds S2 => mtF m d ds S2 else .bad).bind truD
  | .ix a b => fun r S => ((semE P a r S).bind fun x S1 => (semE P b r S1).bind fun y S2 => fIx x y S2).bind truD
  | .bl b => fun _ S => .ok b S
  | _ => fun _ _ => .bad
noncomputable def semAll (P : Par) : Exs → M Bool
  | .nil => fun _ S => .ok true S
  | .cons e es => fun r S => (semB P e r S).bind fun k S1 => if k then semAll P es r S1 else .ok false S1
noncomputable def semAny (P : Par) : Exs → M Bool
  | .nil => fun _ S => .ok false S
  | .cons e es => fun r S => (semB P e r S).bind fun k S1 => if k then .ok true S1 else semAny P es r S1
end
end DL
set_option Elab.async false
set_option linter.all false
set_option maxRecDepth 100000
set_option maxHeartbeats 4000000
/-! DL6: readings of the small syntax's parts, one lemma a construct. -/
namespace DL
open PySem PySem.Spec PyProof.Rows L2

section
variable {G : Gb} {E : XK} {a b c d : Type} {q : L2.St} {H : Hp}
theorem T.imp {p : Rep a b} {f : M a} {Q Q' : b → Hp → Prop} (h : T G E p f q H Q) (k : ∀ v H', Q v H' → Q' v H') : T G E p f q H Q' := by
  obtain ⟨W, r, S, rel, h⟩ := h
  exact ⟨W, r, S, rel, h.imp k⟩
theorem T.congr {p : Rep a b} {f g : M a} {Q : b → Hp → Prop} (h : T G E p f q H Q) (e : ∀ r S, f r S = g r S) : T G E p g q H Q := by
  obtain ⟨W, r, S, rel, h⟩ := h
  exact ⟨W, r, S, rel, by rw [← e]; exact h⟩
/-- one part, then the rest -/
theorem T.seq {p : Rep a b} {p' : Rep c d} {f : M a} {g : a → Loc → Sto → Re c} {Q : d → Hp → Prop} (h : T G E p' (fun r S => (f r S).bind fun x S1 => g x r S1) q H Q) :
    T G E p f q H fun v H1 => ∃ W1 r S1 x, Rel G W1 r S1 q H1 ∧ p W1 H1 x v ∧ Post G E p' W1 H1 (g x r S1) Q := by
  obtain ⟨W, r, S, rel, h⟩ := h
  refine ⟨W, r, S, rel, Post.imp (Post.bind (p := p) h) fun v H1 k => ?_⟩
  obtain ⟨W1, x, S1, ext, st, pr, _, k⟩ := k
  exact ⟨W1, r, S1, x, ⟨rel.sl.ext ext, st⟩, pr, k⟩
theorem T.seq' {p : Rep a b} {p' : Rep c d} {f : M a} {g : a → Sto → Re c} {Q : d → Hp → Prop} (h : T G E p' (fun r S => (f r S).bind g) q H Q) :
    T G E p f q H fun v H1 => ∃ W1 r S1 x, Rel G W1 r S1 q H1 ∧ p W1 H1 x v ∧ Post G E p' W1 H1 (g x S1) Q := by
  obtain ⟨W, r, S, rel, h⟩ := h
  refine ⟨W, r, S, rel, Post.imp (Post.bind (p := p) h) fun v H1 k => ?_⟩
  obtain ⟨W1, x, S1, ext, st, pr, _, k⟩ := k
  exact ⟨W1, r, S1, x, ⟨rel.sl.ext ext, st⟩, pr, k⟩
theorem Post.thn {p : Rep a b} {p' : Rep c d} {W : Wd} {r : Re a} {g : a → Sto → Re c} {Q : d → Hp → Prop} (h : Post G E p' W H (r.bind g) Q) :
    Post G E p W H r fun v H1 => ∃ W1 x S1, Ext W H W1 H1 ∧ StoR G W1 H1 S1 ∧ p W1 H1 x v ∧ Post G E p' W1 H1 (g x S1) Q :=
  (Post.bind (p := p) h).imp fun _ _ ⟨W1, x, S1, e, s, r, _, k⟩ => ⟨W1, x, S1, e, s, r, k⟩
/-- two parts -/
theorem T.two {e f g : Type} {p : Rep a b} {p2 : Rep c d} {p' : Rep e f} {fa : M a} {fb : M c} {k : a → c → Loc → Sto → Re e} {Q : f → Hp → Prop} (mo : Mono p)
    (h : T G E p' (fun r S => (fa r S).bind fun x S1 => (fb r S1).bind fun y S2 => k x y r S2) q H Q) :
    T G E p fa q H fun v H1 => T G E p2 fb q H1 fun u H2 => ∃ W r S x y, Rel G W r S q H2 ∧ p W H2 x v ∧ p2 W H2 y u ∧ Post G E p' W H2 (k x y r S) Q := by
  refine T.imp (T.seq (p := p) h) fun v H1 h1 => ?_
  obtain ⟨W1, r, S1, x, rel, rx, h1⟩ := h1
  refine ⟨W1, r, S1, rel, Post.imp (Post.thn (p := p2) h1) fun u H2 h2 => ?_⟩
  obtain ⟨W2, y, S2, ext, st, ry, h2⟩ := h2
  exact ⟨W2, r, S2, x, y, ⟨rel.sl.ext ext, st⟩, mo _ _ _ _ _ _ ext rx, ry, h2⟩
theorem T.two' {e f g : Type} {p : Rep a b} {p2 : Rep c d} {p' : Rep e f} {fa : M a} {fb : M c} {k : a → c → Sto → Re e} {Q : f → Hp → Prop} (mo : Mono p)
    (h : T G E p' (fun r S => (fa r S).bind fun x S1 => (fb r S1).bind fun y S2 => k x y S2) q H Q) :
    T G E p fa q H fun v H1 => T G E p2 fb q H1 fun u H2 => ∃ W r S x y, Rel G W r S q H2 ∧ p W H2 x v ∧ p2 W H2 y u ∧ Post G E p' W H2 (k x y S) Q := T.two (g := g) (k := fun x y _ S => k x y S) mo h
end

/-! ### truth -/
theorem truD_same {d : D} {S S' : Sto} {k : Bool} (h : truD d S = .ok k S') : S' = S := by
  unfold truD at h
  split at h <;> first | (cases h; rfl) | (split at h <;> cases h; rfl) | cases h
theorem tru_v {G : Gb} {W : Wd} {H : Hp} {S S' : Sto} {d : D} {v : V} {k : Bool} (st : StoR G W H S) (r : Rp G W H d v) (h : truD d S = .ok k S') : TruV G.K v H k := by
  unfold truD at h
  split at h
  · rename_i he
    have he := vw_of he (by simp)
    subst he
    cases rp_non r
    cases h
    rfl
  · rename_i he
    have he := vw_of he (by simp)
    subst he
    cases rp_bl r
    cases h
    rfl
  · rename_i he
    have he := vw_of he (by simp)
    subst he
    cases rp_int r
    cases h
    rfl
  · rename_i y he
    have he := vw_of he (by simp)
    subst he
    cases rp_str r
    split at h
    · rename_i hz
      cases h
      refine ⟨by rw [str_len]; exact sz hz, ?_⟩
      rw [str_len]
      cases y <;> simp
      omega
    · cases h
  · rename_i ds he
    have he := vw_of he (by simp)
    subst he
    obtain ⟨a, vs, rfl, pa, ra⟩ := rp_tup r
    cases h
    exact .inr (.inl ⟨vs, pa.sq, by rw [empty_rps ra]⟩)
  · rename_i ds he
    obtain ⟨a, vs, rfl, pa, ra⟩ := rd_lst st he r
    cases h
    exact .inl ⟨vs, SqL.of pa, by rw [empty_rps ra]⟩
  · cases h
/-- a test by a value's truth -/
theorem pt_trR {X : Cx} {e : Expr} {ta : TE} {r : V → Hp → (Bool → Hp → Prop) → Prop} (hr : TruR X r) (ha : PE X e ta) (he : ∀ whole, isTrue e X.env whole = (do let v ← whole; standAt e.pos; holding [v] (truthy v))) : L2.PT X e (fun σ H Q => ta σ H fun x H' => r x H' Q) :=
  ⟨fun pins s σ H Q I h => isTrue_plain (thn (ha.run pins s σ H _ I h) fun v s1 ⟨x, H1, I1, r1, q1⟩ => hr pins s1 σ H1 x v Q I1 r1 q1) (he _)⟩

section
variable {X : Cx} {G : Gb} {E : XK} {e e1 e2 e3 : Expr} {pos : Pos} {fa fb fc : M D} {ga gb gc : M Bool}
theorem k_con {x : D} {v : V} (h : PE X e (tC v)) (r : ∀ W H, Rp G W H x v) : PE X e (TD G E fun _ S => .ok x S) :=
  PE.imp h fun q H Q ⟨W, _, S, rel, p⟩ => p.done rel.st (r W H)
theorem k_var {i : Nat} {n : Str} {pos : Pos} (h : PE X (.Name n pos) (tVar i)) : PE X (.Name n pos) (TD G E fun r S => match r[i]? with
    | some (some d) => .ok d S
    | _ => .bad) := PE.imp h fun q H Q ⟨W, r, S, rel, p⟩ => by
  dsimp only at p
  split at p
  · rename_i d hd
    obtain ⟨v, h1, h2⟩ := rel.sl.at_ i d hd
    exact ⟨v, h1, p.done rel.st h2⟩
  · exact p.no
theorem tOp_of {g : D → D → Sto → Re D} {q : L2.St} {H : Hp} {Q : VK} (h : TD G E (fun r S => (fa r S).bind fun x S1 => (fb r S1).bind fun y S2 => g x y S2) q H Q) : tOp (r2 G E g) (TD G E fa) (TD G E fb) q H Q :=
  T.imp (T.two' (g := D) mono_D h) fun v H1 h1 => T.imp h1 fun u H2 ⟨W, r, S, x, y, rel, rx, ry, k⟩ => ⟨W, S, x, y, rel.st, rx, ry, k⟩
theorem k_bin {o : Operator} {g : D → D → Sto → Re D} (ho : OpR X (binaryOp o) (r2 G E g)) (ha : PE X e1 (TD G E fa)) (hb : PE X e2 (TD G E fb)) :
    PE X (.BinOp e1 o e2 pos) (TD G E fun r S => (fa r S).bind fun x S1 => (fb r S1).bind fun y S2 => g x y S2) := PE.imp (pe_op ho ha hb) fun _ _ _ h => tOp_of h
theorem k_neg (ha : PE X e (TD G E fa)) : PE X (.UnaryOp .USub e pos) (TD G E fun r S => (fa r S).bind fNeg) :=
  PE.imp (pe_un (ur_neg (G := G) (E := E)) ha) fun q H Q h => T.imp (T.seq' h) fun v H1 ⟨W, r, S, x, rel, rx, k⟩ => ⟨W, S, x, rel.st, rx, k⟩
theorem k_cmp {o : CmpOp} {g : D → D → Sto → Re D} (ho : OpR X (compareOp o) (r2 G E g)) (ha : PE X e1 (TD G E fa)) (hb : PE X e2 (TD G E fb)) (hm : behindInMarks o e2 = false) :
    PE X (.Compare e1 [o] [e2] pos) (TD G E fun r S => (fa r S).bind fun x S1 => (fb r S1).bind fun y S2 => g x y S2) := PE.imp (pe_cmpR ho ha hb hm) fun _ _ _ h => tOp_of h
theorem toB_ok {W : Wd} {H : Hp} {d : D} {S S' : Sto} {v : V} {k : Bool} (r : Rp G W H d v) (h : toB d S = .ok k S') : v = .bl k ∧ S' = S := by
  unfold toB at h
  split at h
  · cases h
    exact ⟨rp_bl r, rfl⟩
  · cases h
theorem toB_post {a b : Type} {p : Rep a b} {W : Wd} {H : Hp} {d : D} {S : Sto} {v : V} {g : Bool → Sto → Re a} {Q : b → Hp → Prop} (r : Rp G W H d v) (h : Post G E p W H ((toB d S).bind g) Q) : ∃ k, v = .bl k ∧ Post G E p W H (g k S) Q := by
  unfold toB at h
  split at h
  · exact ⟨_, rp_bl r, h⟩
  · exact h.no
theorem k_cmpT {o : CmpOp} {g : D → D → Sto → Re D} (ho : OpR X (compareOp o) (r2 G E g)) (ha : PE X e1 (TD G E fa)) (hb : PE X e2 (TD G E fb)) (hm : behindInMarks o e2 = false) :
    L2.PT X (.Compare e1 [o] [e2] pos) (TB G E fun r S => (fa r S).bind fun x S1 => (fb r S1).bind fun y S2 => (g x y S2).bind toB) := by
  refine DL.PT.imp (pt_cmpR ho ha hb hm) fun q H Q h => ?_
  refine T.imp (T.two' (g := D) mono_D h) fun v H1 h1 => T.imp h1 fun u H2 ⟨W, r, S, x, y, rel, rx, ry, k⟩ => ⟨W, S, x, y, rel.st, rx, ry, ?_⟩
  refine Post.imp (Post.thn (p := Rp G) k) fun w H3 ⟨W3, z, S3, ext, st, rz, k3⟩ => ?_
  have e : (toB z S3) = (toB z S3).bind fun k S => .ok k S := by unfold toB; split <;> rfl
  rw [e] at k3
  obtain ⟨k, e, k3⟩ := toB_post rz k3
  exact ⟨k, e, k3.done st rfl⟩
theorem chain_of {g g' : D → D → Sto → Re D} {q : L2.St} {H : Hp} {Q : VK} (h : TD G E (fun r S => (fa r S).bind fun x S1 => (fb r S1).bind fun y S2 => (g x y S2).bind fun z S3 => (toB z S3).bind fun k S4 =>
      if k then (fc r S4).bind fun w S5 => (g' y w S5).bind fun z2 S6 => (toB z2 S6).bind fun k2 S7 => .ok (.bl k2) S7 else .ok (.bl false) S4) q H Q) : tChain (r2 G E g) (r2 G E g') (TD G E fa) (TD G E fb) (TD G E fc) q H Q := by
  refine T.imp (T.two (g := D) mono_D h) fun v H1 h1 => T.imp h1 fun u H2 ⟨W, r, S, x, y, rel, rx, ry, k⟩ => ⟨W, S, x, y, rel.st, rx, ry, ?_⟩
  refine Post.imp (Post.thn (p := Rp G) k) fun w H3 ⟨W3, z, S3, ext, st, rz, k3⟩ => ?_
  obtain ⟨k, e, k3⟩ := toB_post rz k3
  refine ⟨k, e, ?_⟩
  cases k with
  | false =>
    simp only [Bool.false_eq_true, if_false] at k3 ⊢
    exact k3.done st mk_bl
  | true =>
    simp only [if_true] at k3 ⊢
    refine ⟨W3, r, S3, ⟨rel.sl.ext ext, st⟩, Post.imp (Post.thn (p := Rp G) k3) fun w2 H4 ⟨W4, z4, S4, ext4, st4, r4, k4⟩ => ⟨W4, S4, y, z4, st4, Rp.ext (ext.trans ext4) _ _ ry, r4, ?_⟩⟩
    refine Post.imp (Post.thn (p := Rp G) k4) fun w5 H5 ⟨W5, z5, S5, ext5, st5, r5, k5⟩ => ?_
    obtain ⟨k, e, k5⟩ := toB_post r5 k5
    subst e
    exact k5.done st5 mk_bl
theorem k_chn {o o' : CmpOp} {g g' : D → D → Sto → Re D} (ho : OpR X (compareOp o) (r2 G E g)) (ho' : OpR X (compareOp o') (r2 G E g')) (ha : PE X e1 (TD G E fa)) (hb : PE X e2 (TD G E fb)) (hc : PE X e3 (TD G E fc)) (hm : lastMarks [o, o'] [e2, e3] = false) :
    PE X (.Compare e1 [o, o'] [e2, e3] pos) (TD G E (fun r S => (fa r S).bind fun x S1 => (fb r S1).bind fun y S2 => (g x y S2).bind fun z S3 => (toB z S3).bind fun k S4 =>
      if k then (fc r S4).bind fun w S5 => (g' y w S5).bind fun z2 S6 => (toB z2 S6).bind fun k2 S7 => .ok (.bl k2) S7 else .ok (.bl false) S4)) := PE.imp (pe_chain ho ho' ha hb hc hm) fun _ _ _ h => chain_of h
theorem k_chnT {o o' : CmpOp} {g g' : D → D → Sto → Re D} (ho : OpR X (compareOp o) (r2 G E g)) (ho' : OpR X (compareOp o') (r2 G E g')) (ha : PE X e1 (TD G E fa)) (hb : PE X e2 (TD G E fb)) (hc : PE X e3 (TD G E fc)) (hm : lastMarks [o, o'] [e2, e3] = false) :
    L2.PT X (.Compare e1 [o, o'] [e2, e3] pos) (TB G E (fun r S => (fa r S).bind fun x S1 => (fb r S1).bind fun y S2 => (g x y S2).bind fun z S3 => (toB z S3).bind fun k S4 =>
      if k then (fc r S4).bind fun w S5 => (g' y w S5).bind toB else .ok false S4)) := by
  refine DL.PT.imp (pt_chain ho ho' ha hb hc hm) fun q H Q h => ?_
  refine T.imp (T.two (g := D) mono_D h) fun v H1 h1 => T.imp h1 fun u H2 ⟨W, r, S, x, y, rel, rx, ry, k⟩ => ⟨W, S, x, y, rel.st, rx, ry, ?_⟩
  refine Post.imp (Post.thn (p := Rp G) k) fun w H3 ⟨W3, z, S3, ext, st, rz, k3⟩ => ?_
  obtain ⟨k, e, k3⟩ := toB_post rz k3
  refine ⟨k, e, ?_⟩
  cases k with
  | false =>
    simp only [Bool.false_eq_true, if_false] at k3 ⊢
    exact ⟨_, rfl, k3.done st rfl⟩
  | true =>
    simp only [if_true] at k3 ⊢
    refine ⟨W3, r, S3, ⟨rel.sl.ext ext, st⟩, Post.imp (Post.thn (p := Rp G) k3) fun w2 H4 ⟨W4, z4, S4, ext4, st4, r4, k4⟩ => ⟨W4, S4, y, z4, st4, Rp.ext (ext.trans ext4) _ _ ry, r4, ?_⟩⟩
    refine Post.imp (Post.thn (p := Rp G) k4) fun w5 H5 ⟨W5, z5, S5, ext5, st5, r5, k5⟩ => ?_
    have e : (toB z5 S5) = (toB z5 S5).bind fun k S => .ok k S := by unfold toB; split <;> rfl
    rw [e] at k5
    obtain ⟨k, e, k5⟩ := toB_post r5 k5
    exact ⟨k, e, k5.done st5 rfl⟩
/-- a test that is a value's truth -/
theorem k_tru (hK : G.K = X.K) (ha : PE X e (TD G E fa)) (he : ∀ whole, isTrue e X.env whole = (do let v ← whole; standAt e.pos; holding [v] (truthy v))) : L2.PT X e (TB G E fun r S => (fa r S).bind truD) :=
  DL.PT.imp (pt_trR (tr_ok (G := G) (E := E) hK) ha he) fun q H Q h => T.imp (T.seq' h) fun v H1 ⟨W, r, S, x, rel, rx, k⟩ => ⟨W, S, x, rel.st, rx, k⟩
theorem k_notT (ha : L2.PT X e (TB G E ga)) : L2.PT X (.UnaryOp .Not e pos) (TB G E fun r S => (ga r S).bind fun b S1 => .ok (!b) S1) :=
  DL.PT.imp (pt_not ha) fun q H Q h => T.imp (T.seq' h) fun v H1 ⟨W, r, S, x, rel, rx, k⟩ => by
    subst rx
    exact k.done rel.st rfl
theorem k_ite (hc : L2.PT X e1 (TB G E ga)) (ha : PE X e2 (TD G E fa)) (hb : PE X e3 (TD G E fb)) : PE X (.IfExp e1 e2 e3 pos) (TD G E fun r S => (ga r S).bind fun k S1 => if k then fa r S1 else fb r S1) :=
  PE.imp (pe_ifExp hc ha hb) fun q H Q h => T.imp (T.seq (p := repB) h) fun v H1 ⟨W, r, S, x, rel, rx, k⟩ => by
    subst rx
    cases v with
    | true => exact ⟨W, r, S, rel, k⟩
    | false => exact ⟨W, r, S, rel, k⟩
/-! and, or -/
theorem k_and1 {op : PySem.BoolOp} (ha : PE X e (TD G E fa)) : PE X (.BoolOp op [e] pos) (TD G E fa) := pe_one ha
theorem k_and {es : List Expr} (hK : G.K = X.K) (ha : PE X e1 (TD G E fa)) (hb : PE X (.BoolOp .And (e2 :: es) pos) (TD G E fb)) :
    PE X (.BoolOp .And (e1 :: e2 :: es) pos) (TD G E fun r S => (fa r S).bind fun d S1 => (truD d S1).bind fun k S2 => if k then fb r S2 else .ok d S2) :=
  PE.imp (L2.pe_andT ha hb) fun q H Q h => T.imp (T.seq (p := Rp G) h) fun v H1 ⟨W, r, S, x, rel, rx, k⟩ => by
    cases hk : truD x S with
    | ok b S' =>
      rw [hk] at k
      have e := truD_same hk
      subst e
      refine ⟨b, by rw [← hK]; exact tru_v rel.st rx hk, ?_⟩
      cases b with
      | true => exact ⟨W, r, S', rel, k⟩
      | false => exact k.done rel.st rx
    | err n fs S' =>
      unfold truD at hk
      split at hk <;> first | (cases hk; done) | (split at hk <;> cases hk)
    | bad =>
      rw [hk] at k
      exact k.no
theorem k_or {es : List Expr} (hK : G.K = X.K) (ha : PE X e1 (TD G E fa)) (hb : PE X (.BoolOp .Or (e2 :: es) pos) (TD G E fb)) :
    PE X (.BoolOp .Or (e1 :: e2 :: es) pos) (TD G E fun r S => (fa r S).bind fun d S1 => (truD d S1).bind fun k S2 => if k then .ok d S2 else fb r S2) :=
  PE.imp (L2.pe_orT ha hb) fun q H Q h => T.imp (T.seq (p := Rp G) h) fun v H1 ⟨W, r, S, x, rel, rx, k⟩ => by
    cases hk : truD x S with
    | ok b S' =>
      rw [hk] at k
      have e := truD_same hk
      subst e
      refine ⟨b, by rw [← hK]; exact tru_v rel.st rx hk, ?_⟩
      cases b with
      | true => exact k.done rel.st rx
      | false => exact ⟨W, r, S', rel, k⟩
    | err n fs S' =>
      unfold truD at hk
      split at hk <;> first | (cases hk; done) | (split at hk <;> cases hk)
    | bad =>
      rw [hk] at k
      exact k.no
theorem k_all0 {op : PySem.BoolOp} (ha : L2.PT X e (TB G E ga)) : PW X (.BoolOp .And [e] pos) (TB G E fun r S => (ga r S).bind fun k S1 => if k then .ok true S1 else .ok false S1) :=
  ⟨fun wh pins s σ H Q I h => (pw_and1 ha).run wh pins s σ H Q I (T.congr h fun r S => by
    cases ga r S with
    | ok k S1 => cases k <;> rfl
    | err _ _ _ => rfl
    | bad => rfl)⟩
theorem k_any0 {op : PySem.BoolOp} (ha : L2.PT X e (TB G E ga)) : PW X (.BoolOp .Or [e] pos) (TB G E fun r S => (ga r S).bind fun k S1 => if k then .ok true S1 else .ok false S1) :=
  ⟨fun wh pins s σ H Q I h => (pw_or1 ha).run wh pins s σ H Q I (T.congr h fun r S => by
    cases ga r S with
    | ok k S1 => cases k <;> rfl
    | err _ _ _ => rfl
    | bad => rfl)⟩
theorem k_all {es : List Expr} (ha : L2.PT X e1 (TB G E ga)) (hb : PW X (.BoolOp .And (e2 :: es) pos) (TB G E gb)) :
    PW X (.BoolOp .And (e1 :: e2 :: es) pos) (TB G E fun r S => (ga r S).bind fun k S1 => if k then gb r S1 else .ok false S1) :=
  ⟨fun wh pins s σ H Q I h => (pw_and ha hb).run wh pins s σ H Q I (T.imp (T.seq (p := repB) h) fun v H1 ⟨W, r, S, x, rel, rx, k⟩ => by
    subst rx
    cases v with
    | true => exact ⟨W, r, S, rel, k⟩
    | false => exact k.done rel.st rfl)⟩
theorem k_any {es : List Expr} (ha : L2.PT X e1 (TB G E ga)) (hb : PW X (.BoolOp .Or (e2 :: es) pos) (TB G E gb)) :
    PW X (.BoolOp .Or (e1 :: e2 :: es) pos) (TB G E fun r S => (ga r S).bind fun k S1 => if k then .ok true S1 else gb r S1) :=
  ⟨fun wh pins s σ H Q I h => (pw_or ha hb).run wh pins s σ H Q I (T.imp (T.seq (p := repB) h) fun v H1 ⟨W, r, S, x, rel, rx, k⟩ => by
    subst rx
    cases v with
    | true => exact k.done rel.st rfl
    | false => exact ⟨W, r, S, rel, k⟩)⟩
/-! arguments, displays -/
theorem k_nil : PA X [] (TDs G E fun _ S => .ok [] S) := PA.imp pa_nil fun q H Q ⟨W, r, S, rel, p⟩ => p.done rel.st Rps.nil
theorem k_cons {es : List Expr} {f : M (List D)} (ha : PE X e (TD G E fa)) (hb : PA X es (TDs G E f)) (hs : starEach (e :: es) X.env = (false, eval e X.env) :: starEach es X.env) :
    PA X (e :: es) (TDs G E fun r S => (fa r S).bind fun d S1 => (f r S1).bind fun ds S2 => .ok (d :: ds) S2) :=
  PA.imp (pa_cons ha hb hs) fun q H Q h => T.imp (T.two' (g := D) mono_D h) fun v H1 h1 => T.imp h1 fun u H2 ⟨W, r, S, x, y, rel, rx, ry, k⟩ => k.done rel.st (Rps.cons rx ry)
theorem k_tup {es : List Expr} {n : Nat} {f : M (List D)} (hl : es.length ≤ 1000000) (hn : ∀ r S ds S', f r S = .ok ds S' → ds.length = es.length) (h : PA X es (TDs G E f)) : PE X (.Tuple es n pos) (TD G E fun r S => (f r S).bind fun ds S1 => .ok (.tup ds) S1) :=
  PE.imp (pe_tup h) fun q H Q ⟨W, r, S, rel, p⟩ => ⟨W, r, S, rel, Post.imp (Post.bind (p := Rps G) p) fun vs H1 ⟨W1, ds, S1, ext, st, rs, eq, k⟩ => ⟨by rw [rs.length, hn _ _ _ _ eq]; exact sz hl, out_tup st k rs⟩⟩
theorem k_lst {es : List Expr} {f : M (List D)} (hl : es.length ≤ 1000000) (hn : ∀ r S ds S', f r S = .ok ds S' → ds.length = es.length) (h : PA X es (TDs G E f)) : PE X (.List es pos) (TD G E fun r S => (f r S).bind fun ds S1 => .ok (.lst ds) S1) :=
  PE.imp (pe_lst h) fun q H Q ⟨W, r, S, rel, p⟩ => ⟨W, r, S, rel, Post.imp (Post.bind (p := Rps G) p) fun vs H1 ⟨W1, ds, S1, ext, st, rs, eq, k⟩ => ⟨by rw [rs.length, hn _ _ _ _ eq]; exact sz hl, out_lst st k rs⟩⟩
theorem out_new {W : Wd} {H : Hp} {S : Sto} {ds : List D} {vs : List V} {Q : VK} (st : StoR G W H S) (p : Post G E (Rp G) W H (.ok (.ref S.length) (S ++ [.lst ds])) Q) (r : Rps G W H ds vs) : ∀ a, H a = none → Q (.ref a) (upd H a (.lst vs)) := fun a ha => by
  have x : Ext W H ⟨W.t ++ [a], W.b⟩ (upd H a (.lst vs)) := Ext.push ha
  refine p _ _ _ x (st.push ha ⟨vs, upd_same, Rps.ext x _ _ r⟩) ?_
  simp only [Rp]
  exact ⟨a, rfl, by rw [← st.len]; simp⟩
theorem k_new {es : List Expr} {f : M (List D)} (hl : es.length ≤ 1000000) (hn : ∀ r S ds S', f r S = .ok ds S' → ds.length = es.length) (h : PA X es (TDs G E f)) : PE X (.List es pos) (TD G E fun r S => (f r S).bind fun ds S1 => .ok (.ref S1.length) (S1 ++ [.lst ds])) :=
  PE.imp (pe_lst h) fun q H Q ⟨W, r, S, rel, p⟩ => ⟨W, r, S, rel, Post.imp (Post.bind (p := Rps G) p) fun vs H1 ⟨W1, ds, S1, ext, st, rs, eq, k⟩ => ⟨by rw [rs.length, hn _ _ _ _ eq]; exact sz hl, out_new st k rs⟩⟩
/-! subscripts -/
theorem k_ix (hK : G.K = X.K) (ha : PE X e1 (TD G E fa)) (hb : PE X e2 (TD G E fb)) (hs : PlainIx e2) : PE X (.Subscript e1 e2 pos) (TD G E fun r S => (fa r S).bind fun x S1 => (fb r S1).bind fun y S2 => fIx x y S2) :=
  PE.imp (pe_ix (ixr hK) ha hb hs) fun _ _ _ h => tOp_of h
theorem k_o0 : PO X none (T G E repO fun _ S => .ok none S) := by
  refine ⟨fun pins s σ H Q I ⟨W, r, S, rel, p⟩ => po_none.run pins s σ H Q I (p.done rel.st rfl)⟩
theorem k_o1 (ha : PE X e (TD G E fa)) : PO X (some e) (T G E repO fun r S => (fa r S).bind fun d S1 => match d with
    | .int i => .ok (some i) S1
    | _ => .bad) :=
  ⟨fun pins s σ H Q I h => (po_some ha).run pins s σ H Q I (T.imp (T.seq' (p := Rp G) h) fun v H1 ⟨W, r, S, x, rel, rx, k⟩ => by
    split at k
    · exact ⟨_, rp_int rx, k.done rel.st rfl⟩
    · exact k.no)⟩
theorem k_sl {lo hi : Option Expr} {fl fh : M (Option Int)} {p2 : Pos} (hK : G.K = X.K) (ha : PE X e (TD G E fa)) (hl : PO X lo (T G E repO fl)) (hh : PO X hi (T G E repO fh)) :
    PE X (.Subscript e (.Slice lo hi none p2) pos) (TD G E fun r S => (fa r S).bind fun x S1 => (fl r S1).bind fun l S2 => (fh r S2).bind fun u S3 => fSl x l u S3) :=
  PE.imp (pe_slice (sl_ok (G := G) (E := E) hK) ha hl hh) fun q H Q h => T.imp (T.two (g := D) mono_D h) fun v H1 h1 => T.imp h1 fun u H2 ⟨W, r, S, x, y, rel, rx, ry, k⟩ => by
    subst ry
    exact ⟨W, r, S, rel, Post.imp (Post.thn (p := repO) k) fun w H3 ⟨W3, z, S3, ext, st, rz, k3⟩ => by
      subst rz
      exact ⟨W3, S3, x, st, Rp.ext ext _ _ rx, k3⟩⟩
end
end DL
set_option Elab.async false
set_option linter.all false
set_option maxRecDepth 100000
set_option maxHeartbeats 4000000
/-! DL7: calls, walked things, comprehensions. -/
namespace DL
open PySem PySem.Spec PyProof.Rows L2

/-! ### calls of defs -/
/-- the promise that a function of values makes -/
def spOf (G : Gb) (F : List D → Sto → Re D) : Sp := fun vs H Q E => ∃ W S ds, StoR G W H S ∧ Rps G W H ds vs ∧ Post G E (Rp G) W H (F ds S) Q
section
variable {X : Cx} {G : Gb} {E : XK} {e e1 e2 e3 : Expr} {es : List Expr} {pos p : Pos} {fa fb fc : M D} {f : M (List D)} {x : Str}
theorem k_call {n : Nat} {a : Addr} {fd : FuncData} {ps : List Str} {F : List D → Sto → Re D} (FO : FnOk X.prog X.w X.K X.mg X.base (L2.CX X.prog X.w) n a fd ps (spOf G F)) (hr : Room n X.A) (hg : Gl X x) (hm : X.mg x = some (.ref a))
    (hk : PySem.W.keepIn X.K (.ref a) = true) (hb : Binds X.K fd ps []) (hx : Passes (L2.CX X.prog X.w) X E) (ha : PA X (e :: es) (TDs G E f)) (hdb : (x == ("__debug__" : Str)) = false)
    (he : starEach (e :: es) X.env = (false, eval e X.env) :: starEach es X.env) (hpl : (backTo pos (starEach es X.env)).any (·.1) = false) :
    PE X (.Call (.Name x p) (e :: es) [] pos) (TD G E fun r S => (f r S).bind fun ds S1 => F ds S1) :=
  PE.imp (pe_call FO hr hg hm hk hb .nil hx ha hdb he hpl) fun q H Q h => T.imp (T.seq' h) fun vs H1 ⟨W, r, S, x, rel, rx, k⟩ => ⟨W, S, x, rel.st, by rw [List.append_nil]; exact rx, k⟩
theorem k_call0 {n : Nat} {a : Addr} {fd : FuncData} {ps : List Str} {F : List D → Sto → Re D} (FO : FnOk X.prog X.w X.K X.mg X.base (L2.CX X.prog X.w) n a fd ps (spOf G F)) (hr : Room n X.A) (hg : Gl X x) (hm : X.mg x = some (.ref a))
    (hk : PySem.W.keepIn X.K (.ref a) = true) (hb : Binds X.K fd ps []) (hx : Passes (L2.CX X.prog X.w) X E) (hdb : (x == ("__debug__" : Str)) = false) :
    PE X (.Call (.Name x p) [] [] pos) (TD G E fun _ S => F [] S) :=
  PE.imp (pe_call0 FO hr hg hm hk hb .nil hx hdb) fun q H Q ⟨W, r, S, rel, k⟩ => ⟨W, S, [], rel.st, by rw [List.append_nil]; exact Rps.nil, k⟩
/-- a def that a local name holds -/
theorem k_callv {n i : Nat} {F : Nat → List D → Sto → Re D} (FO : ∀ m a, G.fa m = some a → ∃ fd ps, FnOk X.prog X.w X.K X.mg X.base (L2.CX X.prog X.w) n a fd ps (spOf G (F m)) ∧ PySem.W.keepIn X.K (.ref a) = true ∧ Binds X.K fd ps []) (hr : Room n X.A)
    (hN : X.N[i]? = some x) (hv : Vis X.env.scope x) (hx : Passes (L2.CX X.prog X.w) X E) (ha : PA X (e :: es) (TDs G E f)) (hdb : (x == ("__debug__" : Str)) = false) (hcd : (x == ("__classdict__" : Str)) = false)
    (he : starEach (e :: es) X.env = (false, eval e X.env) :: starEach es X.env) (hpl : (backTo pos (starEach es X.env)).any (·.1) = false) :
    PE X (.Call (.Name x p) (e :: es) [] pos) (TD G E fun r S => match r[i]? with
      | some (some (.fn m)) => (f r S).bind fun ds S1 => F m ds S1
      | _ => .bad) := by
  refine ⟨fun pins s σ H Q I ⟨W, r, S, rel, k⟩ => ?_⟩
  dsimp only at k
  split at k
  · rename_i m hm
    obtain ⟨v, h1, h2⟩ := rel.sl.at_ i _ hm
    obtain ⟨a, rfl, h3⟩ := rp_fn h2
    obtain ⟨fd, ps, FO, hk, hb⟩ := FO m a h3
    refine (pe_callL FO hr hN hv hk hb .nil hx ha hdb hcd he hpl).run pins s σ H Q I ⟨h1, ?_⟩
    have h : TD G E (fun r S => (f r S).bind fun ds S1 => F m ds S1) σ H Q := ⟨W, r, S, rel, k⟩
    exact T.imp (T.seq' h) fun vs H1 ⟨W, r, S, x, rel, rx, k⟩ => ⟨W, S, x, rel.st, by rw [List.append_nil]; exact rx, k⟩
  · exact k.no
/-- a built-in -/
theorem k_blt {id : String} {g : List D → Sto → Re D} (hc : CallR X (.builtin id) (rC G E g)) (hg : Gl X x) (hm : X.mg x = none) (hv : bootBuiltins x = some (.builtin id)) (ha : PA X (e :: es) (TDs G E f)) (hn : x ≠ "__name__") (hdb : (x == ("__debug__" : Str)) = false)
    (he : starEach (e :: es) X.env = (false, eval e X.env) :: starEach es X.env) (hpl : (backTo pos (starEach es X.env)).any (·.1) = false) :
    PE X (.Call (.Name x p) (e :: es) [] pos) (TD G E fun r S => (f r S).bind fun ds S1 => g ds S1) :=
  PE.imp (pe_callB hc hg hm hv ha hn hdb he hpl) fun q H Q h => T.imp (T.seq' h) fun vs H1 ⟨W, r, S, x, rel, rx, k⟩ => ⟨W, S, x, rel.st, rx, k⟩
theorem k_bty {id : String} {g : List D → Sto → Re D} (hc : CallR X (.type id) (rC G E g)) (hg : Gl X x) (hm : X.mg x = none) (hv : bootBuiltins x = some (.type id)) (ha : PA X (e :: es) (TDs G E f)) (hn : x ≠ "__name__") (hdb : (x == ("__debug__" : Str)) = false)
    (he : starEach (e :: es) X.env = (false, eval e X.env) :: starEach es X.env) (hpl : (backTo pos (starEach es X.env)).any (·.1) = false) :
    PE X (.Call (.Name x p) (e :: es) [] pos) (TD G E fun r S => (f r S).bind fun ds S1 => g ds S1) :=
  PE.imp (pe_callTy hc hg hm hv ha hn hdb he hpl) fun q H Q h => T.imp (T.seq' h) fun vs H1 ⟨W, r, S, x, rel, rx, k⟩ => ⟨W, S, x, rel.st, rx, k⟩
/-- isinstance of a built-in type -/
theorem k_isi {ty : Str} {T0 : String} {p2 : Pos} (hK : G.K = X.K) (hg : Gl X "isinstance") (hm : X.mg "isinstance" = none) (hg2 : Gl X ty) (hm2 : X.mg ty = none) (hv2 : bootBuiltins ty = some (.type T0)) (hn2 : ty ≠ "__name__") (hdb2 : (ty == ("__debug__" : Str)) = false)
    (hv : bootBuiltins "isinstance" = some (.builtin "isinstance")) (ha : PE X e (TD G E fa)) (he : starEach [e, .Name ty p2] X.env = (false, eval e X.env) :: starEach [.Name ty p2] X.env) :
    PE X (.Call (.Name "isinstance" p) [e, .Name ty p2] [] pos) (TD G E fun r S => (fa r S).bind fun d S1 => fIsi T0 d S1) := by
  refine PE.imp (pe_callB call_isi hg hm hv (pa_cons ha (pa_cons (pe_bltn (v := .ty T0) hg2 hm2 hv2 rfl hn2 hdb2) pa_nil) he) (by decide +kernel) (by decide +kernel) he rfl) fun q H Q h => T.imp (T.seq' h) fun v H1 ⟨W, r, S, d, rel, rd, k⟩ => ?_
  unfold fIsi at k
  split at k
  · rename_i a ha
    split at k
    · rename_i ht
      obtain ⟨tx, hm⟩ := tyX_of rel.st ha rd
      refine ⟨v, .ty T0, .type a, .type T0, isT a T0, rfl, .ty T0, by rw [← hK]; exact tx, kit_ty (kitB_ok a hm T0 (by simpa using ht)), k.done rel.st mk_bl⟩
    · exact k.no
  · exact k.no
/-- a method of a built-in type -/
theorem mtOk_ty {W : Wd} {H : Hp} {S : Sto} {d : D} {v : V} {m : Mt} (st : StoR G W H S) (r : Rp G W H d v) (h : mtOk m d S = true) : tyV G.K (mtT m) v H := by
  unfold mtOk at h
  split at h
  · rename_i ds he
    obtain ⟨a, vs, rfl, pa, ra⟩ := rd_lst st he r
    exact .inl ⟨by simpa using h, vs, SqL.of pa⟩
  · rename_i y he
    have he := vw_of he (by simp)
    subst he
    cases rp_str r
    show mtT m = "str"
    simpa using h
  · cases h
theorem k_mth0 {m : Mt} {name : Str} {id : String} {apos : Pos} (hK : G.K = X.K) (pa : PlainAttrs (mtT m)) (slot : Slot (mtT m) name id) (hty : typeOf (.builtin id) = pure (.type "method_descriptor")) (hm : MtR X id (rM G E (mtF m))) (ho : PE X e (TD G E fa))
    (hbase : attributeBase e name X.env (eval e X.env) = eval e X.env) (hline : (apos.endLine == pos.line) = true) :
    PE X (.Call (.Attribute e name apos) [] [] pos) (TD G E fun r S => (fa r S).bind fun d S1 => if mtOk m d S1 then mtF m d [] S1 else .bad) :=
  PE.imp (pe_bm0 pa slot hty hm ho hbase hline) fun q H Q h => T.imp (T.seq' h) fun v H1 ⟨W, r, S, d, rel, rd, k⟩ => by
    split at k
    · rename_i hok
      exact ⟨by rw [← hK]; exact mtOk_ty rel.st rd hok, W, S, d, [], rel.st, rd, Rps.nil, k⟩
    · exact k.no
theorem k_mth {m : Mt} {name : Str} {id : String} {apos : Pos} (hK : G.K = X.K) (pa : PlainAttrs (mtT m)) (slot : Slot (mtT m) name id) (hty : typeOf (.builtin id) = pure (.type "method_descriptor")) (hm : MtR X id (rM G E (mtF m))) (ho : PE X e (TD G E fa))
    (ha : PA X (e1 :: es) (TDs G E f)) (hbase : attributeBase e name X.env (eval e X.env) = eval e X.env)
    (hfew : ((backTo pos (starEach (e1 :: es) X.env)).all (fun x => !x.1) && (backToKw pos (keywordEach [] X.env)).all (fun x => x.1.isSome) && decide ((e1 :: es).length + ([] : List Keyword).length + (if ([] : List Keyword).isEmpty then 0 else 1) < 30)) = true)
    (hline : (apos.endLine == pos.line) = true) (hs : starEach (e1 :: es) X.env = (false, eval e1 X.env) :: starEach es X.env) (hplain : (backTo pos (starEach es X.env)).any (·.1) = false) :
    PE X (.Call (.Attribute e name apos) (e1 :: es) [] pos) (TD G E fun r S => (fa r S).bind fun d S1 => if mtOk m d S1 then (f r S1).bind fun ds S2 => mtF m d ds S2 else .bad) :=
  PE.imp (pe_bm pa slot hty hm ho ha hbase hfew hline hs hplain) fun q H Q h => T.imp (T.seq (p := Rp G) h) fun v H1 ⟨W, r, S, d, rel, rd, k⟩ => by
    split at k
    · rename_i hok
      refine ⟨by rw [← hK]; exact mtOk_ty rel.st rd hok, W, r, S, rel, Post.imp (Post.thn (p := Rps G) k) fun vs H2 ⟨W2, ds, S2, ext, st, rs, k2⟩ => ?_⟩
      exact ⟨W2, S2, d, ds, st, Rp.ext ext _ _ rd, rs, k2⟩
    · exact k.no
end

/-! ### walked things -/
/-- the items x.1 are walked by J, while the guard x.2 holds -/
def repI (G : Gb) : Rep (List D × Gd) It := fun W H x J => ∃ (Gh : Hp → Prop) (Y : Nat → Hp → V → Hp → Prop), Walk J x.1.length Gh Y ∧
  (∀ W1 H1 S1, ExtW W H W1 H1 → StoR G W1 H1 S1 → gdOk x.2 S1 → Gh H1) ∧
  (∀ i W1 H1 S1 v H2, i < x.1.length → ExtW W H W1 H1 → StoR G W1 H1 S1 → gdOk x.2 S1 → Y i H1 v H2 → ∃ d, x.1[i]? = some d ∧ Ext W1 H1 W1 H2 ∧ StoR G W1 H2 S1 ∧ Rp G W1 H2 d v)
theorem mono_I {G : Gb} : Mono (repI G) := fun W W' H H' x J e h => by
  obtain ⟨Gh, Y, w, h1, h2⟩ := h
  exact ⟨Gh, Y, w, fun W1 H1 S1 x1 => h1 W1 H1 S1 (e.w.trans x1), fun i W1 H1 S1 v H2 hi x1 => h2 i W1 H1 S1 v H2 hi (e.w.trans x1)⟩
abbrev TIt (G : Gb) (E : XK) (f : M (List D × Gd)) : TI := T G E (repI G) f
section
variable {G : Gb} {W : Wd} {H : Hp} {S : Sto}
theorem Rps.get' {ds : List D} {vs : List V} {i : Nat} {v : V} (r : Rps G W H ds vs) (h : vs[i]? = some v) : ∃ d, ds[i]? = some d ∧ Rp G W H d v := by
  have hi : i < ds.length := by
    rw [← r.length]
    exact (List.getElem?_eq_some_iff.mp h).1
  obtain ⟨u, h1, h2⟩ := r.get (i := i) (d := ds[i]) (by simp [hi])
  rw [h] at h1
  cases h1
  exact ⟨ds[i], by simp [hi], h2⟩
theorem rep_tup {a : Addr} {ds : List D} {vs : List V} (p : DL.PT G.K W H a vs) (r : Rps G W H ds vs) : repI G W H (ds, none) (Itt G.K a) := by
  refine ⟨fun H1 => SqT G.K H1 a vs, YAt vs, by rw [show (ds, (none : Gd)).1.length = vs.length from r.length.symm]; exact walk_tup, fun W1 H1 S1 x st _ => (p.extw x).sq, fun i W1 H1 S1 v H2 hi x st _ y => ?_⟩
  obtain ⟨rfl, hv⟩ := y
  obtain ⟨d, h1, h2⟩ := (Rps.extw x _ _ r).get' hv
  exact ⟨d, h1, Ext.refl _ _, st, h2⟩
theorem rep_lst {a : Addr} {ds : List D} {vs : List V} (p : PL W H a vs) (r : Rps G W H ds vs) : repI G W H (ds, none) (Itl G.K a) := by
  refine ⟨fun H1 => SqL G.K H1 a vs, YAt vs, by rw [show (ds, (none : Gd)).1.length = vs.length from r.length.symm]; exact walk_list, fun W1 H1 S1 x st _ => (p.extw x).sq, fun i W1 H1 S1 v H2 hi x st _ y => ?_⟩
  obtain ⟨rfl, hv⟩ := y
  obtain ⟨d, h1, h2⟩ := (Rps.extw x _ _ r).get' hv
  exact ⟨d, h1, Ext.refl _ _, st, h2⟩
theorem rep_scr {a : Addr} {ns : List Int} (p : PZ G.K W H a (ns.map V.int)) : repI G W H (ns.map D.int, none) (Itl G.K a) := by
  have r : Rps G W H (ns.map D.int) (ns.map V.int) := rps_ints ns
  refine ⟨fun H1 => SqL G.K H1 a (ns.map V.int), YAt (ns.map V.int), by rw [show (ns.map D.int, (none : Gd)).1.length = (ns.map V.int).length from r.length.symm]; exact walk_list, fun W1 H1 S1 x st _ => (p.extw x).sq, fun i W1 H1 S1 v H2 hi x st _ y => ?_⟩
  obtain ⟨rfl, hv⟩ := y
  obtain ⟨d, h1, h2⟩ := (Rps.extw x _ _ r).get' hv
  exact ⟨d, h1, Ext.refl _ _, st, h2⟩
theorem rep_ref {a : Addr} {i : Nat} {ds : List D} (h : W.t[i]? = some a) : repI G W H (ds, some (i, ds)) (Itl G.K a) := by
  have key : ∀ W1 H1 S1, ExtW W H W1 H1 → StoR G W1 H1 S1 → gdOk (some (i, ds)) S1 → ∃ vs, H1 a = some (.lst vs) ∧ Rps G W1 H1 ds vs := fun W1 H1 S1 x st g => st.ob i a _ (x.at h) g
  refine ⟨fun H1 => ∃ vs, SqL G.K H1 a vs ∧ vs.length = ds.length ∧ H1 a = some (.lst vs), fun j H1 v H2 => H2 = H1 ∧ ∀ vs, SqL G.K H1 a vs → vs[j]? = some v, ⟨fun j H1 hj ⟨vs, q, hl, _⟩ => ?_, fun H1 ⟨vs, q, hl, _⟩ => ⟨vs, q, by rw [hl]; exact Nat.le_refl _⟩, fun j H1 v H2 _ _ y => y⟩, fun W1 H1 S1 x st g => ?_, fun j W1 H1 S1 v H2 hi x st g y => ?_⟩
  · have hj : j < ds.length := hj
    exact ⟨vs, vs[j]'(by omega), q, by simp [show j < vs.length by omega]⟩
  · obtain ⟨vs, h1, h2⟩ := key W1 H1 S1 x st g
    exact ⟨vs, SqL.of h1, h2.length, h1⟩
  · obtain ⟨vs, h1, h2⟩ := key W1 H1 S1 x st g
    obtain ⟨rfl, y⟩ := y
    obtain ⟨d, h3, h4⟩ := h2.get' (y vs (SqL.of h1))
    exact ⟨d, h3, Ext.refl _ _, st, h4⟩
theorem rep_str {s : List Nat} : repI G W H (s.map fun c => D.str [c], none) (Its ⟨s.toArray⟩) := by
  refine ⟨fun _ => True, _, by rw [show (s.map (fun c => D.str [c]), (none : Gd)).1.length = (⟨s.toArray⟩ : Str).cps.size by simp]; exact walk_str, fun _ _ _ _ _ _ => True.intro, fun i W1 H1 S1 v H2 hi x st _ y => ?_⟩
  obtain ⟨rfl, c, hc, rfl⟩ := y
  have hc : s[i]? = some c := by simpa using hc
  exact ⟨.str [c], by simp [hc], Ext.refl _ _, st, mk_str⟩
theorem rangeD_get : ∀ (n : Nat) (lo : Int) (i : Nat), i < n → (rangeD lo n)[i]? = some (.int (lo + i))
  | 0, _, _, h => absurd h (Nat.not_lt_zero _)
  | n + 1, lo, 0, _ => by simp [rangeD]
  | n + 1, lo, i + 1, h => by
    unfold rangeD
    rw [List.getElem?_cons_succ, rangeD_get n (lo + 1) i (by omega)]
    congr 2
    omega
theorem rangeD_length : ∀ (n : Nat) (lo : Int), (rangeD lo n).length = n
  | 0, _ => rfl
  | n + 1, lo => by
    unfold rangeD
    rw [List.length_cons, rangeD_length n]
theorem rep_range {lo : Int} {n : Nat} : repI G W H (rangeD lo n, none) (L2.Itr lo n) := by
  refine ⟨fun _ => True, _, by rw [show (rangeD lo n, (none : Gd)).1.length = n from rangeD_length n lo]; exact walk_range, fun _ _ _ _ _ _ => True.intro, fun i W1 H1 S1 v H2 hi x st _ y => ?_⟩
  obtain ⟨rfl, rfl⟩ := y
  have hi : i < n := by
    have : (rangeD lo n, (none : Gd)).1.length = n := rangeD_length n lo
    omega
  exact ⟨_, rangeD_get n lo i hi, Ext.refl _ _, st, mk_int⟩
theorem rev_get {α : Type} {xs : List α} {i : Nat} (h : i < xs.length) : xs.reverse[i]? = xs[xs.length - 1 - i]? := List.getElem?_reverse h
theorem rep_revL {a : Addr} {ds : List D} {vs : List V} (p : PL W H a vs) (r : Rps G W H ds vs) : repI G W H (ds.reverse, none) (Itv G.K a vs.length) := by
  refine ⟨fun H1 => SqL G.K H1 a vs, fun i H1 x H2 => H2 = H1 ∧ vs[vs.length - 1 - i]? = some x, by rw [show (ds.reverse, (none : Gd)).1.length = vs.length by rw [r.length]; simp]; exact walk_rev, fun W1 H1 S1 x st _ => (p.extw x).sq, fun i W1 H1 S1 v H2 hi x st _ y => ?_⟩
  obtain ⟨rfl, hv⟩ := y
  have hi : i < ds.length := by simpa using hi
  obtain ⟨d, h1, h2⟩ := (Rps.extw x _ _ r).get' hv
  exact ⟨d, by rw [rev_get hi, ← r.length]; exact h1, Ext.refl _ _, st, h2⟩
theorem rep_revT {a : Addr} {ds : List D} {vs : List V} (p : DL.PT G.K W H a vs) (r : Rps G W H ds vs) : repI G W H (ds.reverse, none) (RT.ItvT G.K a vs.length) := by
  refine ⟨fun H1 => SqT G.K H1 a vs, fun i H1 x H2 => H2 = H1 ∧ ∀ xs, SqT G.K H1 a xs → xs[vs.length - 1 - i]? = some x, ?_, fun W1 H1 S1 x st _ => (p.extw x).sq, fun i W1 H1 S1 v H2 hi x st _ y => ?_⟩
  · rw [show (ds.reverse, (none : Gd)).1.length = vs.length by rw [r.length]; simp]
    exact ⟨fun i H1 hi q => ⟨hi, vs, vs[vs.length - 1 - i]'(by omega), q, by simp [show vs.length - 1 - i < vs.length by omega]⟩, fun _ _ => Nat.le_refl _, fun _ _ _ _ _ _ y => y⟩
  · obtain ⟨rfl, hv⟩ := y
    have hi : i < ds.length := by simpa using hi
    obtain ⟨d, h1, h2⟩ := (Rps.extw x _ _ r).get' (hv vs (p.extw x).sq)
    exact ⟨d, by rw [rev_get hi, ← r.length]; exact h1, Ext.refl _ _, st, h2⟩
end
end DL
set_option Elab.async false
set_option linter.all false
set_option maxRecDepth 100000
set_option maxHeartbeats 4000000
/-! DL8: what for loops and comprehensions walk; comprehensions. -/
namespace DL
open PySem PySem.Spec PyProof.Rows L2
section
variable {X : Cx} {G : Gb} {E : XK} {e e1 e2 : Expr} {pos p : Pos} {fa fb : M D} {tg : Expr}
theorem k_plain (hK : G.K = X.K) (ha : PE X e (TD G E fa)) : PI X tg e (TIt G E fun r S => (fa r S).bind walk) := by
  refine ⟨fun pins s σ H R I ⟨W, r, S, rel, k⟩ => ?_⟩
  have toT : ∀ (d : D) (S1 : Sto) (Q : VK), fa r S = .ok d S1 → (∀ W' H' v, Ext W H W' H' → StoR G W' H' S1 → Rp G W' H' d v → Q v H') → TD G E fa σ H Q := fun d S1 Q e h => ⟨W, r, S, rel, by rw [e]; exact h⟩
  dsimp only at k
  cases hf : fa r S with
  | bad =>
    rw [hf] at k
    exact k.no
  | err n fs S1 =>
    rw [hf] at k
    refine (pi_tup ha).run pins s σ H R I ⟨W, r, S, rel, ?_⟩
    rw [hf]
    exact k
  | ok d S1 =>
    rw [hf] at k
    simp only [bind_ok] at k
    unfold walk at k
    split at k
    · refine (pi_tup ha).run pins s σ H R I (toT _ S1 _ hf fun W' H' v x st rd => ?_)
      obtain ⟨a, vs, rfl, pa, ra⟩ := rp_tup rd
      rw [← hK]
      exact ⟨a, rfl, ⟨vs, pa.sq⟩, k W' H' _ x st (rep_tup pa ra)⟩
    · refine (pi_list ha).run pins s σ H R I (toT _ S1 _ hf fun W' H' v x st rd => ?_)
      obtain ⟨a, vs, rfl, pa, ra⟩ := rp_lst rd
      rw [← hK]
      exact ⟨a, rfl, ⟨vs, pa.sq⟩, k W' H' _ x st (rep_lst pa ra)⟩
    · refine (pi_list ha).run pins s σ H R I (toT _ S1 _ hf fun W' H' v x st rd => ?_)
      obtain ⟨a, rfl, pa⟩ := rp_scr rd
      rw [← hK]
      exact ⟨a, rfl, ⟨_, pa.sq⟩, k W' H' _ x st (rep_scr pa)⟩
    · refine (pi_str ha).run pins s σ H R I (toT _ S1 _ hf fun W' H' v x st rd => ?_)
      cases rp_str rd
      exact ⟨_, rfl, k W' H' _ x st rep_str⟩
    · rename_i i
      split at k
      · rename_i ds hs
        refine (pi_list ha).run pins s σ H R I (toT _ S1 _ hf fun W' H' v x st rd => ?_)
        obtain ⟨a, vs, rfl, hat, hH, ra⟩ := rd_ref st hs rd
        rw [← hK]
        exact ⟨a, rfl, ⟨vs, SqL.of hH⟩, k W' H' _ x st (rep_ref hat)⟩
      · exact k.no
    · exact k.no
theorem k_range1 (hg : Gl X "range") (hm : X.mg "range" = none) (ha : PE X e (TD G E fa)) (hs : starEach [e] X.env = [(false, eval e X.env)]) : PI X tg (.Call (.Name "range" p) [e] [] pos) (TIt G E fun r S => (fa r S).bind fun x S1 => match x with
    | .int n => if n.natAbs < 4611686018427387904 then .ok (rangeD 0 n.toNat, none) S1 else .bad
    | _ => .bad) :=
  ⟨fun pins s σ H R I h => (pi_range1 hg hm (pa_cons ha pa_nil hs) hs).run pins s σ H R I (T.imp (T.seq' (p := Rp G) h) fun v H1 ⟨W, r, S, d, rel, rd, k⟩ => by
    split at k
    · rename_i n
      split at k
      · rename_i hz
        exact ⟨n, by rw [rp_int rd], by omega, by omega, k.done rel.st rep_range⟩
      · exact k.no
    · exact k.no)⟩
theorem k_range2 (hg : Gl X "range") (hm : X.mg "range" = none) (ha : PE X e1 (TD G E fa)) (hb : PE X e2 (TD G E fb)) (hs : starEach [e1, e2] X.env = [(false, eval e1 X.env), (false, eval e2 X.env)]) (hs2 : starEach [e2] X.env = [(false, eval e2 X.env)]) :
    PI X tg (.Call (.Name "range" p) [e1, e2] [] pos) (TIt G E fun r S => (fa r S).bind fun x S1 => (fb r S1).bind fun y S2 => match x, y with
    | .int n, .int m => if n.natAbs < 4611686018427387904 ∧ m.natAbs < 4611686018427387904 then .ok (rangeD n (m - n).toNat, none) S2 else .bad
    | _, _ => .bad) :=
  ⟨fun pins s σ H R I h => (pi_range2 hg hm (pa_cons ha (pa_cons hb pa_nil hs2) (by rw [hs, hs2])) hs hs2).run pins s σ H R I (T.imp (T.two' (g := D) mono_D h) fun v H1 h1 => T.imp h1 fun u H2 ⟨W, r, S, d, d2, rel, rd, rd2, k⟩ => by
    split at k
    · rename_i n m
      split at k
      · rename_i hz
        exact ⟨n, m, by rw [rp_int rd, rp_int rd2], by omega, k.done rel.st rep_range⟩
      · exact k.no
    · exact k.no)⟩
theorem k_rev (hK : G.K = X.K) (hg : Gl X "reversed") (hm : X.mg "reversed" = none) (ha : PE X e (TD G E fa)) (hs : starEach [e] X.env = (false, eval e X.env) :: starEach [] X.env) : PI X tg (.Call (.Name "reversed" p) [e] [] pos) (TIt G E fun r S => (fa r S).bind fun x S1 => match x with
    | .tup ds => .ok (ds.reverse, none) S1
    | .lst ds => .ok (ds.reverse, none) S1
    | _ => .bad) :=
  ⟨fun pins s σ H R I h => (RT.pi_revA hg hm ha hs).run pins s σ H R I (T.imp (T.seq' (p := Rp G) h) fun v H1 ⟨W, r, S, d, rel, rd, k⟩ => by
    split at k
    · obtain ⟨a, vs, rfl, pa, ra⟩ := rp_tup rd
      rw [← hK]
      exact ⟨a, vs, rfl, .inr ⟨pa.sq, k.done rel.st (rep_revT pa ra)⟩⟩
    · obtain ⟨a, vs, rfl, pa, ra⟩ := rp_lst rd
      rw [← hK]
      exact ⟨a, vs, rfl, .inl ⟨pa.sq, k.done rel.st (rep_revL pa ra)⟩⟩
    · exact k.no)⟩
end

/-! ### slots that a target stores -/
mutual
def tgIn (vs : List Nat) : Tg → Bool
  | .name i => vs.contains i
  | .tup ts => tgsIn vs ts
def tgsIn (vs : List Nat) : Tgs → Bool
  | .nil => true
  | .cons t ts => tgIn vs t && tgsIn vs ts
end
theorem wipe_set {q : L2.St} {i : Nat} {v : Option V} : ∀ {vs : List Nat}, i ∈ vs → wipe (q.set i v) vs = wipe q vs
  | [], h => by simp at h
  | u :: vs, h => by
    unfold L2.wipe
    by_cases e : i ∈ vs
    · rw [wipe_set e]
    · have z : i = u := by
        rcases List.mem_cons.mp h with z | z
        · exact z
        · exact absurd z e
      subst z
      have comm : ∀ {vs : List Nat}, i ∉ vs → wipe (q.set i v) vs = (wipe q vs).set i v := fun {vs} => by
        induction vs with
        | nil => intro _; rfl
        | cons w ws ih =>
          intro hn
          simp only [List.mem_cons, not_or] at hn
          unfold L2.wipe
          rw [ih hn.2, List.set_comm _ _ hn.1]
      rw [comm e, List.set_set]
/-! ### targets -/
/-- the reading of a target: what asg does -/
def gOf (G : Gb) (t : Tg) : TG := fun v q H Q => ∃ W r S d r2, Rel G W r S q H ∧ Rp G W H d v ∧ asg t d r = some r2 ∧ ∀ q2, SlR G W H r2 q2 → (∀ vs, tgIn vs t = true → wipe q2 vs = wipe q vs) → Q q2 H
def gsOf (G : Gb) (ts : Tgs) : TGs := fun vs q H Q => ∃ W r S ds r2, Rel G W r S q H ∧ Rps G W H ds vs ∧ asgs ts ds r = some r2 ∧ ∀ q2, SlR G W H r2 q2 → (∀ vs, tgsIn vs ts = true → wipe q2 vs = wipe q vs) → Q q2 H
section
variable {X : Cx} {G : Gb} {e : Expr} {es : List Expr} {pos : Pos}
theorem PG.imp {t t' : TG} (h : PG X e t) (k : ∀ v q H Q, t' v q H Q → t v q H Q) : PG X e t' := ⟨fun pins s q H v u Q I r hw => h.run pins s q H v u Q I r (k _ _ _ _ hw)⟩
theorem PGs.imp {t t' : TGs} (h : PGs X es t) (k : ∀ v q H Q, t' v q H Q → t v q H Q) : PGs X es t' := ⟨fun pins s q H v u Q I r hw => h.run pins s q H v u Q I r (k _ _ _ _ hw)⟩
theorem g_name {i : Nat} {x : Str} (h : PG X (.Name x pos) (gName i)) : PG X (.Name x pos) (gOf G (.name i)) :=
  PG.imp h fun v q H Q ⟨W, r, S, d, r2, rel, rd, ea, k⟩ => by
    simp only [asg, Option.some.injEq] at ea
    subst ea
    exact k _ (rel.sl.set i rd) fun vs h => wipe_set (by simpa [tgIn] using h)
theorem g_tup {ts : Tgs} {n : Nat} {kk : Nat} (hK : G.K = X.K) (hc : X.calm = true) (h : PGs X es (gsOf G ts)) (hl : ∀ ds r r2, asgs ts ds r = some r2 → ds.length = n) (hn : (assignEach es X.env).length = n) (hst : (assignEach es X.env).findIdx? (·.1) = none) :
    PG X (.Tuple es kk pos) (gOf G (.tup ts)) := by
  refine ⟨fun pins s q H v u Q I r hw => ?_⟩
  obtain ⟨W, rr, S, d, r2, rel, rd, ea, k⟩ := hw
  unfold asg at ea
  split at ea
  · rename_i ds
    obtain ⟨a, vs, rfl, pa, ra⟩ := rp_tup rd
    refine (pg_tup hc h hn hst).run pins s q H _ u Q I r ?_
    rw [← hK]
    exact ⟨a, vs, rfl, pa.sq, by rw [ra.length]; exact hl _ _ _ ea, W, rr, S, ds, r2, rel, ra, ea, fun q2 sl hw => k q2 sl fun us h => hw us (by simpa [tgIn] using h)⟩
  · rename_i ds
    obtain ⟨a, vs, rfl, pa, ra⟩ := rp_lst rd
    refine (pg_unl hc h hn hst).run pins s q H _ u Q I r ?_
    rw [← hK]
    exact ⟨a, vs, rfl, pa.sq, by rw [ra.length]; exact hl _ _ _ ea, W, rr, S, ds, r2, rel, ra, ea, fun q2 sl hw => k q2 sl fun us h => hw us (by simpa [tgIn] using h)⟩
  · cases ea
theorem g_nil : PGs X [] (gsOf G .nil) :=
  PGs.imp pgs_nil fun vs q H Q ⟨W, r, S, ds, r2, rel, rd, ea, k⟩ => by
    unfold asgs at ea
    split at ea
    · cases ea
      exact ⟨Rps.nil_iff.mp rd, k _ rel.sl fun _ _ => rfl⟩
    · cases ea
theorem g_cons {t : Tg} {ts : Tgs} (h1 : PG X e (gOf G t)) (h2 : PGs X es (gsOf G ts)) (hs : (assignEach (e :: es) X.env).map (·.2) = assign e X.env :: (assignEach es X.env).map (·.2)) : PGs X (e :: es) (gsOf G (.cons t ts)) :=
  PGs.imp (pgs_cons h1 h2 hs) fun vs q H Q ⟨W, r, S, ds, r2, rel, rd, ea, k⟩ => by
    unfold asgs at ea
    split at ea
    · rename_i d ds
      obtain ⟨v, t, rfl, r1, rs⟩ := Rps.cons_iff.mp rd
      cases e1 : asg _ d r with
      | none => rw [e1] at ea; cases ea
      | some r3 =>
        rw [e1] at ea
        exact ⟨v, t, rfl, W, r, S, d, r3, rel, r1, e1, fun q2 sl hw => ⟨W, r3, S, ds, r2, ⟨sl, rel.st⟩, rs, ea, fun q3 sl3 hw3 => k q3 sl3 fun us h => by
          simp only [tgsIn, Bool.and_eq_true] at h
          rw [hw3 us h.2, hw us h.1]⟩⟩
    · cases ea
end
/-! ### slots forgotten -/
theorem SlR.wipe {G : Gb} {W : Wd} {H : Hp} {r : Loc} {q : L2.St} (h : SlR G W H r q) : ∀ vs, SlR G W H (wipeL r vs) (wipe q vs)
  | [] => h
  | v :: vs => by
    have ih := h.wipe vs
    unfold wipeL L2.wipe
    refine ⟨by simpa using ih.len, fun j c e => ?_⟩
    by_cases z : j = v
    · subst z
      by_cases hl : j < (wipeL r vs).length
      · rw [List.getElem?_set_self hl] at e
        cases e
      · rw [List.getElem?_eq_none (by simpa using hl)] at e
        cases e
    · rw [List.getElem?_set_ne (Ne.symm z)] at e ⊢
      exact ih.at_ j c e
end DL
set_option Elab.async false
set_option linter.all false
set_option maxRecDepth 100000
set_option maxHeartbeats 4000000
/-! DL9: list comprehensions. -/
namespace DL
open PySem PySem.Spec PyProof.Rows L2

/-- a list is being made at p: base (W1, H1), now (W2, H, S), its items ds -/
def CI (G : Gb) (W1 : Wd) (H1 : Hp) (p : Addr) (W2 : Wd) (H : Hp) (S : Sto) (ds : List D) : Prop :=
  ∃ vs, Ext W1 H1 W2 H ∧ StoR G W2 H S ∧ p ∈ W2.b ∧ p ∉ W2.t ∧ H p = some (.lst vs) ∧ Rps G W2 H ds vs
section
variable {G : Gb} {W1 W2 W3 : Wd} {H1 H H3 : Hp} {p : Addr} {S S3 : Sto} {ds : List D}
theorem CI.init (st : StoR G W1 H1 S) (h : H1 p = none) : CI G W1 H1 p ⟨W1.t, p :: W1.b⟩ (upd H1 p (.lst [])) S [] :=
  ⟨[], Ext.hide h, st.hide h, List.mem_cons_self, (st.fresh h).1, upd_same, Rps.nil⟩
theorem CI.ext (c : CI G W1 H1 p W2 H S ds) (x : Ext W2 H W3 H3) (st : StoR G W3 H3 S3) : CI G W1 H1 p W3 H3 S3 ds := by
  obtain ⟨vs, e, s, h1, h2, h3, h4⟩ := c
  obtain ⟨l, eb, _⟩ := x.b
  exact ⟨vs, e.trans x, st, by rw [eb]; exact List.mem_append_right _ h1, x.out h2 h3, x.k _ _ h2 h3, Rps.ext x _ _ h4⟩
theorem Ext.hid {o : HO} (x : Ext W1 H1 W2 H) (h : H1 p = none) : Ext W1 H1 W2 (upd H p o) := by
  refine ⟨x.b, x.t, fun a u ha e => ?_, fun a u e => ?_⟩
  · rw [upd_ne (ne_of_none e h)]
    exact x.k a u ha e
  · rw [upd_ne (ne_of_none e h)]
    exact x.lv a u e
theorem CI.app {d : D} {v : V} (h0 : H1 p = none) (c : CI G W1 H1 p W2 H S ds) (r : Rp G W2 H d v) : ∃ vs, H p = some (.lst vs) ∧ vs.length = ds.length ∧ CI G W1 H1 p W2 (upd H p (.lst (vs ++ [v]))) S (ds ++ [d]) := by
  obtain ⟨vs, e, s, h1, h2, h3, h4⟩ := c
  have x : Wk W2 H W2 (upd H p (.lst (vs ++ [v]))) := Wk.upd h1
  refine ⟨vs, h3, h4.length, vs ++ [v], e.hid h0, s.wk x rfl (fun a ha => upd_ne fun z => h2 (z ▸ ha)) fun a ha => ?_, h1, h2, upd_same, (Rps.wk x _ _ h4).append (Rps.one (Rp.wk x _ _ r))⟩
  by_cases z : a = p
  · subst z
    exact ⟨_, upd_same⟩
  · rw [upd_ne z]
    exact s.liveB a ha
/-- made: a plain list, or an object of the store -/
theorem CI.fin {E : XK} {Q : VK} {trk : Bool} (st : StoR G W1 H1 S3) (h0 : H1 p = none) (c : CI G W1 H1 p W2 H S ds) (k : Post G E (Rp G) W1 H1 (pushD trk ds S) Q) : Q (.ref p) H := by
  obtain ⟨vs, e, s, h1, h2, h3, h4⟩ := c
  have hb : ∀ a ∈ W1.b, a ∈ W2.b := fun a ha => by
    obtain ⟨l, eb, _⟩ := e.b
    rw [eb]
    exact List.mem_append_right _ ha
  have np : p ∉ W1.b := (st.fresh h0).2
  cases trk with
  | false =>
    have x : Wk W2 H ⟨W2.t, W1.b⟩ H := Wk.less hb
    refine k ⟨W2.t, W1.b⟩ H (.ref p) ⟨⟨[], by simp, by simp⟩, e.t, e.k, e.lv⟩ (s.wk x rfl (fun _ _ => rfl) fun a ha => s.liveB a (hb a ha)) ?_
    simp only [Rp]
    exact ⟨p, vs, rfl, ⟨h2, np, h3⟩, Rps.wk x _ _ h4⟩
  | true =>
    have x : Wk W2 H ⟨W2.t ++ [p], W1.b⟩ H := ⟨⟨[p], rfl, fun a ha => by rw [List.mem_singleton.mp ha]; exact h1⟩, hb, fun _ _ _ _ e => e⟩
    refine k ⟨W2.t ++ [p], W1.b⟩ H (.ref p) ⟨⟨[], by simp, by simp⟩, ?_, e.k, e.lv⟩ (s.adopt h1 h2 hb ⟨vs, h3, Rps.wk x _ _ h4⟩) ?_
    · obtain ⟨l, et, n⟩ := e.t
      refine ⟨l ++ [p], by show W2.t ++ [p] = _; rw [et, List.append_assoc], fun a ha => ?_⟩
      rcases List.mem_append.mp ha with ha | ha
      · exact n a ha
      · rw [List.mem_singleton.mp ha]
        exact h0
    · simp only [Rp]
      exact ⟨p, rfl, by rw [← s.len]; simp⟩
end
theorem quiet_ok {α : Type} {r : Re α} {a : α} {S : Sto} (h : r.quiet = .ok a S) : r = .ok a S := by
  cases r with
  | ok b T => exact h
  | err _ _ _ => cases h
  | bad => cases h
theorem quiet_ne {α : Type} {r : Re α} {x : Nat} {fs : List D} {S : Sto} : r.quiet ≠ .err x fs S := by
  cases r <;> (intro h; cases h)
theorem bind_ok_inv {α β : Type} {r : Re α} {g : α → Sto → Re β} {b : β} {S : Sto} (h : r.bind g = .ok b S) : ∃ a S1, r = .ok a S1 ∧ g a S1 = .ok b S := by
  cases r with
  | ok a S1 => exact ⟨a, S1, rfl, h⟩
  | err _ _ _ => cases h
  | bad => cases h
theorem compG_ne {gd : Gd} {g : D → Sto → Re (Option D)} (hg : ∀ d S x fs S2, g d S ≠ .err x fs S2) : ∀ (its : List D) (S : Sto) (x : Nat) (fs : List D) (S2 : Sto), compG gd g its S ≠ .err x fs S2
  | [], S, x, fs, S2 => by
    unfold compG
    split <;> (intro h; cases h)
  | d :: its, S, x, fs, S2 => by
    unfold compG
    split
    · cases e : g d S with
      | err _ _ _ => exact absurd e (hg _ _ _ _ _)
      | bad => intro h; cases h
      | ok o S1 =>
        simp only [bind_ok]
        cases e2 : compG gd g its S1 with
        | err _ _ _ => exact absurd e2 (compG_ne hg its S1 _ _ _)
        | bad => intro h; cases h
        | ok r S3 => intro h; cases h
    · intro h; cases h
theorem compG_nil {gd : Gd} {g : D → Sto → Re (Option D)} {S S2 : Sto} {r : List D} (h : compG gd g [] S = .ok r S2) : gdOk gd S ∧ r = [] ∧ S2 = S := by
  unfold compG at h
  split at h
  · rename_i hg
    cases h
    exact ⟨hg, rfl, rfl⟩
  · cases h
theorem compG_cons {gd : Gd} {g : D → Sto → Re (Option D)} {d : D} {its : List D} {S S2 : Sto} {r : List D} (h : compG gd g (d :: its) S = .ok r S2) : gdOk gd S ∧ ∃ o S1 r', g d S = .ok o S1 ∧ compG gd g its S1 = .ok r' S2 ∧ r = o.toList ++ r' := by
  unfold compG at h
  split at h
  · rename_i hg
    obtain ⟨o, S1, h1, h2⟩ := bind_ok_inv h
    obtain ⟨r', S3, h3, h4⟩ := bind_ok_inv h2
    cases h4
    exact ⟨hg, o, S1, r', h1, h3, rfl⟩
  · cases h
theorem drop_get {α : Type} {l : List α} {i : Nat} {x : α} (h : l[i]? = some x) : l.drop i = x :: l.drop (i + 1) := by
  obtain ⟨hi, e⟩ := List.getElem?_eq_some_iff.mp h
  rw [List.drop_eq_getElem_cons hi, e]
/-- no exception is wished -/
abbrev E0 : XK := fun _ _ _ => False
section
variable {X : Cx} {G : Gb} {E : XK} {elt tg iter : Expr} {ifs : List Expr} {scope : Scope} {own : List (Str × Nat)} {pos : Pos} {t : Tg} {fI : M (List D × Gd)} {fc : M Bool} {fe : M D} {trk : Bool}
/-- the meaning of a comprehension of one clause -/
noncomputable def semComp (trk : Bool) (own : List Nat) (t : Tg) (fI : M (List D × Gd)) (fc : M Bool) (fe : M D) : M D := fun r S => (fI r S).bind fun w S1 =>
  if w.1.length ≤ 1000000 then
    (compG w.2 (fun x S2 => match asg t x (wipeL r own) with
      | some r2 => ((fc r2 S2).bind fun k S3 => if k then (fe r2 S3).bind fun y S4 => .ok (some y) S4 else .ok none S3).quiet
      | none => .bad) w.1 S1).bind fun ds S2 => pushD trk ds S2
  else .bad
/-- one turn of a comprehension's inner part -/
theorem turn_of {W1 : Wd} {H1 : Hp} {p : Addr} {r2 : Loc} {S2 S3 : Sto} {W2 : Wd} {H2 : Hp} {q2 : L2.St} {ds : List D} {o : Option D} {Nx : Hp → Prop} (h0 : H1 p = none) (sl : SlR G W2 H2 r2 q2) (c : CI G W1 H1 p W2 H2 S2 ds) (hl : ds.length < 1000000)
    (h : ((fc r2 S2).bind fun k S3 => if k then (fe r2 S3).bind fun y S4 => .ok (some y) S4 else .ok none S3).quiet = .ok o S3)
    (nx : ∀ W3 H3, Ext W2 H2 W3 H3 ∨ True → CI G W1 H1 p W3 H3 S3 (ds ++ o.toList) → Nx H3) :
    TB G E0 fc q2 H2 fun b H3 => if b = true then TD G E0 fe q2 H3 fun y H4 => ∃ acc, H4 p = some (.lst acc) ∧ acc.length < sizeLine ∧ Nx (upd H4 p (.lst (acc ++ [y]))) else Nx H3 := by
  obtain ⟨k, S4, hk, h⟩ := bind_ok_inv (quiet_ok h)
  have st2 : StoR G W2 H2 S2 := by
    obtain ⟨_, _, s, _⟩ := c
    exact s
  refine ⟨W2, r2, S2, ⟨sl, st2⟩, ?_⟩
  rw [hk]
  intro W3 H3 b x st hb
  subst hb
  cases b with
  | false =>
    simp only [Bool.false_eq_true, if_false] at h ⊢
    cases h
    exact nx W3 H3 (.inr trivial) (by simpa using c.ext x st)
  | true =>
    simp only [if_true] at h ⊢
    obtain ⟨y, S5, hy, h⟩ := bind_ok_inv h
    cases h
    refine ⟨W3, r2, S4, ⟨sl.ext x, st⟩, ?_⟩
    rw [hy]
    intro W4 H4 v x4 st4 rv
    obtain ⟨vs, hv, hlen, c4⟩ := ((c.ext x st).ext x4 st4).app h0 rv
    exact ⟨vs, hv, by rw [hlen]; exact szlt hl, nx W4 _ (.inr trivial) c4⟩
theorem k_comp (hK : G.K = X.K) (hc : X.calm = true) (hN : X.N.Nodup) (hi : PI X tg iter (TIt G E fI)) (ok : BlkOk X.N X.env.scope scope own) (hin : tgIn (own.map (·.2)) t = true)
    (hg : ∀ (s : Shared) (H : Hp) (C : Addr) (cl : List (Str × Addr)) (fp : List Addr), PG (X.blk s H scope (compEnvC scope cl C X.env) fp) tg (gOf G t)) (ht : ∀ (s : Shared) (H : Hp) (C : Addr) (cl : List (Str × Addr)) (fp : List Addr), PTs (X.blk s H scope (compEnvC scope cl C X.env) fp) ifs (TB G E0 fc))
    (he : ∀ (s : Shared) (H : Hp) (C : Addr) (cl : List (Str × Addr)) (fp : List Addr), PE (X.blk s H scope (compEnvC scope cl C X.env) fp) elt (TD G E0 fe)) (hs : ∀ x, foldedSetIterable iter X.env x = pure x) :
    PE X (.ListComp elt [⟨tg, iter, ifs, 0⟩] scope pos) (TD G E (semComp trk (own.map (·.2)) t fI fc fe)) ∧
    ∀ q H Q, TD G E (semComp trk (own.map (·.2)) t fI fc fe) q H Q → tLc (TIt G E fI) (gOf G t) (TB G E0 fc) (TD G E0 fe) (own.map (·.2)) q H Q := by
  have main : ∀ q H Q, TD G E (semComp trk (own.map (·.2)) t fI fc fe) q H Q → tLc (TIt G E fI) (gOf G t) (TB G E0 fc) (TD G E0 fe) (own.map (·.2)) q H Q := by
    intro q H Q h
    refine T.imp (T.seq (p := repI G) h) fun J H1 ⟨W1, r, S1, w, rel, rep, k⟩ p hp => ?_
    obtain ⟨its, gd⟩ := w
    obtain ⟨Gh, Y, wk, c1, c2⟩ := rep
    dsimp only at k c1 c2 wk
    split at k
    · rename_i hlen
      cases hr : compG gd (fun x S2 => match asg t x (wipeL r (own.map (·.2))) with
          | some r2 => ((fc r2 S2).bind fun k S3 => if k then (fe r2 S3).bind fun y S4 => .ok (some y) S4 else .ok none S3).quiet
          | none => .bad) its S1 with
      | bad =>
        rw [hr] at k
        exact k.no
      | err n fs S2 =>
        refine absurd hr (compG_ne (fun d S x fs S2 => ?_) _ _ _ _ _)
        split
        · exact quiet_ne
        · intro h; cases h
      | ok dsA SA =>
        rw [hr] at k
        simp only [bind_ok] at k
        refine lc_it wk (fun i H' => ∃ W2 S2 ds rr, CI G W1 H1 p W2 H' S2 ds ∧ ds.length ≤ i ∧ compG gd (fun x S2 => match asg t x (wipeL r (own.map (·.2))) with
          | some r2 => ((fc r2 S2).bind fun k S3 => if k then (fe r2 S3).bind fun y S4 => .ok (some y) S4 else .ok none S3).quiet
          | none => .bad) (its.drop i) S2 = .ok rr SA ∧ dsA = ds ++ rr) ⟨_, S1, [], dsA, CI.init rel.st hp, Nat.le_refl _, hr, rfl⟩ ?_ ?_ ?_
        · rintro i H' hi ⟨W2, S2, ds, rr, ci, hl, hcomp, _⟩
          obtain ⟨vs, e, s, _⟩ := id ci
          refine c1 W2 H' S2 e.w s ?_
          cases e2 : its.drop i with
          | nil =>
            rw [e2] at hcomp
            exact (compG_nil hcomp).1
          | cons d rest =>
            rw [e2] at hcomp
            exact (compG_cons hcomp).1
        · rintro i x H' H'' hi ⟨W2, S2, ds, rr, ci, hl, hcomp, eA⟩ y
          obtain ⟨vs, e, s, _⟩ := id ci
          have hd : ∃ d, its[i]? = some d := ⟨its[i], by simp [hi]⟩
          obtain ⟨d0, hd0⟩ := hd
          rw [drop_get hd0] at hcomp
          obtain ⟨hgd, o, S3, r', hstep, hrest, err⟩ := compG_cons hcomp
          obtain ⟨d, hd1, x1, st1, rd⟩ := c2 i W2 H' S2 x H'' hi e.w s hgd y
          rw [hd0] at hd1
          cases hd1
          split at hstep
          · rename_i r2 hasg
            have ci2 := ci.ext x1 st1
            refine ⟨W2, wipeL r (own.map (·.2)), S2, d0, r2, ⟨((rel.sl.ext e).ext x1).wipe _, st1⟩, rd, hasg, fun q2 sl hw => ⟨?_, ?_⟩⟩
            · rw [hw _ hin]
              have ww : ∀ (vs : List Nat) (q : L2.St), wipe (wipe q vs) vs = wipe q vs := by
                intro vs
                have idem : ∀ (us vs : List Nat) (q : L2.St), (∀ v ∈ us, v ∈ vs) → wipe (wipe q us) vs = wipe q vs := by
                  intro us
                  induction us with
                  | nil => intro vs q _; rfl
                  | cons u us ih =>
                    intro vs q hu
                    show wipe ((wipe q us).set u none) vs = _
                    rw [wipe_set (hu u List.mem_cons_self)]
                    exact ih vs q fun v hv => hu v (List.mem_cons_of_mem _ hv)
                exact fun q => idem vs vs q fun _ h => h
              exact ww _ _
            · refine turn_of hp sl ci2 (by omega) hstep fun W3 H3 _ c3 => ?_
              refine ⟨W3, S3, ds ++ o.toList, r', c3, ?_, hrest, by rw [eA, err, List.append_assoc]⟩
              rw [List.length_append]
              cases o <;> simp <;> omega
          · cases hstep
        · rintro H' ⟨W2, S2, ds, rr, ci, hl, hcomp, eA⟩
          rw [show its.drop its.length = [] by simp] at hcomp
          obtain ⟨_, rfl, rfl⟩ := compG_nil hcomp
          rw [List.append_nil] at eA
          subst eA
          exact ci.fin rel.st hp k
    · exact k.no
  exact ⟨PE.imp (pe_lc hc hN hi ok hg ht he hs) main, main⟩
end
end DL
set_option Elab.async false
set_option linter.all false
set_option maxRecDepth 100000
set_option maxHeartbeats 4000000
/-! DL10: comprehensions of two clauses. -/
namespace DL
open PySem PySem.Spec PyProof.Rows L2
theorem compL_ne {gd : Gd} {g : D → Sto → Re (List D)} (hg : ∀ d S x fs S2, g d S ≠ .err x fs S2) : ∀ (its : List D) (S : Sto) (x : Nat) (fs : List D) (S2 : Sto), compL gd g its S ≠ .err x fs S2
  | [], S, x, fs, S2 => by
    unfold compL
    split <;> (intro h; cases h)
  | d :: its, S, x, fs, S2 => by
    unfold compL
    split
    · cases e : g d S with
      | err _ _ _ => exact absurd e (hg _ _ _ _ _)
      | bad => intro h; cases h
      | ok o S1 =>
        simp only [bind_ok]
        cases e2 : compL gd g its S1 with
        | err _ _ _ => exact absurd e2 (compL_ne hg its S1 _ _ _)
        | bad => intro h; cases h
        | ok r S3 => intro h; cases h
    · intro h; cases h
theorem compL_nil {gd : Gd} {g : D → Sto → Re (List D)} {S S2 : Sto} {r : List D} (h : compL gd g [] S = .ok r S2) : gdOk gd S ∧ r = [] ∧ S2 = S := by
  unfold compL at h
  split at h
  · rename_i hg
    cases h
    exact ⟨hg, rfl, rfl⟩
  · cases h
theorem compL_cons {gd : Gd} {g : D → Sto → Re (List D)} {d : D} {its : List D} {S S2 : Sto} {r : List D} (h : compL gd g (d :: its) S = .ok r S2) : gdOk gd S ∧ ∃ o S1 r', g d S = .ok o S1 ∧ compL gd g its S1 = .ok r' S2 ∧ r = o ++ r' := by
  unfold compL at h
  split at h
  · rename_i hg
    obtain ⟨o, S1, h1, h2⟩ := bind_ok_inv h
    obtain ⟨r', S3, h3, h4⟩ := bind_ok_inv h2
    cases h4
    exact ⟨hg, o, S1, r', h1, h3, rfl⟩
  · cases h
theorem compG_length {gd : Gd} {g : D → Sto → Re (Option D)} : ∀ {its : List D} {S S2 : Sto} {r : List D}, compG gd g its S = .ok r S2 → r.length ≤ its.length
  | [], S, S2, r, h => by
    obtain ⟨_, rfl, _⟩ := compG_nil h
    exact Nat.le_refl _
  | d :: its, S, S2, r, h => by
    obtain ⟨_, o, S1, r', _, h2, rfl⟩ := compG_cons h
    have := compG_length h2
    rw [List.length_append, List.length_cons]
    cases o <;> simp <;> omega
theorem wipe_wipe (vs : List Nat) (q : L2.St) : wipe (wipe q vs) vs = wipe q vs := by
  have idem : ∀ (us vs : List Nat) (q : L2.St), (∀ v ∈ us, v ∈ vs) → wipe (wipe q us) vs = wipe q vs := by
    intro us
    induction us with
    | nil => intro vs q _; rfl
    | cons u us ih =>
      intro vs q hu
      show wipe ((wipe q us).set u none) vs = _
      rw [wipe_set (hu u List.mem_cons_self)]
      exact ih vs q fun v hv => hu v (List.mem_cons_of_mem _ hv)
  exact idem vs vs q fun _ h => h
/-- the inner loop over a walk -/
theorem lc2_inner {J : It} {n : Nat} {Gh : Hp → Prop} {Y : Nat → Hp → V → Hp → Prop} (w : Walk J n Gh Y) {g : TG} {tt : TT} {te : TE} {vs : List Nat} {σ : L2.St} {H1 : Hp} {D : Addr} {Qd : Hp → Prop} (Pv : Nat → Hp → Prop) (h0 : Pv 0 H1) (hG : ∀ i H, i ≤ n → Pv i H → Gh H)
    (hs : ∀ i x H H', i < n → Pv i H → Y i H x H' → g x (wipe σ vs) H' fun σ2 H2 => wipe σ2 vs = wipe σ vs ∧ tt σ2 H2 fun b H3 =>
      if b = true then te σ2 H3 fun y H4 => ∃ acc, H4 D = some (.lst acc) ∧ acc.length < sizeLine ∧ Pv (i + 1) (upd H4 D (.lst (acc ++ [y]))) else Pv (i + 1) H3) (hd : ∀ H, Pv n H → Qd H) :
    ∃ W : Nat → Nat → Hp → Prop, (∃ m, W 0 m H1) ∧ ∀ i m H, W i m H →
      (J.stop i H ∧ Qd H) ∨ (J.go i H ∧ ∃ Nx : Hp → Prop, (∀ H', Nx H' → ∃ m', m' < m ∧ W (i + 1) m' H') ∧ ∀ x H', J.yld i H x H' → g x (wipe σ vs) H' fun σ2 H2 => wipe σ2 vs = wipe σ vs ∧ tt σ2 H2 fun b H3 =>
        if b = true then te σ2 H3 fun y H4 => ∃ acc, H4 D = some (.lst acc) ∧ acc.length < sizeLine ∧ Nx (upd H4 D (.lst (acc ++ [y]))) else Nx H3) := by
  refine ⟨fun i m H => m = n - i ∧ i ≤ n ∧ Pv i H, ⟨n, by simp, Nat.zero_le _, h0⟩, ?_⟩
  rintro i m H ⟨rfl, hi, p⟩
  have q := hG i H hi p
  by_cases hlt : i < n
  · refine .inr ⟨w.goes i H hlt q, Pv (i + 1), fun H' p' => ⟨n - (i + 1), by omega, rfl, hlt, p'⟩, fun x H' y => hs i x H H' hlt p (w.yields i H x H' hlt q y)⟩
  · have e : i = n := by omega
    subst e
    exact .inl ⟨w.stops H q, hd H p⟩
section
variable {X : Cx} {G : Gb} {E : XK} {elt tg iter tg1 iter1 : Expr} {ifs ifs1 : List Expr} {scope : Scope} {own : List (Str × Nat)} {vs1 : List Nat} {pos : Pos} {t t1 : Tg} {fI fI1 : M (List D × Gd)} {fc fc1 : M Bool} {fe : M D} {trk : Bool}
noncomputable def inner2 (own2 : List Nat) (t2 : Tg) (fI2 : M (List D × Gd)) (fc2 : M Bool) (fe : M D) (r2 : Loc) (S3 : Sto) : Re (List D) := (fI2 r2 S3).bind fun w2 S4 =>
  if w2.1.length ≤ 1000 then
    compG w2.2 (fun x2 S5 => match asg t2 x2 (wipeL r2 own2) with
      | some r3 => ((fc2 r3 S5).bind fun k2 S6 => if k2 then (fe r3 S6).bind fun y S7 => .ok (some y) S7 else .ok none S6).quiet
      | none => .bad) w2.1 S4
  else .bad
noncomputable def semComp2 (trk : Bool) (own : List Nat) (t : Tg) (fI : M (List D × Gd)) (fc : M Bool) (own2 : List Nat) (t2 : Tg) (fI2 : M (List D × Gd)) (fc2 : M Bool) (fe : M D) : M D := fun r S => (fI r S).bind fun w S1 =>
  if w.1.length ≤ 1000 then
    (compL w.2 (fun x S2 => match asg t x (wipeL r own) with
      | some r2 => ((fc r2 S2).bind fun k S3 => if k then inner2 own2 t2 fI2 fc2 fe r2 S3 else .ok [] S3).quiet
      | none => .bad) w.1 S1).bind fun ds S2 => pushD trk ds S2
  else .bad
theorem k_comp2 (hK : G.K = X.K) (hc : X.calm = true) (hN : X.N.Nodup) (hi : PI X tg iter (TIt G E fI)) (ok : BlkOk X.N X.env.scope scope own) (hv : ∀ i ∈ vs1, i ∈ own.map (·.2)) (hin : tgIn (own.map (·.2)) t = true) (hin1 : tgIn vs1 t1 = true)
    (hg : ∀ (s : Shared) (H : Hp) (C : Addr) (cl : List (Str × Addr)) (fp : List Addr), PG (X.blk s H scope (compEnvC scope cl C X.env) fp) tg (gOf G t)) (ht : ∀ (s : Shared) (H : Hp) (C : Addr) (cl : List (Str × Addr)) (fp : List Addr), PTs (X.blk s H scope (compEnvC scope cl C X.env) fp) ifs (TB G E0 fc))
    (hi1 : ∀ (s : Shared) (H : Hp) (C : Addr) (cl : List (Str × Addr)) (fp : List Addr), PI (X.blk s H scope (compEnvC scope cl C X.env) fp) tg1 iter1 (TIt G E0 fI1))
    (hg1 : ∀ (s : Shared) (H : Hp) (C : Addr) (cl : List (Str × Addr)) (fp : List Addr), PG (X.blk s H scope (compEnvC scope cl C X.env) fp) tg1 (gOf G t1)) (ht1 : ∀ (s : Shared) (H : Hp) (C : Addr) (cl : List (Str × Addr)) (fp : List Addr), PTs (X.blk s H scope (compEnvC scope cl C X.env) fp) ifs1 (TB G E0 fc1))
    (he : ∀ (s : Shared) (H : Hp) (C : Addr) (cl : List (Str × Addr)) (fp : List Addr), PE (X.blk s H scope (compEnvC scope cl C X.env) fp) elt (TD G E0 fe)) (hs : ∀ x, foldedSetIterable iter X.env x = pure x) (hs1 : ∀ env x, foldedSetIterable iter1 env x = pure x) :
    PE X (.ListComp elt [⟨tg, iter, ifs, 0⟩, ⟨tg1, iter1, ifs1, 0⟩] scope pos) (TD G E (semComp2 trk (own.map (·.2)) t fI fc vs1 t1 fI1 fc1 fe)) ∧
    ∀ q H Q, TD G E (semComp2 trk (own.map (·.2)) t fI fc vs1 t1 fI1 fc1 fe) q H Q → tLc2 (TIt G E fI) (gOf G t) (TB G E0 fc) (TIt G E0 fI1) (gOf G t1) (TB G E0 fc1) (TD G E0 fe) (own.map (·.2)) vs1 q H Q := by
  have main : ∀ q H Q, TD G E (semComp2 trk (own.map (·.2)) t fI fc vs1 t1 fI1 fc1 fe) q H Q → tLc2 (TIt G E fI) (gOf G t) (TB G E0 fc) (TIt G E0 fI1) (gOf G t1) (TB G E0 fc1) (TD G E0 fe) (own.map (·.2)) vs1 q H Q := by
    intro q H Q h
    refine T.imp (T.seq (p := repI G) h) fun J H1 ⟨W1, r, S1, w, rel, rep, k⟩ p hp => ?_
    obtain ⟨its, gd⟩ := w
    obtain ⟨Gh, Y, wk, c1, c2⟩ := rep
    dsimp only at k c1 c2 wk
    split at k
    · rename_i hlen
      cases hr : compL gd (fun x S2 => match asg t x (wipeL r (own.map (·.2))) with
          | some r2 => ((fc r2 S2).bind fun k S3 => if k then inner2 vs1 t1 fI1 fc1 fe r2 S3 else .ok [] S3).quiet
          | none => .bad) its S1 with
      | bad =>
        rw [hr] at k
        exact k.no
      | err n fs S2 =>
        refine absurd hr (compL_ne (fun d S x fs S2 => ?_) _ _ _ _ _)
        split
        · exact quiet_ne
        · intro h; cases h
      | ok dsA SA =>
        rw [hr] at k
        simp only [bind_ok] at k
        let Pv : Nat → Hp → Prop := fun i H' => ∃ W2 S2 ds rr, CI G W1 H1 p W2 H' S2 ds ∧ ds.length ≤ i * 1000 ∧ compL gd (fun x S2 => match asg t x (wipeL r (own.map (·.2))) with
          | some r2 => ((fc r2 S2).bind fun k S3 => if k then inner2 vs1 t1 fI1 fc1 fe r2 S3 else .ok [] S3).quiet
          | none => .bad) (its.drop i) S2 = .ok rr SA ∧ dsA = ds ++ rr
        have hG : ∀ i H', Pv i H' → Gh H' := by
          rintro i H' ⟨W2, S2, ds, rr, ci, hl, hcomp, _⟩
          obtain ⟨vs, e, s, _⟩ := id ci
          refine c1 W2 H' S2 e.w s ?_
          cases e2 : its.drop i with
          | nil =>
            rw [e2] at hcomp
            exact (compL_nil hcomp).1
          | cons d rest =>
            rw [e2] at hcomp
            exact (compL_cons hcomp).1
        refine ⟨fun i m H => m = its.length - i ∧ i ≤ its.length ∧ Pv i H, ⟨its.length, by simp, Nat.zero_le _, _, S1, [], dsA, CI.init rel.st hp, by simp, hr, rfl⟩, ?_⟩
        rintro i m H' ⟨rfl, hi, pv⟩
        have q := hG i H' pv
        by_cases hlt : i < its.length
        · refine .inr ⟨wk.goes i H' hlt q, Pv (i + 1), fun H'' p' => ⟨its.length - (i + 1), by omega, rfl, hlt, p'⟩, fun x H'' y => ?_⟩
          have y := wk.yields i H' x H'' hlt q y
          obtain ⟨W2, S2, ds, rr, ci, hl, hcomp, eA⟩ := pv
          obtain ⟨vs, e, s, _⟩ := id ci
          obtain ⟨d0, hd0⟩ : ∃ d, its[i]? = some d := ⟨its[i], by simp [hlt]⟩
          rw [drop_get hd0] at hcomp
          obtain ⟨hgd, o, S3, r', hstep, hrest, err⟩ := compL_cons hcomp
          obtain ⟨d, hd1, x1, st1, rd⟩ := c2 i W2 H' S2 x H'' hlt e.w s hgd y
          rw [hd0] at hd1
          cases hd1
          split at hstep
          · rename_i r2 hasg
            have ci2 := ci.ext x1 st1
            refine ⟨W2, wipeL r (own.map (·.2)), S2, d0, r2, ⟨((rel.sl.ext e).ext x1).wipe _, st1⟩, rd, hasg, fun q2 sl hw => ⟨by rw [hw _ hin, wipe_wipe], ?_⟩⟩
            obtain ⟨kk, S4, hk, hstep⟩ := bind_ok_inv (quiet_ok hstep)
            refine ⟨W2, r2, S2, ⟨sl, st1⟩, ?_⟩
            rw [hk]
            intro W3 H3 b x3 st3 hb
            subst hb
            have ci3 := ci2.ext x3 st3
            cases b with
            | false =>
              simp only [Bool.false_eq_true, if_false] at hstep ⊢
              cases hstep
              exact ⟨W3, _, ds, r', ci3, by omega, hrest, by rw [eA, err]; rfl⟩
            | true =>
              simp only [if_true] at hstep ⊢
              obtain ⟨w2, S5, hw2, hstep⟩ := bind_ok_inv hstep
              obtain ⟨its2, gd2⟩ := w2
              refine ⟨W3, r2, S4, ⟨sl.ext x3, st3⟩, ?_⟩
              rw [hw2]
              intro W4 H4 J1 x4 st4 rep2
              obtain ⟨Gh2, Y2, wk2, d1, d2⟩ := rep2
              dsimp only at hstep d1 d2 wk2
              split at hstep
              · rename_i hlen2
                have ci4 := ci3.ext x4 st4
                have sl4 := (sl.ext x3).ext x4
                refine lc2_inner wk2 (D := p) (fun j H' => ∃ W5 S6 es rr2, ExtW W4 H4 W5 H' ∧ SlR G W5 H' r2 q2 ∧ p ∈ W4.b ∧ CI G W1 H1 p W5 H' S6 (ds ++ es) ∧ es.length ≤ j ∧ compG gd2 (fun x2 S5 => match asg t1 x2 (wipeL r2 vs1) with
                  | some r3 => ((fc1 r3 S5).bind fun k2 S6 => if k2 then (fe r3 S6).bind fun y S7 => .ok (some y) S7 else .ok none S6).quiet
                  | none => .bad) (its2.drop j) S6 = .ok rr2 S3 ∧ o = es ++ rr2) ⟨W4, S5, [], o, (Ext.refl _ _).w, sl4, (let ⟨_, _, _, hb, _⟩ := ci4; hb), by simpa using ci4, Nat.le_refl _, hstep, rfl⟩ ?_ ?_ ?_
                · rintro j H' hj ⟨W5, S6, es, rr2, x5, sl5, hpb, ci5, hl5, hcomp5, _⟩
                  obtain ⟨_, _, s5, _⟩ := id ci5
                  refine d1 W5 H' S6 x5 s5 ?_
                  cases e2 : its2.drop j with
                  | nil =>
                    rw [e2] at hcomp5
                    exact (compG_nil hcomp5).1
                  | cons d rest =>
                    rw [e2] at hcomp5
                    exact (compG_cons hcomp5).1
                · rintro j x5 H' H5 hj ⟨W5, S6, es, rr2, xx, sl5, hpb, ci5, hl5, hcomp5, eo⟩ y5
                  obtain ⟨_, _, s5, _⟩ := id ci5
                  obtain ⟨c0, hc0⟩ : ∃ d, its2[j]? = some d := ⟨its2[j], by simp [hj]⟩
                  rw [drop_get hc0] at hcomp5
                  obtain ⟨hgd5, o5, S7, r5, hstep5, hrest5, err5⟩ := compG_cons hcomp5
                  obtain ⟨c, hc1, y1, st5, rc⟩ := d2 j W5 H' S6 x5 H5 hj xx s5 hgd5 y5
                  rw [hc0] at hc1
                  cases hc1
                  split at hstep5
                  · rename_i r3 hasg3
                    have sl6 : SlR G W5 H5 r2 q2 := sl5.ext y1
                    refine ⟨W5, wipeL r2 vs1, S6, c0, r3, ⟨sl6.wipe _, st5⟩, rc, hasg3, fun q3 sl3 hw3 => ⟨by rw [hw3 _ hin1, wipe_wipe], ?_⟩⟩
                    have ci6 := ci5.ext y1 st5
                    have hle : (ds ++ es).length < 1000000 := by
                      rw [List.length_append]
                      have : i * 1000 ≤ 999 * 1000 := Nat.mul_le_mul_right _ (by omega)
                      omega
                    obtain ⟨kk, S8, hk, hst⟩ := bind_ok_inv (quiet_ok hstep5)
                    refine ⟨W5, r3, S6, ⟨sl3, st5⟩, ?_⟩
                    rw [hk]
                    intro W6 H6 b z6 st6 hb
                    subst hb
                    have sl7 : SlR G W6 H6 r2 q2 := sl6.ext z6
                    cases b with
                    | false =>
                      simp only [Bool.false_eq_true, if_false] at hst ⊢
                      cases hst
                      exact ⟨W6, S7, es, r5, (xx.trans y1.w).trans z6.w, sl7, hpb, ci6.ext z6 st6, by omega, hrest5, by rw [eo, err5]; rfl⟩
                    | true =>
                      simp only [if_true] at hst ⊢
                      obtain ⟨yv, S9, hy, hst⟩ := bind_ok_inv hst
                      cases hst
                      refine ⟨W6, r3, S8, ⟨sl3.ext z6, st6⟩, ?_⟩
                      rw [hy]
                      intro W7 H7 v z7 st7 rv
                      obtain ⟨us, hv7, hlen7, c7⟩ := ((ci6.ext z6 st6).ext z7 st7).app hp rv
                      refine ⟨us, hv7, by rw [hlen7]; exact szlt hle, W7, S7, es ++ [yv], r5, (((xx.trans y1.w).trans z6.w).trans z7.w).upd hpb, ?_, hpb, by rw [← List.append_assoc]; exact c7, by simp; omega, hrest5, by rw [eo, err5, List.append_assoc]; rfl⟩
                      have sl8 : SlR G W7 H7 r2 q2 := sl7.ext z7
                      have hpb7 : p ∈ W7.b := let ⟨_, _, _, hb, _⟩ := c7; hb
                      exact ⟨sl8.len, fun i d e => let ⟨u, h1, h2⟩ := sl8.at_ i d e; ⟨u, h1, Rp.wk (Wk.upd hpb7) d u h2⟩⟩
                  · cases hstep5
                · rintro H' ⟨W5, S6, es, rr2, x5, sl5, hpb, ci5, hl5, hcomp5, eo⟩
                  rw [show its2.drop its2.length = [] by simp] at hcomp5
                  obtain ⟨_, rfl, rfl⟩ := compG_nil hcomp5
                  rw [List.append_nil] at eo
                  rw [← eo] at ci5 hl5
                  exact ⟨W5, _, ds ++ o, r', ci5, by rw [List.length_append]; omega, hrest, by rw [eA, err, List.append_assoc]⟩
              · cases hstep
          · cases hstep
        · have e : i = its.length := by omega
          subst e
          refine .inl ⟨wk.stops H' q, ?_⟩
          obtain ⟨W2, S2, ds, rr, ci, hl, hcomp, eA⟩ := pv
          rw [show its.drop its.length = [] by simp] at hcomp
          obtain ⟨_, rfl, rfl⟩ := compL_nil hcomp
          rw [List.append_nil] at eA
          subst eA
          exact ci.fin rel.st hp k
    · exact k.no
  exact ⟨PE.imp (pe_lc2 hc hN hi ok hv hg ht hi1 hg1 ht1 he hs hs1) main, main⟩
end
end DL
set_option Elab.async false
set_option linter.all false
set_option maxRecDepth 100000
set_option maxHeartbeats 4000000
/-! DL11: statements. -/
namespace DL
open PySem PySem.Spec PyProof.Rows L2

inductive Rs where
  | nx (r : Loc) (S : Sto)
  | ret (d : D) (S : Sto)
  | brk (r : Loc) (S : Sto)
  | ct (r : Loc) (S : Sto)
  | err (x : Nat) (fs : List D) (S : Sto)
  | bad
abbrev MS := Loc → Sto → Rs
def Re.to {a : Type} (r : Re a) (g : a → Sto → Rs) : Rs := match r with
  | .ok x S => g x S
  | .err x fs S => .err x fs S
  | .bad => .bad
@[simp] theorem to_ok {α : Type} {a : α} {S : Sto} {g : α → Sto → Rs} : (Re.ok a S).to g = g a S := rfl
@[simp] theorem to_err {α : Type} {x : Nat} {fs : List D} {S : Sto} {g : α → Sto → Rs} : (Re.err x fs S : Re α).to g = .err x fs S := rfl
@[simp] theorem to_bad {α : Type} {g : α → Sto → Rs} : (Re.bad : Re α).to g = .bad := rfl
def Rs.seq (x : Rs) (g : MS) : Rs := match x with
  | .nx r S => g r S
  | x => x
@[simp] theorem seq_nx {r : Loc} {S : Sto} {g : MS} : (Rs.nx r S).seq g = g r S := rfl
@[simp] theorem seq_ret {d : D} {S : Sto} {g : MS} : (Rs.ret d S).seq g = .ret d S := rfl
@[simp] theorem seq_brk {r : Loc} {S : Sto} {g : MS} : (Rs.brk r S).seq g = .brk r S := rfl
@[simp] theorem seq_ct {r : Loc} {S : Sto} {g : MS} : (Rs.ct r S).seq g = .ct r S := rfl
@[simp] theorem seq_err {x : Nat} {fs : List D} {S : Sto} {g : MS} : (Rs.err x fs S).seq g = .err x fs S := rfl
@[simp] theorem seq_bad {g : MS} : (Rs.bad).seq g = .bad := rfl
/-- behind a loop's turn -/
def Rs.turn (x : Rs) (g : MS) : Rs := match x with
  | .nx r S => g r S
  | .ct r S => g r S
  | .brk r S => .nx r S
  | x => x
@[simp] theorem turn_nx {r : Loc} {S : Sto} {g : MS} : (Rs.nx r S).turn g = g r S := rfl
@[simp] theorem turn_ret {d : D} {S : Sto} {g : MS} : (Rs.ret d S).turn g = .ret d S := rfl
@[simp] theorem turn_brk {r : Loc} {S : Sto} {g : MS} : (Rs.brk r S).turn g = .nx r S := rfl
@[simp] theorem turn_ct {r : Loc} {S : Sto} {g : MS} : (Rs.ct r S).turn g = g r S := rfl
@[simp] theorem turn_err {x : Nat} {fs : List D} {S : Sto} {g : MS} : (Rs.err x fs S).turn g = .err x fs S := rfl
@[simp] theorem turn_bad {g : MS} : (Rs.bad).turn g = .bad := rfl

def PostS (G : Gb) (E : XK) (W : Wd) (H : Hp) (x : Rs) (D : Ends) : Prop := match x with
  | .nx r S => ∀ W' H' q, Ext W H W' H' → Rel G W' r S q H' → D.nx q H'
  | .ret d S => ∀ W' H' v, Ext W H W' H' → StoR G W' H' S → Rp G W' H' d v → D.rt v H'
  | .brk r S => ∀ W' H' q, Ext W H W' H' → Rel G W' r S q H' → D.bk q H'
  | .ct r S => ∀ W' H' q, Ext W H W' H' → Rel G W' r S q H' → D.ct q H'
  | .err x fs S => ∀ W' H' c dd, Ext W H W' H' → StoR G W' H' S → ErrR G W' H' x fs c dd → E c dd H'
  | .bad => False
def TSm (G : Gb) (E : XK) (f : MS) : TS := fun D q H => ∃ W r S, Rel G W r S q H ∧ PostS G E W H (f r S) D
section
variable {G : Gb} {E : XK} {W W' : Wd} {H H' : Hp} {D D' : Ends}
theorem PostS.mono {x : Rs} (e : Ext W H W' H') (h : PostS G E W H x D) : PostS G E W' H' x D := by
  cases x with
  | nx r S => exact fun W2 H2 q y s => h W2 H2 q (e.trans y) s
  | ret d S => exact fun W2 H2 q y s => h W2 H2 q (e.trans y) s
  | brk r S => exact fun W2 H2 q y s => h W2 H2 q (e.trans y) s
  | ct r S => exact fun W2 H2 q y s => h W2 H2 q (e.trans y) s
  | err n fs S => exact fun W2 H2 c dd y s q => h W2 H2 c dd (e.trans y) s q
  | bad => exact h
theorem PostS.no {P : Prop} (h : PostS G E W H .bad D) : P := False.elim h
/-- an expression, then a statement's end -/
theorem PostS.of {a b : Type} {p : Rep a b} {r : Re a} {g : a → Sto → Rs} (h : PostS G E W H (r.to g) D) :
    Post G E p W H r fun v H1 => ∃ W1 x S1, Ext W H W1 H1 ∧ StoR G W1 H1 S1 ∧ p W1 H1 x v ∧ r = .ok x S1 ∧ PostS G E W1 H1 (g x S1) D := by
  cases r with
  | ok x S => exact fun W2 H2 v y s q => ⟨W2, x, S, y, s, q, rfl, PostS.mono y h⟩
  | err n fs S => exact h
  | bad => exact h
theorem TSm.seq {a b : Type} {p : Rep a b} {f : M a} {g : a → Loc → Sto → Rs} {q : L2.St} (h : TSm G E (fun r S => (f r S).to fun x S1 => g x r S1) D q H) :
    T G E p f q H fun v H1 => ∃ W1 r S1 x, Rel G W1 r S1 q H1 ∧ p W1 H1 x v ∧ PostS G E W1 H1 (g x r S1) D := by
  obtain ⟨W, r, S, rel, h⟩ := h
  refine ⟨W, r, S, rel, Post.imp (PostS.of (p := p) h) fun v H1 k => ?_⟩
  obtain ⟨W1, x, S1, ext, st, pr, _, k⟩ := k
  exact ⟨W1, r, S1, x, ⟨rel.sl.ext ext, st⟩, pr, k⟩
theorem PostS.nxd {r : Loc} {S : Sto} {q : L2.St} (h : PostS G E W H (.nx r S) D) (rel : Rel G W r S q H) : D.nx q H := h W H q (Ext.refl _ _) rel
end

section
variable {X : Cx} {G : Gb} {E : XK} {e e1 e2 : Expr} {st : Stmt} {ss sb : List Stmt} {pos : Pos} {fa fb fc : M D} {gc : M Bool} {m1 m2 : MS}
theorem k_s0 : PSs X [] (TSm G E fun r S => .nx r S) := PSs.imp pss_nil fun D q H ⟨W, r, S, rel, h⟩ => h.nxd rel
theorem k_sc (h1 : PS X st (TSm G E m1)) (h2 : PSs X ss (TSm G E m2)) : PSs X (st :: ss) (TSm G E fun r S => (m1 r S).seq m2) :=
  PSs.imp (pss_cons h1 h2) fun D q H ⟨W, r, S, rel, h⟩ => by
    refine ⟨W, r, S, rel, ?_⟩
    dsimp only at h
    cases e : m1 r S with
    | nx r2 S2 =>
      rw [e] at h
      exact fun W' H' q' x rel' => ⟨W', r2, S2, rel', PostS.mono x h⟩
    | ret d S2 => rw [e] at h; exact h
    | brk r2 S2 => rw [e] at h; exact h
    | ct r2 S2 => rw [e] at h; exact h
    | err n fs S2 => rw [e] at h; exact h
    | bad => rw [e] at h; exact h
theorem k_expr (ha : PE X e (TD G E fa)) (hs : swapsWith e none pos.line X.env = pure false) : PS X (.Expr e pos) (TSm G E fun r S => (fa r S).to fun _ S1 => .nx r S1) :=
  PS.imp (ps_expr ha hs) fun D q H h => T.imp (TSm.seq (p := Rp G) h) fun v H1 ⟨W, r, S, x, rel, rx, k⟩ => k.nxd rel
theorem k_doc {x : Str} {j : Nat} {p : Pos} : PS X (.Expr (.Constant (.str x) j p) pos) (TSm G E fun r S => .nx r S) := PS.imp ps_doc fun D q H ⟨W, r, S, rel, h⟩ => h.nxd rel
theorem k_ret (ha : PE X e (TD G E fa)) : PS X (.Return (some e) pos) (TSm G E fun r S => (fa r S).to fun d S1 => .ret d S1) :=
  PS.imp (ps_ret ha) fun D q H h => T.imp (TSm.seq (p := Rp G) h) fun v H1 ⟨W, r, S, x, rel, rx, k⟩ => k W H1 v (Ext.refl _ _) rel.st rx
theorem k_ret0 : PS X (.Return none pos) (TSm G E fun r S => .ret .non S) := PS.imp ps_retN fun D q H ⟨W, r, S, rel, h⟩ => h W H _ (Ext.refl _ _) rel.st mk_non
theorem k_pass : PS X (.Pass pos) (TSm G E fun r S => .nx r S) := PS.imp ps_pass fun D q H ⟨W, r, S, rel, h⟩ => h.nxd rel
theorem k_break : PS X (.Break pos) (TSm G E fun r S => .brk r S) := PS.imp ps_break fun D q H ⟨W, r, S, rel, h⟩ => h W H q (Ext.refl _ _) rel
theorem k_cont : PS X (.Continue pos) (TSm G E fun r S => .ct r S) := PS.imp ps_continue fun D q H ⟨W, r, S, rel, h⟩ => h W H q (Ext.refl _ _) rel
theorem k_if (hc : L2.PT X e (TB G E gc)) (h1 : PSs X ss (TSm G E m1)) (h2 : PSs X sb (TSm G E m2)) : PS X (.If e ss sb pos) (TSm G E fun r S => (gc r S).to fun k S1 => if k then m1 r S1 else m2 r S1) :=
  PS.imp (ps_if hc h1 h2) fun D q H h => T.imp (TSm.seq (p := repB) h) fun v H1 ⟨W, r, S, x, rel, rx, k⟩ => by
    subst rx
    cases v with
    | true => exact ⟨W, r, S, rel, k⟩
    | false => exact ⟨W, r, S, rel, k⟩
/-- the store of a value to a target -/
def asgS (t : Tg) (d : D) (r : Loc) (S : Sto) : Rs := match asg t d r with
  | some r2 => .nx r2 S
  | none => .bad
theorem asg_of {t : Tg} {q : L2.St} {H : Hp} {D : Ends} (h : TSm G E (fun r S => (fa r S).to fun d S1 => asgS t d r S1) D q H) : tAsg (TD G E fa) (gOf G t) D q H :=
  T.imp (TSm.seq (p := Rp G) h) fun v H1 ⟨W, r, S, x, rel, rx, k⟩ => by
    unfold asgS at k
    split at k
    · rename_i r2 h2
      exact ⟨W, r, S, x, r2, rel, rx, h2, fun q2 sl _ => k.nxd ⟨sl, rel.st⟩⟩
    · exact k.no
theorem k_asg {tg : Expr} {t : Tg} (ha : PE X e (TD G E fa)) (hg : PG X tg (gOf G t)) (hs : swapsWithSole [tg] e pos.line X.env = pure false) (hw : swappedStores [tg] e X.env = pure none) (h1 : (assignEach [tg] X.env).map (·.2) = [assign tg X.env]) :
    PS X (.Assign [tg] e pos) (TSm G E fun r S => (fa r S).to fun d S1 => asgS t d r S1) := PS.imp (ps_asg ha hg hs hw h1) fun D q H h => asg_of h
/-- a, b = e1, e2 -/
theorem k_par {i j : Nat} {x y : Str} {px py pt : Pos} {kt k2 : Nat} {pt2 : Pos} {f : M (List D)} (hc : X.calm = true) (hN : X.N.Nodup) (hi : X.N[i]? = some x) (hj : X.N[j]? = some y) (hij : i ≠ j)
    (hx : X.env.scope.names.lookup x = some .local) (hy : X.env.scope.names.lookup y = some .local) (ha : PA X [e1, e2] (TDs G E f))
    (hw : swappedStores [.Tuple [.Name x px, .Name y py] kt pt] (.Tuple [e1, e2] k2 pt2) X.env = pure (some [x, y])) (hs : swapsWithSole [.Tuple [.Name x px, .Name y py] kt pt] (.Tuple [e1, e2] k2 pt2) pos.line X.env = pure false) :
    PS X (.Assign [.Tuple [.Name x px, .Name y py] kt pt] (.Tuple [e1, e2] k2 pt2) pos) (TSm G E fun r S => (f r S).to fun ds S1 => match ds with
      | [d1, d2] => .nx ((r.set i (some d1)).set j (some d2)) S1
      | _ => .bad) :=
  PS.imp (ps_par hc hN hi hj hij hx hy ha hw hs) fun D q H h => T.imp (TSm.seq (p := Rps G) h) fun vs H1 ⟨W, r, S, ds, rel, rx, k⟩ => by
    split at k
    · obtain ⟨v, u, rfl, r1, r2⟩ := rx.two_inv
      exact ⟨v, u, rfl, k.nxd ⟨(rel.sl.set i r1).set j r2, rel.st⟩⟩
    · exact k.no
/-- o[i] = e -/
theorem k_set {o i : Expr} {tpos : Pos} (ha : PE X e (TD G E fa)) (hg : PG X (.Subscript o i tpos) (gSub (TD G E fb) (TD G E fc) (rSet G E))) (hs : swapsWithSole [.Subscript o i tpos] e pos.line X.env = pure false) (hw : swappedStores [.Subscript o i tpos] e X.env = pure none)
    (h1 : (assignEach [.Subscript o i tpos] X.env).map (·.2) = [assign (.Subscript o i tpos) X.env]) :
    PS X (.Assign [.Subscript o i tpos] e pos) (TSm G E fun r S => (fa r S).to fun x S1 => (fb r S1).to fun d S2 => (fc r S2).to fun k S3 => (fSet d k x S3).to fun _ S4 => .nx r S4) :=
  PS.imp (ps_asg ha hg hs hw h1) fun D q H h => T.imp (TSm.seq (p := Rp G) h) fun v H1 ⟨W, r, S, x, rel, rx, k⟩ => by
    refine ⟨W, r, S, rel, Post.imp (PostS.of (p := Rp G) k) fun o H2 ⟨W2, d, S2, x2, st2, rd, _, k2⟩ => ?_⟩
    refine ⟨W2, r, S2, ⟨rel.sl.ext x2, st2⟩, Post.imp (PostS.of (p := Rp G) k2) fun i H3 ⟨W3, kk, S3, x3, st3, rk, _, k3⟩ => ?_⟩
    refine ⟨W3, S3, d, kk, x, st3, Rp.ext x3 _ _ rd, rk, Rp.ext (x2.trans x3) _ _ rx, Post.imp (PostS.of (p := Rp G) k3) fun _ H4 ⟨W4, _, S4, x4, st4, _, _, k4⟩ => k4.nxd ⟨((rel.sl.ext x2).ext x3).ext x4, st4⟩⟩
/-- x op= e -/
def fIadd (d e : D) (S : Sto) : Re D := match d, e with
  | .int i, .int j => .ok (.int (i + j)) S
  | .str x, .str y => if x.length + y.length ≤ 1000000 then .ok (.str (x ++ y)) S else .bad
  | _, _ => .bad
theorem ip_iadd : PIp X .Add (r2 G E fIadd) := by
  intro pins s σ H x y v u Q I rx ry h
  obtain ⟨W, S, d, e, st, rd, re, p⟩ := h
  unfold fIadd at p
  split at p
  · cases rp_int rd
    cases rp_int re
    exact iop_add pins s σ H _ _ v u Q I rx ry ⟨_, _, rfl, rfl, p.done st mk_int⟩
  · cases rp_str rd
    cases rp_str re
    split at p
    · rename_i hz
      exact iop_add_str pins s σ H _ _ v u Q I rx ry ⟨_, _, rfl, rfl, by rw [str_len, str_len]; exact sz hz, by rw [str_cat]; exact p.done st mk_str⟩
    · exact p.no
  · exact p.no
theorem ip_isub : PIp X .Sub (r2 G E fSub) := by
  intro pins s σ H x y v u Q I rx ry h
  obtain ⟨W, S, d, e, st, rd, re, p⟩ := h
  unfold fSub at p
  split at p
  · cases rp_int rd
    cases rp_int re
    exact iop_sub pins s σ H _ _ v u Q I rx ry ⟨_, _, rfl, rfl, p.done st mk_int⟩
  · exact p.no
theorem k_aug {i : Nat} {x : Str} {op : Operator} {g : D → D → Sto → Re D} {pos' : Pos} (hN : X.N.Nodup) (hi : X.N[i]? = some x) (hx : L2.Loc X.env.scope x) (ha : PE X e (TD G E fa)) (ho : PIp X op (r2 G E g)) (hf : X.fn x = true ∨ X.env.scope.names.lookup x = some .local) :
    PS X (.AugAssign (.Name x pos') op e pos) (TSm G E fun r S => match r[i]? with
      | some (some d) => (fa r S).to fun y S1 => (g d y S1).to fun z S2 => .nx (r.set i (some z)) S2
      | _ => .bad) :=
  PS.imp (ps_aug hN hi hx ha ho hf) fun D q H ⟨W, r, S, rel, k⟩ => by
    dsimp only at k
    split at k
    · rename_i d hd
      obtain ⟨v, h1, h2⟩ := rel.sl.at_ i d hd
      refine ⟨v, h1, W, r, S, rel, Post.imp (PostS.of (p := Rp G) k) fun y H2 ⟨W2, yd, S2, x2, st2, ry, _, k2⟩ => ?_⟩
      refine ⟨W2, S2, d, yd, st2, Rp.ext x2 _ _ h2, ry, Post.imp (PostS.of (p := Rp G) k2) fun z H3 ⟨W3, zd, S3, x3, st3, rz, _, k3⟩ => ?_⟩
      exact k3.nxd ⟨((rel.sl.ext x2).ext x3).set i rz, st3⟩
    · exact k.no
/-! loops -/
noncomputable def whileG (c : M Bool) (b : MS) : Nat → MS
  | 0 => fun _ _ => .bad
  | n + 1 => fun r S => (c r S).to fun k S1 => if k then (b r S1).turn (whileG c b n) else .nx r S1
theorem k_while (n : Nat) (hp : PassesOwn (model X.prog X.w) X.A X.env X.xe) (hc : L2.PT X e (TB G E gc)) (hb : PSs X ss (TSm G E m1)) : PS X (.While e ss [] pos) (TSm G E fun r S => whileG gc m1 n r S) :=
  PS.imp (ps_while hp hc hb) fun D q H ⟨W, r, S, rel, h⟩ => by
    refine ⟨fun m q H => ∃ W r S, Rel G W r S q H ∧ PostS G E W H (whileG gc m1 m r S) D, ⟨n, W, r, S, rel, h⟩, ?_⟩
    rintro m q H ⟨W, r, S, rel, h⟩
    cases m with
    | zero => exact h.no
    | succ m =>
      unfold whileG at h
      refine ⟨W, r, S, rel, Post.imp (PostS.of (p := repB) h) fun b H1 ⟨W1, k, S1, x1, st1, hb, _, h1⟩ => ?_⟩
      subst hb
      have rel1 : Rel G W1 r S1 q H1 := ⟨rel.sl.ext x1, st1⟩
      cases b with
      | false =>
        simp only [Bool.false_eq_true, if_false] at h1 ⊢
        exact h1.nxd rel1
      | true =>
        simp only [if_true] at h1 ⊢
        refine ⟨fun q H => ∃ W r S, Rel G W r S q H ∧ PostS G E W H (whileG gc m1 m r S) D, fun q' H' w => ⟨m, Nat.lt_succ_self _, w⟩, W1, r, S1, rel1, ?_⟩
        cases e : m1 r S1 with
        | nx r2 S2 => rw [e] at h1; exact fun W' H' q' x rel' => ⟨W', r2, S2, rel', PostS.mono x h1⟩
        | ct r2 S2 => rw [e] at h1; exact fun W' H' q' x rel' => ⟨W', r2, S2, rel', PostS.mono x h1⟩
        | brk r2 S2 => rw [e] at h1; exact h1
        | ret d S2 => rw [e] at h1; exact h1
        | err n fs S2 => rw [e] at h1; exact h1
        | bad => rw [e] at h1; exact h1
open Classical in
noncomputable def forG (gd : Gd) (t : Tg) (b : MS) : List DL.D → MS
  | [] => fun r S => if gdOk gd S then .nx r S else .bad
  | d :: ds => fun r S => if gdOk gd S then (asgS t d r S).seq fun r2 S2 => (b r2 S2).turn (forG gd t b ds) else .bad
theorem k_for {tg iter : Expr} {t : Tg} {fI : M (List DL.D × Gd)} (hp : PassesOwn (model X.prog X.w) X.A X.env X.xe) (hc : X.calm = true) (hi : PI X tg iter (TIt G E fI)) (hg : PG X tg (gOf G t)) (hb : PSs X ss (TSm G E m1)) (hs : ∀ x, foldedSetIterable iter X.env x = pure x) :
    PS X (.For tg iter ss [] pos) (TSm G E fun r S => (fI r S).to fun w S1 => forG w.2 t m1 w.1 r S1) :=
  PS.imp (ps_for hp hc hi hg hb hs) fun D q H h => T.imp (TSm.seq (p := repI G) h) fun J H1 ⟨W1, r, S1, w, rel, rep, k⟩ => by
    obtain ⟨its, gd⟩ := w
    obtain ⟨Gh, Y, wk, c1, c2⟩ := rep
    dsimp only at k c1 c2 wk
    refine for_it wk (fun i q H => ∃ W2 r2 S2, Ext W1 H1 W2 H ∧ Rel G W2 r2 S2 q H ∧ PostS G E W2 H (forG gd t m1 (its.drop i) r2 S2) D) ⟨W1, r, S1, Ext.refl _ _, rel, k⟩ ?_ ?_ ?_
    · rintro i q H hi ⟨W2, r2, S2, x2, rel2, k2⟩
      refine c1 W2 H S2 x2.w rel2.st ?_
      cases e2 : its.drop i with
      | nil =>
        rw [e2] at k2
        unfold forG at k2
        split at k2
        · assumption
        · exact k2.no
      | cons d rest =>
        rw [e2] at k2
        unfold forG at k2
        split at k2
        · assumption
        · exact k2.no
    · rintro i x q H H' hi ⟨W2, r2, S2, x2, rel2, k2⟩ y
      obtain ⟨d0, hd0⟩ : ∃ d, its[i]? = some d := ⟨its[i], by simp [hi]⟩
      rw [drop_get hd0] at k2
      unfold forG at k2
      split at k2
      · rename_i hgd
        obtain ⟨d, hd1, x3, st3, rd⟩ := c2 i W2 H S2 x H' hi x2.w rel2.st hgd y
        rw [hd0] at hd1
        cases hd1
        unfold asgS at k2
        cases ea : asg t d0 r2 with
        | none =>
          rw [ea] at k2
          exact k2.no
        | some r3 =>
          rw [ea] at k2
          simp only [seq_nx] at k2
          refine ⟨W2, r2, S2, d0, r3, ⟨rel2.sl.ext x3, st3⟩, rd, ea, fun q3 sl3 _ => ⟨W2, r3, S2, ⟨sl3, st3⟩, ?_⟩⟩
          have k3 := PostS.mono x3 k2
          cases e : m1 r3 S2 with
          | nx r4 S4 => rw [e] at k3; exact fun W' H' q' x4 rel' => ⟨W', r4, S4, (x2.trans x3).trans x4, rel', PostS.mono x4 k3⟩
          | ct r4 S4 => rw [e] at k3; exact fun W' H' q' x4 rel' => ⟨W', r4, S4, (x2.trans x3).trans x4, rel', PostS.mono x4 k3⟩
          | brk r4 S4 => rw [e] at k3; exact k3
          | ret d S4 => rw [e] at k3; exact k3
          | err n fs S4 => rw [e] at k3; exact k3
          | bad => rw [e] at k3; exact k3
      · exact k2.no
    · rintro q H ⟨W2, r2, S2, x2, rel2, k2⟩
      rw [show its.drop its.length = [] by simp] at k2
      unfold forG at k2
      split at k2
      · exact k2.nxd rel2
      · exact k2.no
end
end DL
set_option Elab.async false
set_option linter.all false
set_option maxRecDepth 100000
set_option maxHeartbeats 4000000
/-! DL12: the end of a def: what it made is let go; a def's promise by its body. -/
namespace DL
open PySem PySem.Spec PyProof.Rows L2

mutual
/-- no object from n on is meant -/
def nr (n : Nat) : D → Bool
  | .ref i => decide (i < n)
  | .exn _ _ _ fs => nrs n fs
  | .tup ds => nrs n ds
  | .lst ds => nrs n ds
  | _ => true
def nrs (n : Nat) : List D → Bool
  | [] => true
  | d :: ds => nr n d && nrs n ds
end
def nrO (n : Nat) : Ob → Bool
  | .lst ds => nrs n ds
  | .ins _ fs => nrs n (fs.map (·.2))
/-- a result that outlives the objects from n on: a new list of plain things is a plain list -/
def thaw (n : Nat) (S : Sto) : D → Option D
  | .ref i => if i < n then some (.ref i) else match S[i]? with
    | some (.lst ds) => if nrs n ds then some (.lst ds) else none
    | _ => none
  | d => if nr n d then some d else none
/-- the objects of S0 are as they were, or plain -/
def okPre (S0 S : Sto) : Prop := S0.length ≤ S.length ∧ ∀ (j : Nat) (o : Ob), j < S0.length → S[j]? = some o → S0[j]? = some o ∨ nrO S0.length o = true
open Classical in
noncomputable def finish (S0 : Sto) (x : Rs) : Re D := match x with
  | .nx _ S => if okPre S0 S then .ok .non (S.take S0.length) else .bad
  | .ret d S => match thaw S0.length S d with
    | some e => if okPre S0 S then .ok e (S.take S0.length) else .bad
    | none => .bad
  | .err x fs S => if okPre S0 S ∧ nrs S0.length fs = true then .err x fs (S.take S0.length) else .bad
  | _ => .bad
section
variable {G : Gb} {W W' : Wd} {H H' : Hp} {S S0 : Sto}
/-- fewer are tracked -/
abbrev Wd.cut (W : Wd) (n : Nat) (b : List Addr) : Wd := ⟨W.t.take n, b⟩
mutual
theorem Rp.cut {n : Nat} {b : List Addr} (hb : ∀ a ∈ b, a ∈ W.b) : ∀ (d : D) (v : V), nr n d = true → Rp G W H d v → Rp G (W.cut n b) H d v
  | .non, _, _, h => by simpa only [Rp] using h
  | .bl _, _, _, h => by simpa only [Rp] using h
  | .int _, _, _, h => by simpa only [Rp] using h
  | .str _, _, _, h => by simpa only [Rp] using h
  | .tup ds, v, q, h => by
    simp only [nr] at q
    simp only [Rp] at h ⊢
    obtain ⟨a, vs, e, p, r⟩ := h
    refine ⟨a, vs, e, ?_, Rps.cut hb ds vs q r⟩
    rcases p with ⟨h1, h2, h3⟩ | h
    · exact .inl ⟨fun z => h1 (List.mem_of_mem_take z), fun z => h2 (hb a z), h3⟩
    · exact .inr h
  | .lst ds, v, q, h => by
    simp only [nr] at q
    simp only [Rp] at h ⊢
    obtain ⟨a, vs, e, ⟨h1, h2, h3⟩, r⟩ := h
    exact ⟨a, vs, e, ⟨fun z => h1 (List.mem_of_mem_take z), fun z => h2 (hb a z), h3⟩, Rps.cut hb ds vs q r⟩
  | .ref i, v, q, h => by
    simp only [nr, decide_eq_true_eq] at q
    simp only [Rp] at h ⊢
    obtain ⟨a, e, p⟩ := h
    exact ⟨a, e, by show (W.t.take n)[i]? = _; rw [List.getElem?_take_of_lt q]; exact p⟩
  | .fn _, _, _, h => by simpa only [Rp] using h
  | .scr ns, v, q, h => by
    simp only [Rp] at h ⊢
    obtain ⟨a, e, p⟩ := h
    refine ⟨a, e, ?_⟩
    rcases p with ⟨h1, h2, h3⟩ | h
    · exact .inl ⟨fun z => h1 (List.mem_of_mem_take z), fun z => h2 (hb a z), h3⟩
    · exact .inr h
  | .exn a dd c fs, v, q, h => by
    simp only [nr] at q
    simp only [Rp] at h ⊢
    obtain ⟨e, h1, h2, fv, h3, h4, h5⟩ := h
    exact ⟨e, fun z => h1 (List.mem_of_mem_take z), fun z => h2 (hb _ z), fv, h3, h4, Rps.cut hb fs _ q h5⟩
theorem Rps.cut {n : Nat} {b : List Addr} (hb : ∀ a ∈ b, a ∈ W.b) : ∀ (ds : List D) (vs : List V), nrs n ds = true → Rps G W H ds vs → Rps G (W.cut n b) H ds vs
  | [], _, _, h => by simpa only [Rps] using h
  | d :: ds, vs, q, h => by
    simp only [nrs, Bool.and_eq_true] at q
    simp only [Rps] at h ⊢
    obtain ⟨v, r, e, h1, h2⟩ := h
    exact ⟨v, r, e, Rp.cut hb d v q.1 h1, Rps.cut hb ds r q.2 h2⟩
end
mutual
theorem nr_of : ∀ (d : D) (v : V), Rp G W H d v → nr W.t.length d = true
  | .non, _, _ => rfl
  | .bl _, _, _ => rfl
  | .int _, _, _ => rfl
  | .str _, _, _ => rfl
  | .tup ds, v, h => by
    obtain ⟨a, vs, _, _, r⟩ := rp_tup h
    exact nrs_of ds vs r
  | .lst ds, v, h => by
    obtain ⟨a, vs, _, _, r⟩ := rp_lst h
    exact nrs_of ds vs r
  | .ref i, v, h => by
    obtain ⟨a, _, p⟩ := rp_ref h
    simp only [nr, decide_eq_true_eq]
    exact (List.getElem?_eq_some_iff.mp p).1
  | .fn _, _, _ => rfl
  | .scr _, _, _ => rfl
  | .exn a dd c fs, v, h => by
    obtain ⟨_, _, _, fv, _, _, r⟩ := rp_exn h
    exact nrs_of fs _ r
theorem nrs_of : ∀ (ds : List D) (vs : List V), Rps G W H ds vs → nrs W.t.length ds = true
  | [], _, _ => rfl
  | d :: ds, vs, h => by
    obtain ⟨v, r, _, h1, h2⟩ := Rps.cons_iff.mp h
    simp only [nrs, Bool.and_eq_true]
    exact ⟨nr_of d v h1, nrs_of ds r h2⟩
end
theorem nrO_of {a : Addr} {o : Ob} (h : ObR G W H a o) : nrO W.t.length o = true := by
  cases o with
  | lst ds =>
    obtain ⟨vs, _, r⟩ := h
    exact nrs_of ds vs r
  | ins c fs =>
    obtain ⟨C, dx, fv, _, _, _, _, _, _, r⟩ := h
    exact nrs_of _ _ r
/-- the world behind a def: what was tracked ahead of it -/
theorem StoR.cut {b : List Addr} (s0 : StoR G W H S0) (x : Ext W H W' H') (s : StoR G W' H' S) (ok : okPre S0 S) (hb : ∀ a ∈ b, a ∈ W'.b) : StoR G (W'.cut S0.length b) H' (S.take S0.length) ∧ W'.t.take S0.length = W.t := by
  obtain ⟨l, e, _⟩ := x.t
  have et : W'.t.take S0.length = W.t := by
    rw [e, ← s0.len, List.take_left]
  refine ⟨⟨by rw [show (W'.cut S0.length b).t = W.t from et, s0.len, List.length_take, Nat.min_eq_left ok.1], by rw [show (W'.cut S0.length b).t = W.t from et]; exact s0.nd, fun i a o h1 h2 => ?_, fun a ha => s.live a (List.mem_of_mem_take ha), fun a ha => s.liveB a (hb a ha)⟩, et⟩
  have hi : i < S0.length := by
    have := (List.getElem?_eq_some_iff.mp h2).1
    rw [List.length_take] at this
    omega
  have h1 : (W'.t.take S0.length)[i]? = some a := h1
  rw [List.getElem?_take_of_lt hi] at h1
  rw [List.getElem?_take_of_lt hi] at h2
  have q := s.ob i a o h1 h2
  have hn : nrO S0.length o = true := by
    rcases ok.2 i o hi h2 with z | z
    · have ha : W.t[i]? = some a := by
        rw [← et, List.getElem?_take_of_lt hi]
        exact h1
      have := nrO_of (s0.ob i a o ha z)
      rw [s0.len] at this
      exact this
    · exact z
  cases o with
  | lst ds =>
    obtain ⟨vs, k1, k2⟩ := q
    exact ⟨vs, k1, Rps.cut hb ds vs hn k2⟩
  | ins c fs =>
    obtain ⟨C, dx, fv, k1, k2, k0, k3, k4, k5, k6⟩ := q
    exact ⟨C, dx, fv, k1, k2, k0, fun z => k3 (List.mem_of_mem_take z), fun z => k4 (hb _ z), k5, Rps.cut hb _ _ hn k6⟩
theorem Ext.cut {n : Nat} (x : Ext W H W' H') (et : W'.t.take n = W.t) : Ext W H (W'.cut n W.b) H' := ⟨⟨[], by simp, by simp⟩, ⟨[], by rw [List.append_nil]; exact et, by simp⟩, x.k, x.lv⟩
theorem Ext.bsub (x : Ext W H W' H') : ∀ a ∈ W.b, a ∈ W'.b := fun a ha => by
  obtain ⟨l, e, _⟩ := x.b
  rw [e]
  exact List.mem_append_right _ ha
theorem thaw_rp {d e : D} {v : V} {n : Nat} {b : List Addr} (s : StoR G W H S) (hb : ∀ a ∈ b, a ∈ W.b) (hv : ∀ i a, n ≤ i → W.t[i]? = some a → a ∉ b) (h : thaw n S d = some e) (r : Rp G W H d v) : Rp G (W.cut n b) H e v := by
  have pl : ∀ {d : D}, nr n d = true → Rp G W H d v → Rp G (W.cut n b) H d v := fun {d} q r => Rp.cut hb d v q r
  cases d with
  | ref i =>
    dsimp only [thaw] at h
    split at h
    · rename_i hi
      cases h
      exact pl (by simpa [nr] using hi) r
    · rename_i hi
      split at h
      · rename_i ds hs
        split at h
        · rename_i hq
          cases h
          obtain ⟨a, vs, rfl, hat, hH, rs⟩ := rd_ref s hs r
          simp only [Rp]
          refine ⟨a, vs, rfl, ⟨fun z => ?_, hv i a (by omega) hat, hH⟩, Rps.cut hb ds vs hq rs⟩
          obtain ⟨j, hj⟩ := List.getElem?_of_mem z
          have hjn : j < n := by
            have := (List.getElem?_eq_some_iff.mp hj).1
            have e : (W.cut n b).t.length = min n W.t.length := List.length_take
            omega
          have hj' : W.t[j]? = some a := by
            have hj : (W.t.take n)[j]? = some a := hj
            rw [List.getElem?_take_of_lt hjn] at hj
            exact hj
          obtain ⟨l1, e1⟩ := List.getElem?_eq_some_iff.mp hat
          obtain ⟨l2, e2⟩ := List.getElem?_eq_some_iff.mp hj'
          have := (List.getElem_inj s.nd).mp (e1.trans e2.symm)
          omega
        · cases h
      · cases h
  | non => cases h; exact pl rfl r
  | bl _ => cases h; exact pl rfl r
  | int _ => cases h; exact pl rfl r
  | str _ => cases h; exact pl rfl r
  | fn _ => cases h; exact pl rfl r
  | scr _ => cases h; exact pl rfl r
  | exn a dd c fs =>
    dsimp only [thaw] at h
    split at h
    · rename_i hq
      cases h
      exact pl hq r
    · cases h
  | tup ds =>
    dsimp only [thaw] at h
    split at h
    · rename_i hq
      cases h
      exact pl hq r
    · cases h
  | lst ds =>
    dsimp only [thaw] at h
    split at h
    · rename_i hq
      cases h
      exact pl hq r
    · cases h
end
/-- the slots at a def's start -/
def startL (n : Nat) (ds : List D) : Loc := ds.map some ++ List.replicate (n - ds.length) none
section
variable {P : Program} {w : World} {K : PySem.W.Frag} {mg : Str → Option Value} {base : Heap} {G : Gb}
theorem sl_start {W : Wd} {H : Hp} {ds : List D} {vs : List V} {N : List Str} (r : Rps G W H ds vs) : SlR G W H (startL N.length ds) (L2.start N vs) := by
  unfold startL L2.start
  refine ⟨by simp [r.length], fun i d e => ?_⟩
  by_cases hi : i < ds.length
  · rw [List.getElem?_append_left (by simpa using hi), List.getElem?_map] at e
    cases e2 : ds[i]? with
    | none => rw [e2] at e; cases e
    | some c =>
      rw [e2] at e
      cases e
      obtain ⟨v, h1, h2⟩ := r.get e2
      exact ⟨v, by rw [List.getElem?_append_left (by rw [List.length_map, r.length]; exact hi), List.getElem?_map, h1]; rfl, h2⟩
  · rw [List.getElem?_append_right (by simpa using hi), List.getElem?_replicate] at e
    split at e <;> cases e
/-- the end of a def meets what its caller wants -/
theorem fin_post {E : XK} {W : Wd} {H : Hp} {S : Sto} {x : Rs} {Q : VK} (st : StoR G W H S) (p : Post G E (Rp G) W H (finish S x) Q) : PostS G E W H x { nx := fun _ H' => Q .non H', rt := Q } := by
  have hv : ∀ {W' : Wd} {H' : Hp}, Ext W H W' H' → ∀ (i : Nat) a, S.length ≤ i → W'.t[i]? = some a → a ∉ W.b := fun {W' H'} x i a hi ha hb => by
    obtain ⟨l, e, n⟩ := x.t
    rw [e, List.getElem?_append_right (by rw [st.len]; exact hi)] at ha
    have h0 := n a (List.mem_of_getElem? ha)
    obtain ⟨o, ho⟩ := st.liveB a hb
    rw [h0] at ho
    cases ho
  cases x with
  | nx r S' =>
    unfold finish at p
    dsimp only at p
    split at p
    · rename_i ok
      intro W' H' q x rel
      obtain ⟨s2, et⟩ := st.cut x rel.st ok x.bsub
      exact p _ _ _ (x.cut et) s2 mk_non
    · exact p.no
  | ret d S' =>
    unfold finish at p
    dsimp only at p
    split at p
    · rename_i e he
      split at p
      · rename_i ok
        intro W' H' v x s rd
        obtain ⟨s2, et⟩ := st.cut x s ok x.bsub
        exact p _ _ _ (x.cut et) s2 (thaw_rp s x.bsub (hv x) he rd)
      · exact p.no
    · exact p.no
  | err n fs S' =>
    unfold finish at p
    dsimp only at p
    split at p
    · rename_i ok
      intro W' H' c dd x s er
      obtain ⟨s2, et⟩ := st.cut x s ok.1 x.bsub
      obtain ⟨C, dx, fv, h1, h2, h3, h4, h5, h6, h7, h8⟩ := er
      exact p _ _ _ _ (x.cut et) s2 ⟨C, dx, fv, h1, h2, h3, fun z => h4 (List.mem_of_mem_take z), fun z => h5 (x.bsub _ z), h6, h7, Rps.cut x.bsub _ _ ok.2 h8⟩
    · exact p.no
  | brk r S' => exact p.no
  | ct r S' => exact p.no
  | bad => exact p.no
/-- THE RULE for a def by the meaning of its body -/
theorem def_ok {x qual : Str} {st : Stmt} {f : Addr} {fd : FuncData} {N ps : List Str} {k : Nat} {body : MS} (F : Fun K x qual st f fd) (Sc : FnScope N ps (defScope st))
    (hb : ∀ (cdv : Value) (A : Around) (outer : List Env) (s : Shared) (H : Hp) (E : XK), Room k (A.deeper (envOfC qual (defScope st) s.heap.objs.size f cdv)) → PSs (cxOf (L2.CX P w) P w K mg base N qual (defScope st) f cdv A outer s H E) (defBody st) (TSm G E body)) :
    FnOk P w K mg base (L2.CX P w) (k + 1) f fd ps (spOf G fun ds S => if ds.length = ps.length then finish S (body (startL N.length ds) S) else .bad) := by
  refine F.okX Sc (fun vs H Q E h => ?_) (fun cdv A outer s H vs Q E hr h => ?_)
  · obtain ⟨W, S, ds, s, r, p⟩ := h
    dsimp only at p
    split at p
    · rename_i hl
      rw [r.length]
      exact hl
    · exact p.no
  · obtain ⟨W, S, ds, s1, r, p⟩ := h
    dsimp only at p
    split at p
    · exact ⟨_, hb cdv A outer s H E hr, W, startL N.length ds, S, ⟨sl_start r, s1⟩, fin_post s1 p⟩
    · exact p.no
end
end DL
set_option Elab.async false
set_option linter.all false
set_option maxRecDepth 100000
set_option maxHeartbeats 4000000
/-! DL13: the program's error classes: made and raised. -/
namespace DL
open PySem PySem.Spec PyProof.Rows L2

/-- the class that heads the own errors: its __init__ is ValueError's -/
structure HeadC (K : PySem.W.Frag) (CL : Addr) : Prop where
  rd : PySem.W.readsIn K CL (.type "type") = true
  ga : PySem.W.specialIn K (.ref CL) "__getattribute__" = some (some (.builtin "type.__getattribute__"))
  it : PySem.W.findCls K (.ref CL) (.type "type") "__init__" = some (.val (.builtin "ValueError.__init__"))
section
variable {X : Cx} {e : Expr} {es : List Expr} {ta : TA} {p1 p2 pos : Pos}
theorem pe_cinit {CL : Addr} {x : Str} (hc0 : HeadC X.K CL) (hg : Gl X x) (hm : X.mg x = some (.ref CL)) (hdb : (x == ("__debug__" : Str)) = false) (ha : PA X (e :: es) ta)
    (hbase : attributeBase (.Name x p1) "__init__" X.env (eval (.Name x p1) X.env) = eval (.Name x p1) X.env)
    (hfew : methodCallForm ((e :: es).length + ([] : List Keyword).length) (backTo pos (starEach (e :: es) X.env)) (backToKw pos (keywordEach [] X.env)) = true) (hline : (p2.endLine == pos.line) = true)
    (he : starEach (e :: es) X.env = (false, eval e X.env) :: starEach es X.env := by rfl) (hpl : (backTo pos (starEach es X.env)).any (·.1) = false := by rfl) :
    PE X (.Call (.Attribute (.Name x p1) "__init__" p2) (e :: es) [] pos) (tVeI X.K ta) := by
  refine ⟨fun pins s σ H Q I h => ?_⟩
  have hpos : methodCallPos true (.Name x p1) X.env p2 pos = pure pos := by unfold methodCallPos; simp [hline]
  rw [arm_eval_Call, hbase]
  refine wpAny_bind (ld_glob I hg hm ?_ hdb)
  refine wpAny_bind (wpAny_standAt ?_)
  unfold methodCall
  rw [hfew]
  refine wpAny_bind (wpAny_holding ?_)
  show wpAny _ _ (getMethod _ _ _) _ _ _
  refine PySem.W.method_cls I.kIn hc0.ga (PySem.W.cls_value I.kIn hc0.rd hc0.it (by decide +kernel) ?_)
  dsimp only
  rw [hpos]
  refine wpAny_bind (wpAny_pure ?_)
  show wpAny _ _ (callWith pos (Value.builtin "ValueError.__init__") [] (backTo pos (starEach (e :: es) X.env)) []) _ _ _
  refine PyProof.Rows.callWith_method1 (thn (ha.run pos pins _ σ H _ (I.tok _) h) fun us s1 ⟨vs, H1, I1, r1, a, C, ws, ev, hl, T, ea, q⟩ => ?_) he hpl
  subst ev
  cases r1 with
  | @cons _ u0 _ ur ra rw' =>
    obtain rfl : u0 = Value.ref a := ra
    have hlen : ur.length ≤ sizeLine := by
      rw [← Paired.length rw', sizeLine_eq]
      omega
    exact oinit_ok T I1 ea hlen fun s' J => ⟨.non, H1, J, rfl, q⟩
end

/-- the three shapes of an error's __init__: (place, reason), (place), (reason) -/
inductive Ek where
  | pr | p | r
  deriving DecidableEq
def Ek.names : Ek → List Str
  | .pr => ["reason", "place"]
  | .p => ["place"]
  | .r => ["reason"]
/-- the fields that the class's call makes -/
def mkD : Ek → List D → Option (List D)
  | .pr, [.int i, .str s] => if i.natAbs < 1000000000 ∧ s.length ≤ 1000 then some [.str s, .int i] else none
  | .p, [.int i] => if i.natAbs < 1000000000 then some [.int i] else none
  | .r, [.str s] => if s.length ≤ 1000 then some [.str s] else none
  | _, _ => none
def mkV : Ek → List V → Option (List (Str × V))
  | .pr, [.int i, .str s] => if i.natAbs < 1000000000 ∧ s.length ≤ 1000 then some [("reason", .str s), ("place", .int i)] else none
  | .p, [.int i] => if i.natAbs < 1000000000 then some [("place", .int i)] else none
  | .r, [.str s] => if s.length ≤ 1000 then some [("reason", .str s)] else none
  | _, _ => none
theorem mk_of_d {G : Gb} {W : Wd} {H : Hp} {k : Ek} {ds fs : List D} {vs : List V} (h : mkD k ds = some fs) (r : Rps G W H ds vs) : ∃ fv, mkV k vs = some fv ∧ fv.map (·.1) = k.names ∧ Rps G W H fs (fv.map (·.2)) := by
  unfold mkD at h
  split at h
  · rename_i i s
    obtain ⟨v, t, rfl, r1, r⟩ := Rps.cons_iff.mp r
    obtain ⟨v2, t, rfl, r2, r⟩ := Rps.cons_iff.mp r
    rw [Rps.nil_iff] at r
    subst r
    cases rp_int r1
    cases rp_str r2
    split at h
    · rename_i c
      cases h
      refine ⟨[("reason", .str ⟨s.toArray⟩), ("place", .int i)], ?_, rfl, Rps.cons mk_str (Rps.one mk_int)⟩
      exact if_pos (by simpa [Str.length] using c)
    · cases h
  · rename_i i
    obtain ⟨v, t, rfl, r1, r⟩ := Rps.cons_iff.mp r
    rw [Rps.nil_iff] at r
    subst r
    cases rp_int r1
    split at h
    · rename_i c
      cases h
      refine ⟨[("place", .int i)], ?_, rfl, Rps.one mk_int⟩
      exact if_pos c
    · cases h
  · rename_i s
    obtain ⟨v, t, rfl, r1, r⟩ := Rps.cons_iff.mp r
    rw [Rps.nil_iff] at r
    subst r
    cases rp_str r1
    split at h
    · rename_i c
      cases h
      refine ⟨[("reason", .str ⟨s.toArray⟩)], ?_, rfl, Rps.one mk_str⟩
      exact if_pos (by simpa [Str.length] using c)
    · cases h
  · cases h
/-- what an own __init__ keeps: the object at a has got its dict -/
def spX (K : PySem.W.Frag) (C : Addr) (k : Ek) : Sp := fun vs H Q E => ∃ a ws fv, vs = .ref a :: ws ∧ H a = some (exo a C none) ∧ mkV k ws = some fv ∧ OexC K C ∧ (∀ n ∈ k.names, PySem.W.findIn K (.ref C) n = some none) ∧
  ∀ dx H2, H dx = none → dx ≠ a → H2 a = some (exo a C (some dx)) → H2 dx = some (exd dx fv) → (∀ b, b ≠ a → b ≠ dx → H2 b = H b) → Q .non H2
theorem upd_at {H : Hp} {a b : Addr} {o : HO} (h : b ≠ a) : upd H a o b = H b := upd_ne h

/-! ### the rule for raise -/
section
variable {X : Cx} {G : Gb} {E : XK} {es : List Expr} {e : Expr} {p p2 pos : Pos}
theorem k_raise {x : Str} {cx : Nat} {k : Ek} {C fI : Addr} {m : Nat} {fd : FuncData} {ps : List Str} {f : M (List D)} (hK : G.K = X.K) (hC : G.ca cx = some C) (hn : G.xf cx = k.names) (T : OexC X.K C) (hf : ∀ n ∈ k.names, PySem.W.findIn X.K (.ref C) n = some none)
    (iC : PySem.W.findIn X.K (.ref C) "__init__" = some (some (.ref fI))) (tI : PySem.W.typeIn X.K (.ref fI) = some (.type "function"))
    (F1 : FnOk X.prog X.w X.K X.mg X.base (L2.CX X.prog X.w) m fI fd ps (spX X.K C k)) (hr : Room (m + 1) X.A) (hb : Binds X.K fd ps []) (hx : Passes (L2.CX X.prog X.w) X (fun _ _ _ => False)) (hg : Gl X x) (hm : X.mg x = some (.ref C))
    (hdb : (x == ("__debug__" : Str)) = false) (hc : X.calm = true) {W0 : WX} (tk : Takes X W0) (hW : ∀ c d σ H, E c d H → W0 c d σ H)
    (ha : PA X (e :: es) (TDs G E f)) (he : starEach (e :: es) X.env = (false, eval e X.env) :: starEach es X.env := by rfl) (hpl : (backTo p2 (starEach es X.env)).any (·.1) = false := by rfl) :
    PS X (.Raise (some (.Call (.Name x p) (e :: es) [] p2)) none pos) (TSm G E fun r S => (f r S).to fun ds S1 => match mkD k ds with
      | some fs => .err cx fs S1
      | none => .bad) := by
  refine PS.imp (ps_raise hc tk (pmk_oex (dvs := []) (ds := []) T iC tI F1 hr hb .nil hx hg hm ha hdb he hpl)) fun D q H h => ?_
  refine DL.T.imp (TSm.seq h) fun vs H1 k1 => ?_
  obtain ⟨W1, r1, S1, ds, rel, rd, p⟩ := k1
  split at p
  · rename_i fs hfs
    obtain ⟨fv, e1, e2, e3⟩ := mk_of_d hfs rd
    refine ⟨?_, fun a ha1 => ?_⟩
    · unfold mkV at e1
      split at e1 <;> simp_all
    · rw [List.append_nil]
      refine ⟨a, vs, fv, rfl, upd_same, e1, T, hf, fun dx H2 n1 n2 h1 h2 h3 => ⟨rfl, dx, fv, h1, h2, ?_, ?_⟩⟩
      · rw [← upd_ne (H := H1) (o := exo a C none) n2]
        exact n1
      · have n1' : H1 dx = none := by
          rw [← upd_ne (H := H1) (o := exo a C none) n2]
          exact n1
        have eH : upd (del H2 a) dx (.xd fv) = upd H1 dx (.xd fv) := by
          funext b
          by_cases hb1 : b = dx
          · subst hb1
            rw [upd_same, upd_same]
          · rw [upd_ne hb1, upd_ne hb1]
            by_cases hb2 : b = a
            · subst hb2
              rw [del_same, ha1]
            · rw [del_ne hb2, h3 b hb2 hb1, upd_ne hb2]
        rw [eH]
        refine hW _ _ _ _ ?_
        have fr := rel.st.fresh n1'
        exact p W1 _ _ _ (Ext.new n1') (rel.st.new n1') ⟨C, dx, fv, hC, rfl, rfl, fr.1, fr.2, upd_same, e2.trans hn.symm, Rps.ext (Ext.new n1') _ _ e3⟩
  · exact p.no
end
end DL
set_option Elab.async false
set_option linter.all false
set_option maxRecDepth 100000
set_option maxHeartbeats 4000000
/-! DL14: the own __init__ of an error class keeps its promise. -/
namespace DL
open PySem PySem.Spec PyProof.Rows L2

/-- the body of an own __init__ of shape k -/
inductive InitBody : Ek → List Stmt → Prop where
  | pr {j : Nat} {p1 p2 p3 p4 p5 p6 p7 p8 p9 p10 q1 q2 q3 q4 q5 q6 q7 q8 : Pos} (hl : (p2.endLine == p10.line) = true) : InitBody .pr
      [.Expr (.Call (.Attribute (.Name "LawError" p1) "__init__" p2) [.Name "self" p3, .JoinedStr [.FormattedValue (.Name "place" p4) (-1) none p5, .Constant (.str ": ") j p6, .FormattedValue (.Name "reason" p7) (-1) none p8] p9] [] p10) p10,
       .Assign [.Attribute (.Name "self" q1) "place" q2] (.Name "place" q3) q4, .Assign [.Attribute (.Name "self" q5) "reason" q6] (.Name "reason" q7) q8]
  | p {p1 p2 p3 p4 p5 p9 p10 q1 q2 q3 q4 : Pos} (hl : (p2.endLine == p10.line) = true) : InitBody .p
      [.Expr (.Call (.Attribute (.Name "LawError" p1) "__init__" p2) [.Name "self" p3, .JoinedStr [.FormattedValue (.Name "place" p4) (-1) none p5] p9] [] p10) p10,
       .Assign [.Attribute (.Name "self" q1) "place" q2] (.Name "place" q3) q4]
  | r {p1 p2 p3 p4 p10 q5 q6 q7 q8 : Pos} (hl : (p2.endLine == p10.line) = true) : InitBody .r
      [.Expr (.Call (.Attribute (.Name "LawError" p1) "__init__" p2) [.Name "self" p3, .Name "reason" p4] [] p10) p10,
       .Assign [.Attribute (.Name "self" q5) "reason" q6] (.Name "reason" q7) q8]
def Ek.ps : Ek → List Str
  | .pr => ["self", "place", "reason"]
  | .p => ["self", "place"]
  | .r => ["self", "reason"]
theorem int_len (i : Int) (h : i.natAbs < 1000000000) : (toString i : Str).length ≤ 10 ∧ i.natAbs.log2 < 1920 := by
  have h2 : i.natAbs.log2 < 1920 := by
    by_cases z : i.natAbs = 0
    · rw [z]; decide
    · exact (Nat.log2_lt z).mpr (Nat.lt_of_lt_of_le h (by decide +kernel))
  refine ⟨?_, h2⟩
  have e := int_text_length_le10 (k := 9) (by decide) (a := i) (by omega)
  rw [PySem.ofString_length]
  omega
theorem str_add_len (x y : Str) : (x ++ y).length = x.length + y.length := by
  show (x.cps ++ y.cps).size = _
  rw [Array.size_append]
  rfl
section
variable {P : Program} {w : World} {K : PySem.W.Frag} {mg : Str → Option Value} {base : Heap}
/-- THE RULE for an own __init__ -/
theorem init_ok {qual : Str} {params : Arguments} {body : List Stmt} {scope : Scope} {f C CL : Addr} {fd : FuncData} {k : Nat} {ek : Ek} (F : FunD K "__init__" qual params body scope [] [] f fd) (Sc : FnScope ek.ps ek.ps scope) (hb : InitBody ek body)
    (hy : scope.names.lookup ("LawError" : Str) = some .globalImplicit) (hm : mg "LawError" = some (.ref CL)) (hc : HeadC K CL) : FnOk P w K mg base (L2.CX P w) (k + 1) f fd ek.ps (spX K C ek) := by
  refine F.ok Sc (fun vs H Q E h => ?_) (fun cdv A outer s H vs Q E hr h => ?_)
  · obtain ⟨a, ws, fv, rfl, _, h, _⟩ := h
    unfold mkV at h
    split at h <;> first | rfl | cases h
  · obtain ⟨a, ws, fv, rfl, ha, h, T, hf, q⟩ := h
    generalize hss : body = ss at hb
    have hvis : ∀ n ∈ ek.ps, Vis scope n := fun n hn => by
      rcases Sc.par n hn with z | z
      · exact .inl z
      · exact .inr (.inl z)
    have q1 : ∀ dx, H dx = none → dx ≠ a → ∀ g y, Q .non (upd (upd (upd H dx (exd dx [g])) a (exo a C (some dx))) dx (exd dx (y :: [g]))) ↔ Q .non (upd (upd H dx (exd dx (y :: [g]))) a (exo a C (some dx))) := fun dx n1 n2 g y => by
      have : upd (upd (upd H dx (exd dx [g])) a (exo a C (some dx))) dx (exd dx (y :: [g])) = upd (upd H dx (exd dx (y :: [g]))) a (exo a C (some dx)) := by
        funext b
        by_cases hb1 : b = dx
        · subst hb1
          rw [upd_same, upd_ne n2, upd_same]
        · rw [upd_ne hb1]
          by_cases hb2 : b = a
          · subst hb2
            rw [upd_same, upd_same]
          · rw [upd_ne hb2, upd_ne hb1, upd_ne hb2, upd_ne hb1]
      rw [this]
    have q2 : ∀ dx fs, H dx = none → dx ≠ a → fs = fv → Q .non (upd (upd H dx (exd dx fs)) a (exo a C (some dx))) := fun dx fs n1 n2 e => by
      subst e
      exact q dx _ n1 n2 upd_same (by rw [upd_ne n2, upd_same]) fun b h1 h2 => by rw [upd_ne h1, upd_ne h2]
    cases hb with
    | pr hl =>
      unfold mkV at h
      split at h <;> first | (cases h; done) | (rename_i z; cases z; done) | skip
      · rename_i i sx z
        split at h
        · rename_i c
          cases h
          refine ⟨_, pss_cons (ps_expr (pe_cinit hc (X := cxOf (L2.CX P w) P w K mg base Ek.pr.ps qual scope f cdv A outer s H E) hy hm (by decide) (pa_cons (pe_var (i := 0) rfl (hvis _ (by simp [Ek.ps])))
            (pa_cons (pe_joined (.cons (pe_fmt (pe_var (i := 1) rfl (hvis _ (by simp [Ek.ps])))) (.cons pe_str (.cons (pe_fmt (pe_var (i := 2) rfl (hvis _ (by simp [Ek.ps])))) .nil)))) pa_nil)) rfl rfl hl))
            (pss_cons (ps_ost (pe_var (i := 0) rfl (hvis _ (by simp [Ek.ps]))) (pe_var (i := 1) rfl (hvis _ (by simp [Ek.ps])))) (pss_one (ps_ost (pe_var (i := 0) rfl (hvis _ (by simp [Ek.ps]))) (pe_var (i := 2) rfl (hvis _ (by simp [Ek.ps])))))), ?_⟩
          have il := int_len i c.1
          refine ⟨_, rfl, ⟨_, rfl, .inr ⟨i, rfl, il.2, _, rfl, ?_, _, rfl, ?_, ⟨_, rfl, .inl ⟨sx, rfl, by rw [sizeLine_eq]; omega, _, rfl, ?_, a, C, _, rfl, by simp, T, ha, ?_⟩⟩⟩⟩⟩
          · have e0 : (Str.empty ++ (toString i : Str)).length = Str.empty.length + (toString i : Str).length := str_add_len _ _
            have e1 : Str.empty.length = 0 := rfl
            rw [sizeLine_eq]
            omega
          · have e0 : (Str.empty ++ (toString i : Str)).length = Str.empty.length + (toString i : Str).length := str_add_len _ _
            have e1 : Str.empty.length = 0 := rfl
            have e2 : ((": " : Str)).length = 2 := rfl
            rw [str_add_len, sizeLine_eq]
            omega
          · have e0 : (Str.empty ++ (toString i : Str)).length = Str.empty.length + (toString i : Str).length := str_add_len _ _
            have e1 : Str.empty.length = 0 := rfl
            have e2 : ((": " : Str)).length = 2 := rfl
            rw [str_add_len, str_add_len, sizeLine_eq]
            omega
          · refine ⟨_, rfl, _, rfl, a, C, rfl, T, hf _ (by simp [Ek.names]), .inl ⟨ha, fun dx n1 n2 => ?_⟩⟩
            refine ⟨_, rfl, _, rfl, a, C, rfl, T, hf _ (by simp [Ek.names]), .inr ⟨dx, _, upd_same, by rw [upd_ne n2, upd_same], by simp, ?_⟩⟩
            exact (q1 dx n1 n2 _ _).mpr (q2 dx _ n1 n2 rfl)
        · cases h
    | p hl =>
      unfold mkV at h
      split at h <;> first | (cases h; done) | (rename_i z; cases z; done) | skip
      · rename_i i z
        split at h
        · rename_i c
          cases h
          refine ⟨_, pss_cons (ps_expr (pe_cinit hc (X := cxOf (L2.CX P w) P w K mg base Ek.p.ps qual scope f cdv A outer s H E) hy hm (by decide) (pa_cons (pe_var (i := 0) rfl (hvis _ (by simp [Ek.ps])))
            (pa_cons (pe_joined1 (pe_fmt (pe_var (i := 1) rfl (hvis _ (by simp [Ek.ps]))))) pa_nil)) rfl rfl hl))
            (pss_one (ps_ost (pe_var (i := 0) rfl (hvis _ (by simp [Ek.ps]))) (pe_var (i := 1) rfl (hvis _ (by simp [Ek.ps]))))), ?_⟩
          have il := int_len i c
          refine ⟨_, rfl, ⟨_, rfl, .inr ⟨i, rfl, il.2, a, C, _, rfl, by simp, T, ha, ?_⟩⟩⟩
          refine ⟨_, rfl, _, rfl, a, C, rfl, T, hf _ (by simp [Ek.names]), .inl ⟨ha, fun dx n1 n2 => ?_⟩⟩
          exact q2 dx _ n1 n2 rfl
        · cases h
    | r hl =>
      unfold mkV at h
      split at h <;> first | (cases h; done) | (rename_i z; cases z; done) | skip
      · rename_i sx z
        split at h
        · rename_i c
          cases h
          refine ⟨_, pss_cons (ps_expr (pe_cinit hc (X := cxOf (L2.CX P w) P w K mg base Ek.r.ps qual scope f cdv A outer s H E) hy hm (by decide) (pa_cons (pe_var (i := 0) rfl (hvis _ (by simp [Ek.ps])))
            (pa_cons (pe_var (i := 1) rfl (hvis _ (by simp [Ek.ps]))) pa_nil)) rfl rfl hl))
            (pss_one (ps_ost (pe_var (i := 0) rfl (hvis _ (by simp [Ek.ps]))) (pe_var (i := 1) rfl (hvis _ (by simp [Ek.ps]))))), ?_⟩
          refine ⟨_, rfl, _, rfl, a, C, _, rfl, by simp, T, ha, ?_⟩
          refine ⟨_, rfl, _, rfl, a, C, rfl, T, hf _ (by simp [Ek.names]), .inl ⟨ha, fun dx n1 n2 => ?_⟩⟩
          exact q2 dx _ n1 n2 rfl
        · cases h
end
end DL
set_option Elab.async false
set_option linter.all false
set_option maxRecDepth 100000
set_option maxHeartbeats 4000000
/-! DL15: try .. except, the caught error's fields and classes. -/
namespace PySem.W
open PySem PySem.Spec PySem.Calls PyProof.Rows
section
variable {prog : Program} {w : World} {A : Around} {E : Value → Shared → Prop} {s : Shared} {K : Frag} {x D : Addr} {ox : Obj} {od : Option Obj}
theorem dl_findObj {C : Addr} {name : Str} {a g : Value} (hc : (clsIn K C).isSome = true) (ha : findIn K (.ref C) name = some (some a)) (hg : specialIn K a "__get__" = some (some g)) (ht : takesIn K a = some true) : findObj K C od name = some (.bind g a) := by
  obtain ⟨cd, hc⟩ := Option.isSome_iff_exists.mp hc
  unfold findObj
  rw [hc, Option.bind_some, ha, Option.bind_some]
  simp [hg, ht]
theorem dl_classE {Q : Option Value → Shared → Prop} (hga : findIn K (.ref D) "__getattribute__" = some (some (.builtin "BaseException.__getattribute__"))) (hgt : findIn K (.ref D) "__getattr__" = some none) (hsub : subIn K (.ref D) (.type "BaseException") = some true)
    (hdct : hasDictIn K D = true) (ha : findIn K (.ref D) "__class__" = some (some (.builtin "object.__class__")))
    (hn : specialIn K (.builtin "object.__class__") "__get__" = some (some (.builtin "getset_descriptor.__get__"))) (htk : takesIn K (.builtin "object.__class__") = some true) (hm : mroIn K D (.type "object") = some true)
    (X : K.In s.heap) (I : InstAt s.heap x ox D od) (h : Q (some (.ref D)) { s with toks := s.toks + 1 }) : wpAny (model prog w) A (getAttr? (.ref x) "__class__") Q E s := by
  have hf : findObj K D od "__class__" = some (.bind (.builtin "getset_descriptor.__get__") (.builtin "object.__class__")) := dl_findObj (by obtain ⟨cd, hc, _⟩ := any_some hdct; rw [hc]; rfl) ha hn htk
  obtain ⟨hp, g, d, t, os⟩ := s
  have L0 := I.type (M := model prog w)
  have L1 := looks_findIn (M := model prog w) X hga
  have L2 := looks_findIn (M := model prog w) X hgt
  have L3 := looks_find (M := model prog w) X I hf
  have sub : Looks (model prog w) hp (isInstance (.ref x) (.type "BaseException")) true := L0.andThen (looks_subIn X hsub)
  have hx0 : (false && onTheHeap (Value.builtin "BaseException.__getattribute__")) = false := rfl
  have hx2 : (Value.builtin "BaseException.__getattribute__" == Value.builtin "object.__getattribute__") = false := by decide +kernel
  have hx1 : (onTheHeap (Value.ref D) && Value.builtin "BaseException.__getattribute__" == Value.builtin "object.__getattribute__") = false := by rw [hx2]; rfl
  unfold getAttr? getAttrBy? getAttrBy
  refine wpAny_bind (wpAny_mkText (wpAny_bind (wpAny_attempt (wpAny_holding (wpAny_bind (L0.at (wpAny_bind (L1.at ?_))))))))
  show wpAny _ _ (if (onTheHeap (Value.ref D) && Value.builtin "BaseException.__getattribute__" == Value.builtin "object.__getattribute__") = true then _ else _) _ _ _
  rw [hx1, if_neg Bool.false_ne_true]
  unfold getAttrByItsOwn hookBefore
  refine wpAny_bind ?_
  rw [if_pos (show onTheHeap (Value.ref D) = true from rfl)]
  refine L2.at ?_
  refine wpAny_bind (wpAny_attempt (wpAny_holding ?_))
  unfold callGetattribute
  rw [hx0, if_neg Bool.false_ne_true]
  unfold boundAndCalled
  rw [PySem.F.excAttr_ValueError.ga.bind (.ref x)]
  refine wpAny_bind (wpAny_pure ?_)
  show wpAny _ _ (call (.builtin "BaseException.__getattribute__") [.ref x, .str "__class__" t]) _ _ _
  refine wpAny_call (codeAny_call_builtin PySem.F.excAttr_ValueError.ga.plain PySem.F.entry_bexc_ga ?_)
  refine @check_slot (model prog w) _ _ ⟨hp, g, d, t + 1, os⟩ "BaseException.__getattribute__" "BaseException" "__getattribute__" (.ref x) [.str "__class__" t] [] _ (by decide +kernel) (by decide +kernel) sub (PySem.F.args_bexc_ga (.ref x) (.str "__class__" t)) ?_
  unfold Builtin.«object.__getattribute__»
  refine wpAny_bind (wpAny_of_eq (a := ((Value.ref x : Value), [Value.str "__class__" t])) (by first | rfl | (simp only [slotArgs]; rfl)) ?_)
  refine wpAny_bind (wpAny_pure (wpAny_bind (L0.at (wpAny_bind (L3.at ?_)))))
  show wpAny _ _ (holding [Value.builtin "object.__class__"] (call (.builtin "getset_descriptor.__get__") [.builtin "object.__class__", .ref x, .ref D]) >>= ret) _ _ _
  refine wpAny_bind (wpAny_holding (wpAny_call (class_get (s := ⟨hp, g, d, t + 1, os⟩) (ox := ox) (od := od) X I hm ?_)))
  refine wpAny_pure ?_
  show wpAny _ _ (handedOut (.ref D)) _ _ _
  rw [handedOut_of (v := .ref D) rfl]
  first
    | exact wpAny_pure (wpAny_pure h)
    | exact wpAny_pure h
    | exact wpAny_pure (wpAny_bind (wpAny_pure (wpAny_pure h)))
theorem dl_kitx (hga : findIn K (.ref D) "__getattribute__" = some (some (.builtin "BaseException.__getattribute__"))) (hgt : findIn K (.ref D) "__getattr__" = some none) (hsub : subIn K (.ref D) (.type "BaseException") = some true) (hdct : hasDictIn K D = true) (ha : findIn K (.ref D) "__class__" = some (some (.builtin "object.__class__")))
    (hn : specialIn K (.builtin "object.__class__") "__get__" = some (some (.builtin "getset_descriptor.__get__"))) (htk : takesIn K (.builtin "object.__class__") = some true) (hm : mroIn K D (.type "object") = some true) :
    KitX K (.ref x) (.ref D) (fun h => ∃ od, InstAt h x ox D od) where
  ty := fun _ _ _ ⟨_, I⟩ => I.type
  it := fun _ _ X _ => by
    obtain ⟨cdD, hcD, _⟩ := any_some hdct
    unfold clsIn at hcD
    split at hcD
    · rename_i c' d' cd' sl' ho
      intro A' Q' E' s' k q
      unfold isType loadHead
      exact wpAny_bind (wpAny_loadPart (k _ _ (X _ _ ho)) (wpAny_pure q))
    · cases hcD
  ne := fun h tp dd its n sl X htp => by
    obtain ⟨cdD, hcD, _⟩ := any_some hdct
    refine Bool.eq_false_iff.mpr fun q => ?_
    have e : D = tp := Value.ref.inj (beq_iff_eq.mp q)
    subst e
    unfold clsIn at hcD
    split at hcD
    · rename_i c' d' cd' sl' ho
      have z := (X _ _ ho).symm.trans htp
      cases z
    · cases hcD
  ca := fun X ⟨_, I⟩ k => dl_classE hga hgt hsub hdct ha hn htk hm X I k
end
end PySem.W
namespace DL
open PySem PySem.Spec PyProof.Rows L2

theorem lookup_rp {G : Gb} {W : Wd} {H : Hp} {n : Str} {e : D} : ∀ {fv : List (Str × V)} {fs : List D}, ((fv.map (·.1)).zip fs).lookup n = some e → Rps G W H fs (fv.map (·.2)) → ∃ v, fv.lookup n = some v ∧ Rp G W H e v
  | [], fs, h, r => by simp at h
  | p :: fv, [], h, r => by simp at h
  | p :: fv, d :: fs, h, r => by
    obtain ⟨v, t, e1, r1, r2⟩ := Rps.cons_iff.mp r
    obtain ⟨f, y⟩ := p
    simp only [List.map_cons, List.cons.injEq] at e1
    obtain ⟨rfl, rfl⟩ := e1
    simp only [List.map_cons, List.zip_cons_cons, List.lookup_cons] at h ⊢
    split at h
    · cases h
      exact ⟨y, rfl, r1⟩
    · exact lookup_rp h r2
section
variable {G : Gb} {E : XK} {X : Cx} {a C : Addr} {oe : Obj} {dd x : Nat} {e : Expr} {fa : M D} {pos p : Pos}
theorem k_fld {n : Str} (T : XfC X.K C) (hno : ∀ n ∈ G.xf x, PySem.W.findIn X.K (.ref C) n = some none) (hp : (a, oe) ∈ X.pn) (hz : Zc (.ref C) (some dd) oe) (hf : ∃ vs, oe.data = .fields vs) (he : PE X e (TD G E fa))
    (hb : attributeBase e n X.env (eval e X.env) = eval e X.env) : PE X (.Attribute e n pos) (TD G E fun r S => (fa r S).bind (fFld (some (a, dd, x)) G.xf n)) := by
  refine ⟨fun pins s σ H Q I h => ?_⟩
  refine attr_of hb (thn (he.run pins s σ H _ I (DL.T.seq' h)) fun u s1 hh => ?_)
  obtain ⟨v, H1, I1, rx, W, r, S, d, rel, rd, k⟩ := hh
  unfold fFld at k
  split at k
  · rename_i a' dd' x' fs
    split at k
    · rename_i ee
      split at k
      · rename_i e2 hl
        simp only [Option.some.injEq, Prod.mk.injEq] at ee
        obtain ⟨rfl, rfl, rfl⟩ := ee
        obtain ⟨rfl, h1, h2, fv, ea, hn, r2⟩ := rp_exn rd
        rw [← hn] at hl
        obtain ⟨vv, l, rv⟩ := lookup_rp hl r2
        obtain rfl : u = Value.ref a := rx
        obtain ⟨ha, _⟩ := I1.pin (a, oe) (List.mem_append_left _ hp)
        obtain ⟨vs, hd⟩ := hf
        have hx : ObjOk X.prog X.w H1 s1.heap dd (.xd fv) := I1.hok dd _ ea
        obtain ⟨mA, hns, hr⟩ := hx
        obtain ⟨od, ho, hl2⟩ := lookIn_ns hns
        obtain ⟨u, hu, ru⟩ := RelO.some_of (v := vv) (o := mA n) (by rw [← l]; exact hr n)
        have J : PySem.W.InstAt s1.heap a oe C (some od) := ⟨ha, hz.1, by unfold PySem.W.notCls; rw [hd] <;> rfl, by rw [hz.2]; exact ho⟩
        have hm : n ∈ G.xf x := by
          rw [← hn]
          exact List.mem_map.mpr ⟨(n, vv), List.lookup_eq_some_iff.mp l |> fun ⟨l1, l2, e, _⟩ => by rw [e]; simp, rfl⟩
        exact HandSPX.exc_get I1.kIn J T.ga T.gg T.exC (PySem.W.findObj_own T.hdC (hno n hm) rfl (by rw [hl2, hu])) (handed_of ru) ⟨vv, H1, I1.tok _, ru, k.done rel.st rv⟩
      · exact k.no
    · exact k.no
  · exact k.no
/-- isinstance(e, c) of the caught error -/
theorem k_isx {ty : Str} {c : V} {cv : Value} {isx : Nat → Str → Option Bool} {p2 : Pos} (T : ExcC X.K C) (hp : (a, oe) ∈ X.pn) (hz : Zc (.ref C) (some dd) oe) (hf : ∃ vs, oe.data = .fields vs) (hg : Gl X "isinstance") (hm : X.mg "isinstance" = none)
    (hT : PE X (.Name ty p2) (tC c)) (hcv : ∀ u, L2.RelV c u → u = cv) (hk : ∀ b, isx x ty = some b → PySem.W.kitOne X.K (.ref C) cv = some b) (hv : bootBuiltins "isinstance" = some (.builtin "isinstance"))
    (ha : PE X e (TD G E fa)) (he : starEach [e, .Name ty p2] X.env = (false, eval e X.env) :: starEach [.Name ty p2] X.env) :
    PE X (.Call (.Name "isinstance" p) [e, .Name ty p2] [] pos) (TD G E fun r S => (fa r S).bind fun d S1 => fIsx (some (a, dd, x)) isx ty d S1) := by
  have call : CallR X (.builtin "isinstance") (fun xs H Q => ∃ (fv : List (Str × V)) (b : Bool), xs = [.ref a, c] ∧ H dd = some (.xd fv) ∧ PySem.W.kitOne X.K (.ref C) cv = some b ∧ Q (.bl b) H) := by
    intro pins s σ H xs us Q I r h
    obtain ⟨fv, b, rfl, hH, e, q⟩ := h
    cases r with
    | cons rx rr =>
      cases rr with
      | cons rt rr =>
        cases rr
        cases rx
        have ec := hcv _ rt
        subst ec
        obtain ⟨hget, _⟩ := I.pin (a, oe) (List.mem_append.mpr (.inl hp))
        obtain ⟨vs, hv⟩ := hf
        obtain ⟨mA, hns, _⟩ := (show ObjOk X.prog X.w H s.heap dd (.xd fv) from I.hok dd _ hH)
        obtain ⟨od, ho, _⟩ := lookIn_ns hns
        have J : PySem.W.InstAt s.heap a oe C (some od) := ⟨hget, hz.1, by unfold PySem.W.notCls; rw [hv] <;> rfl, by rw [hz.2]; exact ho⟩
        exact PySem.W.kia_one (PySem.W.dl_kitx T.hg T.hk T.hs T.hd T.ha T.hn T.ht T.hm) I.kIn ⟨_, J⟩ e (fun z => nomatch z) fun tk => ⟨.bl b, H, I.kept (t' := tk) fun _ _ z => z, rfl, q⟩
  refine PE.imp (pe_callB call hg hm hv (pa_cons ha (pa_cons hT pa_nil) he) (by decide +kernel) (by decide +kernel) he rfl) fun q H Q h => DL.T.imp (DL.T.seq' h) fun v H1 ⟨W, r, S, d, rel, rd, k⟩ => ?_
  unfold fIsx at k
  split at k
  · split at k
    · rename_i ee
      split at k
      · rename_i b hl
        simp only [Option.some.injEq, Prod.mk.injEq] at ee
        obtain ⟨rfl, rfl, rfl⟩ := ee
        obtain ⟨rfl, h1, h2, fv, ea, hn, r2⟩ := rp_exn rd
        exact ⟨fv, b, rfl, ea, hk b hl, k.done rel.st mk_bl⟩
      · exact k.no
    · exact k.no
  · exact k.no
end

/-! ### try -/
open Classical in
noncomputable def anyA (g : Nat → Nat → Rs) : Rs := if h : ∃ R, ∀ a dd, g a dd = R then h.choose else .bad
theorem anyA_eq {g : Nat → Nat → Rs} {R : Rs} (h : ∀ a dd, g a dd = R) : anyA g = R := by
  have h1 : ∃ R, ∀ a dd, g a dd = R := ⟨R, h⟩
  unfold anyA
  rw [dif_pos h1]
  exact (h1.choose_spec 0 0).symm.trans (h 0 0)
theorem anyA_of {g : Nat → Nat → Rs} (hb : anyA g ≠ .bad) (a dd : Nat) : g a dd = anyA g := by
  unfold anyA at hb ⊢
  split at hb
  · rename_i h1
    rw [dif_pos h1]
    exact h1.choose_spec a dd
  · exact absurd rfl hb
def retOnly (x : Rs) : Rs := match x with
  | .ret d S => .ret d S
  | _ => .bad
/-- the slots in an except suite: the error's alone -/
def excL (i : Option Nat) (d : D) : Loc := match i with
  | some i => (List.replicate (i + 1) none).set i (some d)
  | none => []
noncomputable def tryR (res : Rs) (exm : Nat → Option Bool) (i : Option Nat) (suite : Nat → Nat → Nat → MS) : Rs := match res with
  | .err x fs S => match exm x with
    | some true => anyA fun a dd => retOnly (suite a dd x (excL i (.exn a dd x fs)) S)
    | some false => .err x fs S
    | none => .bad
  | res => res
theorem takes_len {X : Cx} {W : WX} (t : Takes X W) : Takes X (fun c d _ H => ∀ σ : L2.St, σ.length = X.N.length → W c d σ H) := fun u s' ⟨a, B, sI, pins, σ, H, cls, d, e, I, nb, up, sky, na, os, ag, w⟩ =>
  t u s' ⟨a, B, sI, pins, σ, H, cls, d, e, I, nb, up, sky, na, os, ag, w σ I.len⟩
section
variable {G : Gb} {E : XK} {X : Cx} {x n : Str} {c : Value} {i : Nat} {body suite : List Stmt} {b₀ : Stmt} {np pos pos' : Pos} {mb : MS} {ms : Nat → Nat → Nat → MS} {exm : Nat → Option Bool}
theorem k_try_as (hs : X.stack = X.env :: X.outer) (hf : X.env.frame = some X.env.locals) (hN : X.N.Nodup) (hi : X.N[i]? = some n) (hln : X.env.kindOf n = some .local) (hc : Names X x c) (tk : Takes X fun c d _ H => E c d H)
    (hexm : ∀ x C b, G.ca x = some C → exm x = some b → PySem.W.exmOne X.K (.ref C) c = some b)
    (hb : ∀ (E' : XK) (pn : List (Addr × Obj)) (xe : Value → Shared → Prop), Takes (X.tr pn xe) (fun c d _ H => E' c d H) → PassesOwn (model X.prog X.w) X.A X.env xe → PSs (X.tr pn xe) body (TSm G E' mb))
    (hsu : ∀ (a dd x : Nat) (oe : Obj) (C : Addr) (pn : List (Addr × Obj)), G.ca x = some C → Zc (.ref C) (some dd) oe → (∃ vs, oe.data = .fields vs) → PSs (X.suite a ((a, oe) :: pn)) (b₀ :: suite) (TSm G (fun _ _ _ => False) (ms a dd x))) :
    PS X (.Try body [.ExceptHandler (some (.Name x np)) (some n) (b₀ :: suite) pos'] [] [] pos) (TSm G E fun r S => tryR (mb r S) exm (some i) ms) := by
  refine PS.imp (ps_try_as hs hf hN hi hln hc tk (tb := fun W => TSm G (fun c d H => ∀ σ : L2.St, σ.length = X.N.length → W c d σ H) mb)
    (ts := fun a cls d D q H => ∃ (x : Nat) (C dd : Addr), cls = .ref C ∧ d = some dd ∧ G.ca x = some C ∧ TSm G (fun _ _ _ => False) (ms a dd x) D q H)
    (fun W pn xe t po => hb _ pn xe (takes_len t) po) fun a oe cls d pn hz hf => ⟨fun pins s q H D I h => ?_⟩) fun D q H h => ?_
  · obtain ⟨x, C, dd, rfl, rfl, hC, h⟩ := h
    exact (hsu a dd x oe C pn hC hz hf).run pins s q H D I h
  · obtain ⟨W, r, S, rel, p⟩ := h
    refine ⟨W, r, S, rel, ?_⟩
    dsimp only at p
    cases hm : mb r S with
    | nx r2 S2 => rw [hm] at p; exact p
    | ret d S2 => rw [hm] at p; exact p
    | brk r2 S2 => rw [hm] at p; exact p
    | ct r2 S2 => rw [hm] at p; exact p
    | bad => rw [hm] at p; exact p
    | err x fs S2 =>
      rw [hm] at p
      intro W' H' c dd ext st er σ hl
      have er0 := er
      obtain ⟨C, dx, fv, hC, rfl, rfl, h1, h2, h3, h4, h5⟩ := er
      unfold tryR at p
      dsimp only at p
      split at p
      · rename_i he
        refine ⟨true, hexm _ _ _ hC he, fun _ a ha => ⟨x, C, dx, rfl, rfl, hC, W', excL (some i) (.exn a dx x fs), S2, ⟨⟨?_, fun j d e => ?_⟩, st⟩, ?_⟩, fun z => by cases z⟩
        · show ((List.replicate (i + 1) none).set i _).length ≤ _
          have := (List.getElem?_eq_some_iff.mp hi).1
          rw [List.length_set, List.length_set, List.length_replicate, hl]
          exact this
        · have e : ((List.replicate (i + 1) none).set i (some (DL.D.exn a dx x fs)))[j]? = some (some d) := e
          by_cases hj : j = i
          · subst hj
            rw [List.getElem?_set_self (by simp)] at e
            cases e
            refine ⟨.ref a, by rw [List.getElem?_set_self (by rw [hl]; exact (List.getElem?_eq_some_iff.mp hi).1)], ?_⟩
            simp only [Rp]
            exact ⟨trivial, h1, h2, fv, h3, h4, h5⟩
          · rw [List.getElem?_set_ne (Ne.symm hj), List.getElem?_replicate] at e
            split at e <;> cases e
        · have hb : anyA (fun a dd => retOnly (ms a dd x (excL (some i) (.exn a dd x fs)) S2)) ≠ .bad := fun z => by rw [z] at p; exact p
          have e1 := anyA_of hb a dx
          rw [← e1] at p
          cases hq : ms a dx x (excL (some i) (.exn a dx x fs)) S2 with
          | ret d S3 =>
            rw [hq] at p
            exact fun W2 H2 v y s2 r2 => p W2 H2 v (ext.trans y) s2 r2
          | _ => rw [hq] at p; exact p.elim
      · rename_i he
        exact ⟨false, hexm _ _ _ hC he, (fun z => by cases z), fun _ => p W' H' _ _ ext st er0⟩
      · exact p.elim
theorem k_try_only (hs : X.stack = X.env :: X.outer) (hf : X.env.frame = some X.env.locals) (hc : Names X x c) (tk : Takes X fun c d _ H => E c d H)
    (hexm : ∀ x C b, G.ca x = some C → exm x = some b → PySem.W.exmOne X.K (.ref C) c = some b)
    (hb : ∀ (E' : XK) (pn : List (Addr × Obj)) (xe : Value → Shared → Prop), Takes (X.tr pn xe) (fun c d _ H => E' c d H) → PassesOwn (model X.prog X.w) X.A X.env xe → PSs (X.tr pn xe) body (TSm G E' mb))
    (hsu : ∀ (a dd x : Nat) (oe : Obj) (C : Addr) (pn : List (Addr × Obj)), G.ca x = some C → Zc (.ref C) (some dd) oe → (∃ vs, oe.data = .fields vs) → PSs (X.suite a ((a, oe) :: pn)) (b₀ :: suite) (TSm G (fun _ _ _ => False) (ms a dd x))) :
    PS X (.Try body [.ExceptHandler (some (.Name x np)) none (b₀ :: suite) pos'] [] [] pos) (TSm G E fun r S => tryR (mb r S) exm none ms) := by
  refine PS.imp (ps_try_only hs hf hc tk (tb := fun W => TSm G (fun c d H => ∀ σ : L2.St, σ.length = X.N.length → W c d σ H) mb)
    (ts := fun a cls d D q H => ∃ (x : Nat) (C dd : Addr), cls = .ref C ∧ d = some dd ∧ G.ca x = some C ∧ TSm G (fun _ _ _ => False) (ms a dd x) D q H)
    (fun W pn xe t po => hb _ pn xe (takes_len t) po) fun a oe cls d pn hz hf => ⟨fun pins s q H D I h => ?_⟩) fun D q H h => ?_
  · obtain ⟨x, C, dd, rfl, rfl, hC, h⟩ := h
    exact (hsu a dd x oe C pn hC hz hf).run pins s q H D I h
  · obtain ⟨W, r, S, rel, p⟩ := h
    refine ⟨W, r, S, rel, ?_⟩
    dsimp only at p
    cases hm : mb r S with
    | nx r2 S2 => rw [hm] at p; exact p
    | ret d S2 => rw [hm] at p; exact p
    | brk r2 S2 => rw [hm] at p; exact p
    | ct r2 S2 => rw [hm] at p; exact p
    | bad => rw [hm] at p; exact p
    | err x fs S2 =>
      rw [hm] at p
      intro W' H' c dd ext st er σ hl
      have er0 := er
      obtain ⟨C, dx, fv, hC, rfl, rfl, h1, h2, h3, h4, h5⟩ := er
      unfold tryR at p
      dsimp only at p
      split at p
      · rename_i he
        refine ⟨true, hexm _ _ _ hC he, fun _ a ha => ⟨x, C, dx, rfl, rfl, hC, W', excL none (.exn a dx x fs), S2, ⟨⟨Nat.zero_le _, fun j d e => ?_⟩, st⟩, ?_⟩, fun z => by cases z⟩
        · have e : ([] : Loc)[j]? = some (some d) := e
          simp at e
        · have hb : anyA (fun a dd => retOnly (ms a dd x (excL none (.exn a dd x fs)) S2)) ≠ .bad := fun z => by rw [z] at p; exact p
          have e1 := anyA_of hb a dx
          rw [← e1] at p
          cases hq : ms a dx x (excL none (.exn a dx x fs)) S2 with
          | ret d S3 =>
            rw [hq] at p
            exact fun W2 H2 v y s2 r2 => p W2 H2 v (ext.trans y) s2 r2
          | _ => rw [hq] at p; exact p.elim
      · rename_i he
        exact ⟨false, hexm _ _ _ hC he, (fun z => by cases z), fun _ => p W' H' _ _ ext st er0⟩
      · exact p.elim
end
end DL
set_option Elab.async false
set_option linter.all false
set_option maxRecDepth 100000
set_option maxHeartbeats 4000000
/-! DL16: text methods, f-strings, enumerate, zip. -/
namespace DL
open PySem PySem.Spec PyProof.Rows L2
section
variable {X : Cx} {G : Gb} {E : XK}
theorem st_len (a : List Nat) : (strO a).length = a.length := by simp [strO, Str.length]
theorem mk_strO {W : Wd} {H : Hp} {a : List Nat} : Rp G W H (.str a) (.str (strO a)) := mk_str
theorem mk_strL {W : Wd} {H : Hp} {a : Str} : Rp G W H (strL a) (.str a) := by
  have : (⟨a.cps.toList.toArray⟩ : Str) = a := by simp
  have q : Rp G W H (.str a.cps.toList) (.str ⟨a.cps.toList.toArray⟩) := mk_str
  rw [this] at q
  exact q
theorem rps_strs {W : Wd} {H : Hp} : ∀ (ys : List Str), Rps G W H (ys.map strL) (ys.map V.str)
  | [] => Rps.nil
  | y :: ys => Rps.cons mk_strL (rps_strs ys)
theorem strsD_rps {W : Wd} {H : Hp} : ∀ {ds : List D} {vs : List V} {xs : List (List Nat)}, strsD ds = some xs → Rps G W H ds vs → vs = (xs.map strO).map V.str
  | [], vs, xs, h, r => by
    cases h
    rw [Rps.nil_iff.mp r]
    rfl
  | .str s :: ds, vs, xs, h, r => by
    simp only [strsD, Option.map_eq_some_iff] at h
    obtain ⟨ys, h, rfl⟩ := h
    obtain ⟨v, t, rfl, r1, r2⟩ := Rps.cons_iff.mp r
    rw [rp_str r1, strsD_rps h r2]
    rfl
  | .non :: _, _, _, h, _ => by cases h
  | .bl _ :: _, _, _, h, _ => by cases h
  | .int _ :: _, _, _, h, _ => by cases h
  | .tup _ :: _, _, _, h, _ => by cases h
  | .lst _ :: _, _, _, h, _ => by cases h
  | .ref _ :: _, _, _, h, _ => by cases h
  | .fn _ :: _, _, _, h, _ => by cases h
  | .scr _ :: _, _, _, h, _ => by cases h
  | .exn _ _ _ _ :: _, _, _, h, _ => by cases h
theorem sum_len (xs : List (List Nat)) : ((xs.map strO).map (·.length)).sum = (xs.map (·.length)).sum := by
  induction xs with
  | nil => rfl
  | cons x xs ih => simp only [List.map_cons, List.sum_cons, ih, st_len]
theorem strO_app (a b : List Nat) : strO a ++ strO b = strO (a ++ b) := by
  show (⟨_ ++ _⟩ : Str) = _
  simp [strO]
theorem join_eq (a : List Nat) : ∀ xs : List (List Nat), Txt.join (strO a) (xs.map strO) = strO (joinS a xs) := fun xs => by
  show Builtin.Str.glued _ _ = _
  rw [StrLaws.glued_eq_join]
  induction xs with
  | nil => rfl
  | cons x xs ih =>
    cases xs with
    | nil => rfl
    | cons y r =>
      show strO x ++ strO a ++ Str.join (strO a) ((y :: r).map strO) = strO (x ++ a ++ joinS a (y :: r))
      rw [ih, strO_app, strO_app]
theorem new_strs {W : Wd} {H : Hp} {S : Sto} {Q : VK} {ys : List Str} (st : StoR G W H S) (p : Post G E (Rp G) W H (.ok (.lst (ys.map strL)) S) Q) : rNewStrs ys H Q := out_lst st p (rps_strs ys)
theorem m_join (hK : G.K = X.K) : MtR X "str.join" (rM G E fJoin) := by
  intro pins s σ H x xs v us Q I rx rs h
  obtain ⟨W, S, d, ds, st, rd, rds, p⟩ := h
  unfold fJoin at p
  split at p
  · rename_i a e
    cases rp_str rd
    obtain ⟨ve, rfl, re⟩ := rds.one_inv
    split at p
    · rename_i es hv
      split at p
      · rename_i xs hx
        split at p
        · rename_i hz
          obtain ⟨q, vs, rfl, hq, rq⟩ := rd_lst st hv re
          have hvs := strsD_rps hx rq
          subst hvs
          refine mt_join pins s σ H _ _ v us Q I rx rs ⟨strO a, q, xs.map strO, rfl, rfl, .inl (SqL.of hq), ?_, ?_⟩
          · rw [sum_len, List.length_map, st_len]
            omega
          · rw [join_eq]
            exact p.done st mk_strO
        · exact p.no
      · exact p.no
    · rename_i es hv
      split at p
      · rename_i xs hx
        split at p
        · rename_i hz
          have hv := vw_of hv (by simp)
          subst hv
          obtain ⟨q, vs, rfl, pq, rq⟩ := rp_tup re
          have hvs := strsD_rps hx rq
          subst hvs
          refine mt_join pins s σ H _ _ v us Q I rx rs ⟨strO a, q, xs.map strO, rfl, rfl, .inr (by rw [← hK]; exact pq.sq), ?_, ?_⟩
          · rw [sum_len, List.length_map, st_len]
            omega
          · rw [join_eq]
            exact p.done st mk_strO
        · exact p.no
      · exact p.no
    · exact p.no
  · exact p.no
theorem m_split : MtR X "str.split" (rM G E fSplit) := by
  intro pins s σ H x xs v us Q I rx rs h
  obtain ⟨W, S, d, ds, st, rd, rds, p⟩ := h
  unfold fSplit at p
  split at p
  · rename_i a b
    cases rp_str rd
    obtain ⟨ve, rfl, re⟩ := rds.one_inv
    cases rp_str re
    split at p
    · rename_i hz
      exact mt_split pins s σ H _ _ v us Q I rx rs ⟨strO a, strO b, rfl, rfl, by rw [st_len]; simpa using hz.1, by rw [st_len, sizeLine_eq]; omega, new_strs st p⟩
    · exact p.no
  · exact p.no
theorem m_words : MtR X "str.split" (rM G E fWords) := by
  intro pins s σ H x xs v us Q I rx rs h
  obtain ⟨W, S, d, ds, st, rd, rds, p⟩ := h
  unfold fWords at p
  split at p
  · rename_i a
    cases rp_str rd
    rw [Rps.nil_iff] at rds
    subst rds
    split at p
    · rename_i hz
      exact mt_words pins s σ H _ _ v us Q I rx rs ⟨strO a, rfl, rfl, by rw [st_len, sizeLine_eq]; omega, new_strs st p⟩
    · exact p.no
  · exact p.no
theorem m_splitMax : MtR X "str.split" (rM G E fSplitMax) := by
  intro pins s σ H x xs v us Q I rx rs h
  obtain ⟨W, S, d, ds, st, rd, rds, p⟩ := h
  unfold fSplitMax at p
  split at p
  · rename_i a b k
    cases rp_str rd
    obtain ⟨v1, v2, rfl, r1, r2⟩ := rds.two_inv
    cases rp_str r1
    cases rp_int r2
    split at p
    · rename_i hz
      exact mt_splitMax pins s σ H _ _ v us Q I rx rs ⟨strO a, strO b, k, rfl, rfl, by rw [st_len]; simpa using hz.1, by omega, by omega, by rw [st_len, sizeLine_eq]; omega, new_strs st p⟩
    · exact p.no
  · exact p.no
theorem m_starts : MtR X "str.startswith" (rM G E fStarts) := by
  intro pins s σ H x xs v us Q I rx rs h
  obtain ⟨W, S, d, ds, st, rd, rds, p⟩ := h
  unfold fStarts at p
  split at p
  · rename_i a b
    cases rp_str rd
    obtain ⟨ve, rfl, re⟩ := rds.one_inv
    cases rp_str re
    exact mt_startswith pins s σ H _ _ v us Q I rx rs ⟨strO a, strO b, rfl, rfl, p.done st mk_bl⟩
  · exact p.no
theorem m_tx0 {id : String} {g : Str → Bool} (m : MtR X id (fun x xs H Q => ∃ a, x = .str a ∧ xs = [] ∧ True ∧ Q (.bl (g a)) H)) : MtR X id (rM G E (fTx0 g)) := by
  intro pins s σ H x xs v us Q I rx rs h
  obtain ⟨W, S, d, ds, st, rd, rds, p⟩ := h
  unfold fTx0 at p
  split at p
  · rename_i a
    cases rp_str rd
    rw [Rps.nil_iff] at rds
    subst rds
    exact m pins s σ H _ _ v us Q I rx rs ⟨strO a, rfl, rfl, trivial, p.done st mk_bl⟩
  · exact p.no
theorem m_lower : MtR X "str.lower" (rM G E fLower) := by
  intro pins s σ H x xs v us Q I rx rs h
  obtain ⟨W, S, d, ds, st, rd, rds, p⟩ := h
  unfold fLower at p
  split at p
  · rename_i a
    cases rp_str rd
    rw [Rps.nil_iff] at rds
    subst rds
    split at p
    · exact mt_lower pins s σ H _ _ v us Q I rx rs ⟨strO a, rfl, rfl, by rw [st_len]; omega, p.done st mk_strL⟩
    · exact p.no
  · exact p.no
theorem m_tx1 {id : String} {g : Str → Str → Str} (m : MtR X id (fun x xs H Q => ∃ a b, x = .str a ∧ xs = [.str b] ∧ a.length ≤ sizeLine ∧ Q (.str (g a b)) H)) : MtR X id (rM G E (fTx1 g)) := by
  intro pins s σ H x xs v us Q I rx rs h
  obtain ⟨W, S, d, ds, st, rd, rds, p⟩ := h
  unfold fTx1 at p
  split at p
  · rename_i a b
    cases rp_str rd
    obtain ⟨ve, rfl, re⟩ := rds.one_inv
    cases rp_str re
    split at p
    · exact m pins s σ H _ _ v us Q I rx rs ⟨strO a, strO b, rfl, rfl, by rw [st_len]; exact sz (by omega), p.done st mk_strL⟩
    · exact p.no
  · exact p.no
theorem m_find2 : MtR X "str.find" (rM G E fFind2) := by
  intro pins s σ H x xs v us Q I rx rs h
  obtain ⟨W, S, d, ds, st, rd, rds, p⟩ := h
  unfold fFind2 at p
  split at p
  · rename_i a b i
    cases rp_str rd
    obtain ⟨v1, v2, rfl, r1, r2⟩ := rds.two_inv
    cases rp_str r1
    cases rp_int r2
    exact mt_find3 pins s σ H _ _ v us Q I rx rs ⟨strO a, strO b, i, rfl, rfl, p.done st mk_int⟩
  · exact p.no
theorem m_find3 : MtR X "str.find" (rM G E fFind3) := by
  intro pins s σ H x xs v us Q I rx rs h
  obtain ⟨W, S, d, ds, st, rd, rds, p⟩ := h
  unfold fFind3 at p
  split at p
  · rename_i a b i j
    cases rp_str rd
    obtain ⟨v1, t, rfl, r1, rds⟩ := Rps.cons_iff.mp rds
    obtain ⟨v2, v3, rfl, r2, r3⟩ := rds.two_inv
    cases rp_str r1
    cases rp_int r2
    cases rp_int r3
    exact mt_find4 pins s σ H _ _ v us Q I rx rs ⟨strO a, strO b, i, j, rfl, rfl, p.done st mk_int⟩
  · exact p.no
/-- the name and the built-in behind each method -/
def mtName : Mt → Str
  | .append => "append" | .pop => "pop" | .extend => "extend" | .join => "join" | .split => "split" | .words => "split" | .splitMax => "split" | .startswith => "startswith" | .isdigit => "isdigit" | .isascii => "isascii"
  | .isprintable => "isprintable" | .isalnum => "isalnum" | .isalpha => "isalpha" | .lower => "lower" | .removeprefix => "removeprefix" | .lstripC => "lstrip" | .find2 => "find" | .find3 => "find"
def mtId : Mt → String
  | .append => "list.append" | .pop => "list.pop" | .extend => "list.extend" | .join => "str.join" | .split => "str.split" | .words => "str.split" | .splitMax => "str.split" | .startswith => "str.startswith" | .isdigit => "str.isdigit" | .isascii => "str.isascii"
  | .isprintable => "str.isprintable" | .isalnum => "str.isalnum" | .isalpha => "str.isalpha" | .lower => "str.lower" | .removeprefix => "str.removeprefix" | .lstripC => "str.lstrip" | .find2 => "str.find" | .find3 => "str.find"
theorem mt_all (hK : G.K = X.K) (m : Mt) : MtR X (mtId m) (rM G E (mtF m)) := by
  cases m with
  | append => exact m_append
  | pop => exact m_pop
  | extend => exact m_extend
  | join => exact m_join hK
  | split => exact m_split
  | words => exact m_words
  | splitMax => exact m_splitMax
  | startswith => exact m_starts
  | isdigit => exact m_tx0 mt_isdigit
  | isascii => exact m_tx0 mt_isascii
  | isprintable => exact m_tx0 mt_isprintable
  | isalnum => exact m_tx0 mt_isalnum
  | isalpha => exact m_tx0 mt_isalpha
  | lower => exact m_lower
  | removeprefix => exact m_tx1 mt_removeprefix
  | lstripC => exact m_tx1 mt_lstripChars
  | find2 => exact m_find2
  | find3 => exact m_find3
theorem mt_slot (m : Mt) : Slot (mtT m) (mtName m) (mtId m) := by
  cases m with
  | append => exact PySem.F.slot_list_append
  | pop => exact PySem.F.slot_list_pop
  | extend => exact PySem.F.slot_list_extend
  | join => exact PySem.F.slot_str_join
  | split => exact PySem.F.slot_str_split
  | words => exact PySem.F.slot_str_split
  | splitMax => exact PySem.F.slot_str_split
  | startswith => exact PySem.F.slot_str_startswith
  | isdigit => exact PySem.F.slot_str_isdigit
  | isascii => exact PySem.F.slot_str_isascii
  | isprintable => exact PySem.F.slot_str_isprintable
  | isalnum => exact PySem.F.slot_str_isalnum
  | isalpha => exact PySem.F.slot_str_isalpha
  | lower => exact PySem.F.slot_str_lower
  | removeprefix => exact PySem.F.slot_str_removeprefix
  | lstripC => exact PySem.F.slot_str_lstrip
  | find2 => exact PySem.F.slot_str_find
  | find3 => exact PySem.F.slot_str_find
theorem mt_pa (m : Mt) : PlainAttrs (mtT m) := by
  cases m with
  | append => exact PySem.F.plainAttrs_list
  | pop => exact PySem.F.plainAttrs_list
  | extend => exact PySem.F.plainAttrs_list
  | join => exact PySem.F.plainAttrs_str
  | split => exact PySem.F.plainAttrs_str
  | words => exact PySem.F.plainAttrs_str
  | splitMax => exact PySem.F.plainAttrs_str
  | startswith => exact PySem.F.plainAttrs_str
  | isdigit => exact PySem.F.plainAttrs_str
  | isascii => exact PySem.F.plainAttrs_str
  | isprintable => exact PySem.F.plainAttrs_str
  | isalnum => exact PySem.F.plainAttrs_str
  | isalpha => exact PySem.F.plainAttrs_str
  | lower => exact PySem.F.plainAttrs_str
  | removeprefix => exact PySem.F.plainAttrs_str
  | lstripC => exact PySem.F.plainAttrs_str
  | find2 => exact PySem.F.plainAttrs_str
  | find3 => exact PySem.F.plainAttrs_str
theorem mt_ty (m : Mt) : typeOf (.builtin (mtId m)) = pure (.type "method_descriptor") := by
  cases m with
  | append => exact PySem.F.type_list_append
  | pop => exact PySem.F.type_list_pop
  | extend => exact PySem.F.type_list_extend
  | join => exact PySem.F.type_str_join
  | split => exact PySem.F.type_str_split
  | words => exact PySem.F.type_str_split
  | splitMax => exact PySem.F.type_str_split
  | startswith => exact PySem.F.type_str_startswith
  | isdigit => exact PySem.F.type_str_isdigit
  | isascii => exact PySem.F.type_str_isascii
  | isprintable => exact PySem.F.type_str_isprintable
  | isalnum => exact PySem.F.type_str_isalnum
  | isalpha => exact PySem.F.type_str_isalpha
  | lower => exact PySem.F.type_str_lower
  | removeprefix => exact PySem.F.type_str_removeprefix
  | lstripC => exact PySem.F.type_str_lstrip
  | find2 => exact PySem.F.type_str_find
  | find3 => exact PySem.F.type_str_find

/-! ### f-strings -/
variable {e : Expr} {es : List Expr} {fa : M D} {f : M (List D)} {pos p : Pos}
theorem k_fmt (he : PE X e (TD G E fa)) : PE X (.FormattedValue e (-1) none pos) (TD G E fun r S => (fa r S).bind fFmt) :=
  PE.imp (pe_fmt he) fun q H Q h => DL.T.imp (DL.T.seq' h) fun v H1 ⟨W, r, S, d, rel, rd, k⟩ => by
    unfold fFmt at k
    split at k
    · rename_i i
      cases rp_int rd
      split at k
      · rename_i hz
        refine .inr ⟨i, rfl, hz, ?_⟩
        have q := k.done rel.st mk_str
        unfold digS at q
        simpa using q
      · exact k.no
    · rename_i x
      cases rp_str rd
      split at k
      · rename_i hz
        exact .inl ⟨_, rfl, by rw [show (⟨x.toArray⟩ : Str).length = x.length by simp [Str.length]]; exact sz hz, k.done rel.st mk_str⟩
      · exact k.no
    · exact k.no
/-- the parts of an f-string -/
inductive PJs (X : Cx) (G : Gb) (E : XK) : List Expr → M (List (List Nat)) → Prop where
  | nil : PJs X G E [] fun _ S => .ok [] S
  | cons {e : Expr} {es : List Expr} {fa : M D} {f : M (List (List Nat))} (h : PE X e (TD G E fa)) (r : PJs X G E es f) : PJs X G E (e :: es) fun r S => (fa r S).bind fun d S1 => match d with
    | .str s => if s.length ≤ 100000 then (f r S1).bind fun xs S2 => .ok (s :: xs) S2 else .bad
    | _ => .bad
theorem bind_assoc {α β γ : Type} (x : Re α) (g : α → Sto → Re β) (k : β → Sto → Re γ) : (x.bind g).bind k = x.bind fun a S => (g a S).bind k := by cases x <;> rfl
theorem pj_of {es : List Expr} {f : M (List (List Nat))} (h : PJs X G E es f) : ∃ ts, PJ X es ts ∧ ∀ (ac : List Nat) (W : Wd) (r : Loc) (S : Sto) (q : L2.St) (H : Hp) (Q : Str → Hp → Prop), Rel G W r S q H →
    Post G E (Rp G) W H ((f r S).bind fun xs S2 => if ac.length + (xs.map (·.length)).sum ≤ 1000000 then .ok (.str (ac ++ xs.flatten)) S2 else .bad) (fun v H' => ∀ y, v = .str y → Q y H') → ac.length + 100000 * es.length ≤ 10000000 → tJs ts (strO ac) q H Q := by
  induction h with
  | nil =>
    refine ⟨[], .nil, fun ac W r S q H Q rel p hz => ?_⟩
    simp only [bind_ok] at p
    split at p
    · have := p.done rel.st mk_str
      simpa [tJs, strO] using this
    · exact p.no
  | @cons e es fa f h r ih =>
    obtain ⟨ts, h2, ih⟩ := ih
    refine ⟨_, .cons h h2, fun ac W r S q H Q rel p hz => ?_⟩
    rw [bind_assoc] at p
    refine ⟨W, r, S, rel, Post.imp (Post.thn (p := Rp G) p) fun v H1 ⟨W1, d, S1, ext, st, rd, k⟩ => ?_⟩
    split at k
    · rename_i s
      cases rp_str rd
      split at k
      · rename_i hs
        rw [bind_assoc] at k
        simp only [bind_ok, List.map_cons, List.sum_cons, List.flatten_cons] at k
        refine ⟨strO s, rfl, ?_, ?_⟩
        · rw [strO_app, st_len, List.length_append, sizeLine_eq]
          omega
        · rw [strO_app]
          refine ih (ac ++ s) W1 r S1 q H1 Q ⟨rel.sl.ext ext, st⟩ ?_ (by rw [List.length_append]; rw [List.length_cons] at hz; omega)
          simpa only [List.length_append, List.append_assoc, Nat.add_assoc] using k
      · exact k.no
    · exact k.no
/-- f'..' -/
theorem k_joi {v1 v2 : Expr} {rest : List Expr} {f : M (List (List Nat))} (hl : (v1 :: v2 :: rest).length ≤ 100) (h : PJs X G E (v1 :: v2 :: rest) f) : PE X (.JoinedStr (v1 :: v2 :: rest) pos) (TD G E fun r S => (f r S).bind fCat) := by
  obtain ⟨ts, h1, h2⟩ := pj_of h
  refine PE.imp (pe_joined h1) fun q H Q ⟨W, r, S, rel, p⟩ => ?_
  refine h2 [] W r S q H _ rel ?_ (by simp only [List.length_nil]; omega)
  simp only [List.length_nil, Nat.zero_add, List.nil_append]
  exact Post.imp p fun v H' hq y hy => by rw [← hy]; exact hq
theorem k_joi1 {v1 : Expr} (h : PE X v1 (TD G E fa)) : PE X (.JoinedStr [v1] pos) (TD G E fa) := pe_joined1 h

/-! ### enumerate, zip -/
theorem enumD_length : ∀ (ds : List D) (k : Int), (enumD k ds).length = ds.length
  | [], _ => rfl
  | d :: ds, k => by simp only [enumD, List.length_cons, enumD_length ds]
theorem enumD_get : ∀ {ds : List D} {k : Int} {i : Nat} {d : D}, ds[i]? = some d → (enumD k ds)[i]? = some (.tup [.int (k + i), d])
  | [], _, _, _, h => by simp at h
  | c :: ds, k, 0, d, h => by
    simp at h
    subst h
    simp [enumD]
  | c :: ds, k, i + 1, d, h => by
    simp only [enumD, List.getElem?_cons_succ] at h ⊢
    rw [enumD_get h]
    congr 4
    omega
theorem zipD_length : ∀ (ds es : List D), (zipD ds es).length = min ds.length es.length
  | [], es => by simp [zipD]
  | d :: ds, [] => by simp [zipD]
  | d :: ds, e :: es => by simp only [zipD, List.length_cons, zipD_length ds es]; omega
theorem zipD_get : ∀ {ds es : List D} {i : Nat} {d e : D}, ds[i]? = some d → es[i]? = some e → (zipD ds es)[i]? = some (.tup [d, e])
  | [], _, _, _, _, h, _ => by simp at h
  | _ :: _, [], _, _, _, _, h => by simp at h
  | c :: ds, b :: es, 0, d, e, h, k => by
    simp at h k
    subst h
    subst k
    simp [zipD]
  | c :: ds, b :: es, i + 1, d, e, h, k => by
    simp only [zipD, List.getElem?_cons_succ] at h k ⊢
    exact zipD_get h k
/-- a new pair -/
theorem pair_rp {W1 : Wd} {H1 : Hp} {S1 : Sto} {T : Addr} {x y : V} {d e : D} (st : StoR G W1 H1 S1) (h : H1 T = none) (r1 : Rp G W1 H1 d x) (r2 : Rp G W1 H1 e y) : Ext W1 H1 W1 (upd H1 T (.tup [x, y])) ∧ StoR G W1 (upd H1 T (.tup [x, y])) S1 ∧ Rp G W1 (upd H1 T (.tup [x, y])) (.tup [d, e]) (.ref T) := by
  have x1 : Ext W1 H1 W1 (upd H1 T (.tup [x, y])) := Ext.new h
  have f := st.fresh h
  refine ⟨x1, st.new h, ?_⟩
  simp only [Rp]
  exact ⟨T, [x, y], rfl, .inl ⟨f.1, f.2, .inl upd_same⟩, Rps.cons (Rp.ext x1 _ _ r1) (Rps.one (Rp.ext x1 _ _ r2))⟩
theorem rep_enumL {W : Wd} {H : Hp} {a : Addr} {ds : List D} {vs : List V} (p : PL W H a vs) (r : Rps G W H ds vs) : repI G W H (enumD 0 ds, none) (Ite G.K a) := by
  refine ⟨fun H1 => SqL G.K H1 a vs, _, by rw [show (enumD 0 ds, (none : Gd)).1.length = vs.length by rw [r.length]; exact enumD_length ds 0]; exact walk_enum, fun W1 H1 S1 x st _ => (p.extw x).sq, fun i W1 H1 S1 v H2 hi x st _ y => ?_⟩
  obtain ⟨T, u, z, rfl, hT, rfl, hu, hz⟩ := y
  cases hu
  obtain ⟨d, h1, h2⟩ := (Rps.extw x _ _ r).get' hz
  obtain ⟨k1, k2, k3⟩ := pair_rp (d := .int (i : Nat)) st hT mk_int h2
  exact ⟨_, enumD_get h1, k1, k2, by rw [Int.zero_add]; exact k3⟩
theorem k_enum {elts : List Expr} {kk : Nat} {tpos : Pos} (hK : G.K = X.K) (hg : Gl X "enumerate") (hm : X.mg "enumerate" = none) (ha : PE X e (TD G E fa)) (hs : starEach [e] X.env = [(false, eval e X.env)]) :
    PI X (.Tuple elts kk tpos) (.Call (.Name "enumerate" p) [e] [] pos) (TIt G E fun r S => (fa r S).bind fun x S1 => match x with
    | .lst ds => .ok (enumD 0 ds, none) S1
    | _ => .bad) :=
  ⟨fun pins s σ H R I h => (pi_enum hg hm (pa_cons ha pa_nil hs) hs).run pins s σ H R I (DL.T.imp (DL.T.seq' (p := Rp G) h) fun v H1 ⟨W, r, S, d, rel, rd, k⟩ => by
    split at k
    · obtain ⟨a, vs, rfl, pa, ra⟩ := rp_lst rd
      rw [← hK]
      exact ⟨a, vs, rfl, pa.sq, k.done rel.st (rep_enumL pa ra)⟩
    · exact k.no)⟩
theorem rep_zipL {W : Wd} {H : Hp} {a b : Addr} {ds es : List D} {vs us : List V} (p : PL W H a vs) (r : Rps G W H ds vs) (p2 : PL W H b us) (r2 : Rps G W H es us) : repI G W H (zipD ds es, none) (Itz G.K a b) := by
  refine ⟨fun H1 => SqL G.K H1 a vs ∧ SqL G.K H1 b us, _, walk_zip (xs := vs) (ys := us) (by rw [r.length, r2.length]; exact zipD_length ds es), fun W1 H1 S1 x st _ => ⟨(p.extw x).sq, (p2.extw x).sq⟩, fun i W1 H1 S1 v H2 hi x st _ y => ?_⟩
  obtain ⟨T, u, z, rfl, hT, rfl, hu, hz⟩ := y
  obtain ⟨d, h1, h2⟩ := (Rps.extw x _ _ r).get' hu
  obtain ⟨e, h3, h4⟩ := (Rps.extw x _ _ r2).get' hz
  obtain ⟨k1, k2, k3⟩ := pair_rp st hT h2 h4
  exact ⟨_, zipD_get h1 h3, k1, k2, k3⟩
theorem walk_zipT {K : PySem.W.Frag} {a b : Addr} {xs ys : List V} {n : Nat} (hn : n = min xs.length ys.length) : Walk (RZ.ItzT K a b) n (fun H => SqT K H a xs ∧ SqT K H b ys) (YPair (fun i => xs[i]?) (fun i => ys[i]?)) := by
  subst hn
  refine ⟨fun i _ hi q => ?_, fun _ q => ⟨xs, ys, q.1, q.2, by omega⟩, fun i H v H' _ q y => ?_⟩
  · have h1 : i < xs.length := by omega
    have h2 : i < ys.length := by omega
    exact ⟨xs, ys, xs[i], ys[i], q.1, q.2, by simp [h1], by simp [h2]⟩
  · obtain ⟨T, x, z, h1, h2, h3, h4, h5⟩ := y
    exact ⟨T, x, z, h1, h2, h3, h4 xs q.1, h5 ys q.2⟩
theorem rep_zipT {W : Wd} {H : Hp} {a b : Addr} {ds es : List D} {vs us : List V} (p : DL.PT G.K W H a vs) (r : Rps G W H ds vs) (p2 : DL.PT G.K W H b us) (r2 : Rps G W H es us) : repI G W H (zipD ds es, none) (RZ.ItzT G.K a b) := by
  refine ⟨fun H1 => SqT G.K H1 a vs ∧ SqT G.K H1 b us, _, walk_zipT (xs := vs) (ys := us) (by rw [r.length, r2.length]; exact zipD_length ds es), fun W1 H1 S1 x st _ => ⟨(p.extw x).sq, (p2.extw x).sq⟩, fun i W1 H1 S1 v H2 hi x st _ y => ?_⟩
  obtain ⟨T, u, z, rfl, hT, rfl, hu, hz⟩ := y
  obtain ⟨d, h1, h2⟩ := (Rps.extw x _ _ r).get' hu
  obtain ⟨e, h3, h4⟩ := (Rps.extw x _ _ r2).get' hz
  obtain ⟨k1, k2, k3⟩ := pair_rp st hT h2 h4
  exact ⟨_, zipD_get h1 h3, k1, k2, k3⟩
theorem k_zip {e2 : Expr} {fb : M D} {elts : List Expr} {kk : Nat} {tpos : Pos} (hK : G.K = X.K) (hg : Gl X "zip") (hm : X.mg "zip" = none) (ha : PE X e (TD G E fa)) (hb : PE X e2 (TD G E fb)) (hs : starEach [e, e2] X.env = (false, eval e X.env) :: starEach [e2] X.env)
    (hs2 : starEach [e2] X.env = (false, eval e2 X.env) :: starEach [] X.env) (hpl : (backTo pos (starEach [e2] X.env)).any (·.1) = false) :
    PI X (.Tuple elts kk tpos) (.Call (.Name "zip" p) [e, e2] [] pos) (TIt G E fun r S => (fa r S).bind fun x S1 => (fb r S1).bind fun y S2 => match x, y with
    | .tup ds, .tup es => .ok (zipD ds es, none) S2
    | .lst ds, .lst es => .ok (zipD ds es, none) S2
    | _, _ => .bad) :=
  ⟨fun pins s σ H R I h => (RZ.pi_zipA hg hm (pa_cons ha (pa_cons hb pa_nil hs2) hs) hs hpl).run pins s σ H R I (DL.T.imp (DL.T.two' (g := D) mono_D h) fun v H1 h1 => DL.T.imp h1 fun u H2 ⟨W, r, S, d, d2, rel, rd, rd2, k⟩ => by
    split at k
    · obtain ⟨a, vs, rfl, pa, ra⟩ := rp_tup rd
      obtain ⟨b, us, rfl, pb, rb⟩ := rp_tup rd2
      rw [← hK]
      exact ⟨a, b, vs, us, rfl, .inr ⟨pa.sq, pb.sq, k.done rel.st (rep_zipT pa ra pb rb)⟩⟩
    · obtain ⟨a, vs, rfl, pa, ra⟩ := rp_lst rd
      obtain ⟨b, us, rfl, pb, rb⟩ := rp_lst rd2
      rw [← hK]
      exact ⟨a, b, vs, us, rfl, .inl ⟨pa.sq, pb.sq, k.done rel.st (rep_zipL pa ra pb rb)⟩⟩
    · exact k.no)⟩
end
end DL
set_option Elab.async false
set_option linter.all false
set_option maxRecDepth 100000
set_option maxHeartbeats 4000000
/-! DL16B: dicts that the module holds, ord, encode, replace, enumerate(text, k). -/
namespace DL
open PySem PySem.Spec PyProof.Rows L2
section
variable {X : Cx} {G : Gb} {E : XK} {e e1 e2 : Expr} {fa : M D} {pos p : Pos}
/-- a dict of the module, its words, words that it has not -/
structure DkX (K : PySem.W.Frag) (w : World) (mg : Str → Option Value) (y : Str) (kv : List (List Nat × Int) × List (List Nat)) (a : Addr) : Prop where
  mg : mg y = some (.ref a)
  kd : ∃ es n, KDict K w a es n
  has : ∀ s i, kv.1.lookup s = some i → ∃ t, PySem.W.nsIn K a (strO s) = some (some (.int i t))
  no : ∀ s, s ∈ kv.2 → PySem.W.nsIn K a (strO s) = some none
theorem c_ord : CallR X (.builtin "ord") (rC G E fOrd) := by
  intro pins s σ H xs us Q I r h
  obtain ⟨W, S, ds, st, rd, p⟩ := h
  unfold fOrd at p
  split at p
  · rename_i c
    obtain ⟨v, rfl, rv⟩ := rd.one_inv
    cases rp_str rv
    exact call_ord pins s σ H _ us Q I r ⟨_, rfl, rfl, p.done st mk_int⟩
  · exact p.no
theorem nsIn_of {K : PySem.W.Frag} {w : World} {mg : Str → Option Value} {y : Str} {kv : List (List Nat × Int) × List (List Nat)} {a : Addr} (d : DkX K w mg y kv a) {s : List Nat} {i : Int} (h : kv.1.lookup s = some i) : ∃ t, PySem.W.nsIn K a (strO s) = some (some (.int i t)) := d.has s i h
theorem k_inD {y : Str} {kv : List (List Nat × Int) × List (List Nat)} {a : Addr} (neg : Bool) (hg : Gl X y) (hd : (y == ("__debug__" : Str)) = false) (d : DkX X.K X.w X.mg y kv a) (ha : PE X e (TD G E fa)) :
    PE X (.Compare e [if neg then .NotIn else .In] [.Name y p] pos) (TD G E fun r S => (fa r S).bind (fInD neg (some kv))) := by
  obtain ⟨es, n, kd⟩ := d.kd
  have hb : PE X (.Name y p) (tC (.ref a)) := pe_glob hg d.mg rfl hd
  have key : ∀ (q : L2.St) (H : Hp) (Q : VK), TD G E (fun r S => (fa r S).bind (fInD neg (some kv))) q H Q → TD G E fa q H fun x H1 => ∃ (z : Str) (r : Option Value), x = .str z ∧ PySem.W.nsIn X.K a z = some r ∧ Q (.bl (if neg then !r.isSome else r.isSome)) H1 := fun q H Q h => T.imp (T.seq' h) fun v H1 ⟨W, r, S, dd, rel, rd, k⟩ => by
    unfold fInD at k
    split at k
    · rename_i kv' s hkv
      cases hkv
      cases rp_str rd
      split at k
      · rename_i hs
        obtain ⟨i, hi⟩ := Option.isSome_iff_exists.mp hs
        obtain ⟨t, ht⟩ := d.has s i hi
        exact ⟨_, _, rfl, ht, by cases neg <;> exact k.done rel.st mk_bl⟩
      · split at k
        · rename_i hm
          exact ⟨_, _, rfl, d.no s hm, by cases neg <;> exact k.done rel.st mk_bl⟩
        · exact k.no
    · exact k.no
  cases neg with
  | false =>
    refine PE.imp (pe_cmpR (op_in_kd kd) ha hb rfl) fun q H Q h => ?_
    refine T.imp (key q H Q h) fun v H1 ⟨z, r, h1, h2, h3⟩ => ⟨z, r, h1, rfl, h2, h3⟩
  | true =>
    refine PE.imp (pe_cmpR (op_notIn_kd kd) ha hb rfl) fun q H Q h => ?_
    refine T.imp (key q H Q h) fun v H1 ⟨z, r, h1, h2, h3⟩ => ⟨z, r, h1, rfl, h2, h3⟩
theorem k_inDT {y : Str} {kv : List (List Nat × Int) × List (List Nat)} {a : Addr} (neg : Bool) (hg : Gl X y) (hd : (y == ("__debug__" : Str)) = false) (d : DkX X.K X.w X.mg y kv a) (ha : PE X e (TD G E fa)) :
    L2.PT X (.Compare e [if neg then .NotIn else .In] [.Name y p] pos) (TB G E fun r S => ((fa r S).bind (fInD neg (some kv))).bind truD) := by
  obtain ⟨es, n, kd⟩ := d.kd
  have hb : PE X (.Name y p) (tC (.ref a)) := pe_glob hg d.mg rfl hd
  have key : ∀ (q : L2.St) (H : Hp) (Q : Bool → Hp → Prop), TB G E (fun r S => ((fa r S).bind (fInD neg (some kv))).bind truD) q H Q → TD G E fa q H fun x H1 => ∃ (z : Str) (r : Option Value), x = .str z ∧ PySem.W.nsIn X.K a z = some r ∧ Q (if neg then !r.isSome else r.isSome) H1 := fun q H Q h => T.imp (T.seq' (p := Rp G) (g := fun d S1 => (fInD neg (some kv) d S1).bind truD) (T.congr h fun r S => by
      cases fa r S <;> rfl)) fun v H1 ⟨W, r, S, dd, rel, rd, k⟩ => by
    unfold fInD at k
    split at k
    · rename_i kv' s hkv
      cases hkv
      cases rp_str rd
      split at k
      · rename_i hs
        obtain ⟨i, hi⟩ := Option.isSome_iff_exists.mp hs
        obtain ⟨t, ht⟩ := d.has s i hi
        exact ⟨_, _, rfl, ht, by cases neg <;> exact k.done rel.st rfl⟩
      · split at k
        · rename_i hm
          exact ⟨_, _, rfl, d.no s hm, by cases neg <;> exact k.done rel.st rfl⟩
        · exact k.no
    · exact k.no
  cases neg with
  | false =>
    refine DL.PT.imp (pt_cmpR (op_in_kd kd) ha hb rfl) fun q H Q h => ?_
    refine T.imp (key q H Q h) fun v H1 ⟨z, r, h1, h2, h3⟩ => ⟨z, r, h1, rfl, h2, _, rfl, h3⟩
  | true =>
    refine DL.PT.imp (pt_cmpR (op_notIn_kd kd) ha hb rfl) fun q H Q h => ?_
    refine T.imp (key q H Q h) fun v H1 ⟨z, r, h1, h2, h3⟩ => ⟨z, r, h1, rfl, h2, _, rfl, h3⟩
theorem k_ixD {y : Str} {kv : List (List Nat × Int) × List (List Nat)} {a : Addr} (hg : Gl X y) (hd : (y == ("__debug__" : Str)) = false) (d : DkX X.K X.w X.mg y kv a) (ha : PE X e (TD G E fa)) (hs : PlainIx e) :
    PE X (.Subscript (.Name y p) e pos) (TD G E fun r S => (fa r S).bind (fIxD (some kv))) := by
  obtain ⟨es, n, kd⟩ := d.kd
  have hb : PE X (.Name y p) (tC (.ref a)) := pe_glob hg d.mg rfl hd
  refine PE.imp (pe_ix ix_kdict hb ha hs) fun q H Q h => ?_
  refine T.imp (T.seq' h) fun v H1 ⟨W, r, S, dd, rel, rd, k⟩ => ?_
  unfold fIxD at k
  split at k
  · rename_i kv' s hkv
    cases hkv
    cases rp_str rd
    split at k
    · rename_i i hi
      obtain ⟨t, ht⟩ := d.has s i hi
      exact ⟨a, strO s, .int i, rfl, rfl, ⟨es, n, _, kd.at_, kd.lit, ht, ⟨t, rfl⟩⟩, k.done rel.st mk_int⟩
    · exact k.no
  · exact k.no

/-! ### k not in text.encode() -/
theorem mt_encode : MtR X "str.encode" (fun x xs H Q => ∃ a, x = .str a ∧ xs = [] ∧ PySem.W.KSb.Asc a ∧ a.length ≤ 16777216 ∧ ∀ c, PySem.W.KBw.bInts c = PySem.W.KSb.codes a → Q (.byt c) H) := by
  intro pins s σ H x xs v us Q I rx rs h
  obtain ⟨a, rfl, rfl, h1, h2, q⟩ := h
  obtain ⟨t, rfl⟩ := rx
  cases rs
  exact PySem.W.KSb.encode_K h1 h2 fun c t' k e _ _ => ⟨.byt c, H, I.tok k, ⟨t', rfl⟩, q c e⟩
theorem op_notIn_b : OpR X (compareOp .NotIn) (fun x y H Q => ∃ (n : Int) (b : Array UInt8), x = .int n ∧ y = .byt b ∧ 0 ≤ n ∧ n < 256 ∧ Q (.bl (!(PySem.W.KBw.bInts b).contains n)) H) := by
  intro pins s σ H x y v u Q I rx ry h
  obtain ⟨n, b, rfl, rfl, h0, h1, q⟩ := h
  obtain ⟨t, rfl⟩ := rx
  obtain ⟨t', rfl⟩ := ry
  exact PySem.W.KBi.notIn_K rfl h0 h1 ⟨.bl _, H, I, rfl, q⟩
theorem codes_has {k : Nat} {s : List Nat} : (PySem.W.KSb.codes (strO s)).contains (k : Int) = decide (k ∈ s) := by
  rw [Bool.eq_iff_iff]
  simp only [PySem.W.KSb.codes, strO, List.contains_iff_mem, List.mem_map, decide_eq_true_eq]
  constructor
  · rintro ⟨a, ha, e⟩
    have : a = k := by omega
    subst this
    simpa using ha
  · exact fun h => ⟨k, by simpa using h, rfl⟩
theorem k_nope {k j : Nat} {cp apos cpos : Pos} (ha : PE X e (TD G E fa)) (hbase : attributeBase e "encode" X.env (eval e X.env) = eval e X.env) (hline : (apos.endLine == cpos.line) = true) :
    PE X (.Compare (.Constant (.int (k : Int)) j cp) [.NotIn] [.Call (.Attribute e "encode" apos) [] [] cpos] pos) (TD G E fun r S => (fa r S).bind (fNope k)) := by
  have hb := pe_m0 (X := X) (name := "encode") PySem.F.slot_str_encode PySem.F.type_str_encode mt_encode ha hbase hline (pos := cpos)
  have hk : PE X (.Constant (.int (k : Int)) j cp) (tC (.int (k : Int))) := pe_int
  refine PE.imp (pe_cmpR op_notIn_b hk hb rfl) fun q H Q h => ?_
  show T G E (Rp G) fa q H _
  refine T.imp (T.seq' h) fun v H1 ⟨W, r, S, dd, rel, rd, kk⟩ => ?_
  unfold fNope at kk
  split at kk
  · rename_i s
    cases rp_str rd
    split at kk
    · rename_i hs
      refine ⟨⟨_, rfl⟩, _, rfl, rfl, ?_, ?_, fun c e => ⟨(k : Int), c, rfl, rfl, by omega, by omega, ?_⟩⟩
      · intro c hc
        have := List.all_eq_true.mp hs.1 c (by simpa using hc)
        simpa using this
      · have := st_len s
        have e2 : (⟨s.toArray⟩ : Str).length = s.length := this
        rw [e2]
        omega
      · rw [e]
        have e3 := codes_has (k := k) (s := s)
        unfold strO at e3
        rw [e3]
        exact kk.done rel.st mk_bl
    · exact kk.no
  · exact kk.no
/-! ### text.replace -/
theorem occ_free {x : Str} {c : Nat} (h : c ∉ x.cps.toList) : (Builtin.Str.occurrences x ⟨#[c]⟩ 0 x.length (x.length + 1)).isEmpty = true := by
  obtain ⟨f, hc⟩ := PySem.StrLaws.occ_chain x ⟨#[c]⟩ (x.length + 1)
  cases ho : Builtin.Str.occurrences x ⟨#[c]⟩ 0 x.length (x.length + 1) with
  | nil => rfl
  | cons i r =>
    rw [ho] at hc
    have hm := (PySem.StrLaws.subAt_one x c i).mp hc.2.1
    exact absurd (List.mem_of_getElem? hm) h
section
variable {o : Expr} {c j k : Nat} {z : Str} {c0 c1 apos cpos : Pos} {M' : Value → Shared → Prop} {s : Shared}
theorem rep_none {R : Value → Shared → Prop} (hst : starEach [.Constant (.str ⟨#[c]⟩) j c0, .Constant (.str z) k c1] X.env = [(false, eval (.Constant (.str ⟨#[c]⟩) j c0) X.env), (false, eval (.Constant (.str z) k c1) X.env)])
    (hbase : attributeBase o "replace" X.env (eval o X.env) = eval o X.env) (hline : (apos.endLine == cpos.line) = true)
    (h : wpAny (model X.prog X.w) X.A (eval o X.env) (fun v s1 => ∃ x t, v = .str x t ∧ c ∉ x.cps.toList ∧ R (.str x t) { s1 with toks := s1.toks + 1 + 1 }) X.xe s) :
    wpAny (model X.prog X.w) X.A (eval (.Call (.Attribute o "replace" apos) [.Constant (.str ⟨#[c]⟩) j c0, .Constant (.str z) k c1] [] cpos) X.env) R X.xe s := by
  refine PySem.Call_method2 hbase hst hline (wpAny_mono h (fun v s1 q => ?_) fun _ _ z => z)
  obtain ⟨x, t, rfl, hx, hR⟩ := q
  refine ⟨"str", _, PySem.F.plainAttrs_str, PySem.F.slot_str_replace, PySem.F.type_str_replace, typeIs_str _ _ _, (fun _ e => nomatch e), Calls.callWith_builtin rfl (Calls.evalArgs_plain (Calls.spliced_cons ?_))⟩
  refine Calls.Constant_str (Calls.spliced_cons (Calls.Constant_str (Calls.spliced_nil ?_)))
  have hc : ((Builtin.Str.occurrences x ⟨#[c]⟩ 0 x.length (x.length + 1)).isEmpty || ((⟨#[c]⟩ : Str).length == 0 && z.length == 0)) = true := by rw [occ_free hx]; rfl
  refine call_gives PySem.F.slot_str_replace (typeIs_str _ _ _) PySem.F.entry_str_replace (PySem.F.args_str_replace_3 _ _ _)
    (gives_str_replace x ⟨#[c]⟩ z t _ _ fun hn => by rw [hc] at hn; cases hn) ?_
  simp only [hc, if_true]
  exact hR
theorem rep_some {R : Value → Shared → Prop} (hyz : ((⟨#[c]⟩ : Str) == z) = false) (hst : starEach [.Constant (.str ⟨#[c]⟩) j c0, .Constant (.str z) k c1] X.env = [(false, eval (.Constant (.str ⟨#[c]⟩) j c0) X.env), (false, eval (.Constant (.str z) k c1) X.env)])
    (hbase : attributeBase o "replace" X.env (eval o X.env) = eval o X.env) (hline : (apos.endLine == cpos.line) = true)
    (h : wpAny (model X.prog X.w) X.A (eval o X.env) (fun v s1 => ∃ x t, v = .str x t ∧ 1 ≤ s1.toks ∧ x.length + (x.length + 1) * z.length ≤ 16777216 ∧ ∀ t' k, R (.str (Txt.replace x ⟨#[c]⟩ z) t') { s1 with toks := k }) X.xe s) :
    wpAny (model X.prog X.w) X.A (eval (.Call (.Attribute o "replace" apos) [.Constant (.str ⟨#[c]⟩) j c0, .Constant (.str z) k c1] [] cpos) X.env) R X.xe s := by
  refine PySem.Call_method2 hbase hst hline (wpAny_mono h (fun v s1 q => ?_) fun _ _ z => z)
  obtain ⟨x, t, rfl, h1, hb, hR⟩ := q
  refine ⟨"str", _, PySem.F.plainAttrs_str, PySem.F.slot_str_replace, PySem.F.type_str_replace, typeIs_str _ _ _, (fun _ e => nomatch e), Calls.callWith_builtin rfl (Calls.evalArgs_plain (Calls.spliced_cons ?_))⟩
  refine Calls.Constant_str (Calls.spliced_cons (Calls.Constant_str (Calls.spliced_nil ?_)))
  exact PySem.SC.replace (by show s1.toks ≠ 0; omega) (by show s1.toks + 1 ≠ 0; omega) (by show s1.toks ≠ s1.toks + 1; omega) hyz hb fun t' k => hR t' k
end
theorem joinL_cons {z p : List Nat} {l : List (List Nat)} (h : l ≠ []) : TL.joinL z (p :: l) = p ++ (z ++ TL.joinL z l) := by
  cases l with
  | nil => exact absurd rfl h
  | cons q r => rfl
theorem spl_ne (c : Nat) : ∀ (x acc : List Nat), TL.spl [c] 0 acc x ≠ []
  | [], acc => by rw [TL.spl_nil]; simp
  | d :: r, acc => by
    by_cases h : d = c
    · subst h
      rw [TL.spl_hit (show TL.pre [d] (d :: r) = true from TL.pre_self [d] r)]
      simp
    · rw [TL.spl_miss (TL.pre_of_head [] r h)]
      exact spl_ne c r _
theorem join_repC (c : Nat) (z : List Nat) : ∀ (x acc : List Nat), TL.joinL z (TL.spl [c] 0 acc x) = acc ++ repC c z x
  | [], acc => by rw [TL.spl_nil]; simp [TL.joinL, repC]
  | d :: r, acc => by
    by_cases h : d = c
    · subst h
      rw [TL.spl_hit (show TL.pre [d] (d :: r) = true from TL.pre_self [d] r)]
      simp only [List.length_singleton, Nat.sub_self]
      rw [joinL_cons (spl_ne d r []), join_repC d z r []]
      simp [repC]
    · rw [TL.spl_miss (TL.pre_of_head [] r h), join_repC c z r]
      simp [repC, h]
theorem replace_repC {c : Nat} (hc : c < 256) {x z : List Nat} : Txt.replace (strO x) ⟨#[c]⟩ (strO z) = strO (repC c z x) := by
  apply TL.ext_tl
  rw [PySem.StrLaws.replace_one, TL.tl_join]
  have e := TL.split_spl (strO x) ⟨#[c]⟩ (by simp [TL.tl]) (TL.kind_ok (by simp [hc]))
  rw [e]
  have e1 : TL.tl (⟨#[c]⟩ : Str) = [c] := rfl
  have e2 : TL.tl (strO x) = x := rfl
  have e3 : TL.tl (strO z) = z := rfl
  have e4 : TL.tl (strO (repC c z x)) = repC c z x := rfl
  rw [e1, e2, e3, e4, join_repC]
  rfl
theorem k_rep3 {k1 k2 k3 l1 l2 l3 m1 m2 m3 : Nat} {z1 z2 : Str} {z3 : List Nat} {a1 a2 a3 p1 p2 p3 b1 b2 b3 d1 d2 d3 : Pos} (hc : k3 < 256) (hyz : ((⟨#[k3]⟩ : Str) == strO z3) = false) (ha : PE X e (TD G E fa)) (hbase : attributeBase e "replace" X.env (eval e X.env) = eval e X.env)
    (hl1 : (a1.endLine == p1.line) = true) (hl2 : (a2.endLine == p2.line) = true) (hl3 : (a3.endLine == p3.line) = true) :
    PE X (.Call (.Attribute (.Call (.Attribute (.Call (.Attribute e "replace" a1) [.Constant (.str ⟨#[k1]⟩) l1 b1, .Constant (.str z1) m1 d1] [] p1) "replace" a2) [.Constant (.str ⟨#[k2]⟩) l2 b2, .Constant (.str z2) m2 d2] [] p2) "replace" a3) [.Constant (.str ⟨#[k3]⟩) l3 b3, .Constant (.str (strO z3)) m3 d3] [] p3)
      (TD G E fun r S => (fa r S).bind (fRep3 k1 k2 k3 z3)) := by
  refine ⟨fun pins s σ H Q I h => ?_⟩
  refine rep_some hyz rfl rfl hl3 (rep_none rfl rfl hl2 (rep_none rfl hbase hl1 ?_))
  refine thn (ha.run pins s σ H _ I (T.seq' h)) fun v s1 ⟨x, H1, I1, r1, W, r, S, d, rel, rd, kk⟩ => ?_
  unfold fRep3 at kk
  split at kk
  · rename_i xs
    cases rp_str rd
    obtain ⟨t, rfl⟩ := r1
    split at kk
    · rename_i hs
      refine ⟨_, t, rfl, by simpa using hs.1, _, t, rfl, by simpa using hs.2.1, _, t, rfl, by show 1 ≤ s1.toks + 1 + 1 + 1 + 1; omega, ?_, fun t' k => ⟨.str (strO (repC k3 z3 xs)), H1, I1.tok k, ⟨t', ?_⟩, kk.done rel.st mk_strO⟩⟩
      · have e1 : (⟨xs.toArray⟩ : Str).length = xs.length := st_len xs
        have e2 := st_len z3
        rw [e1, e2]
        have := hs.2.2
        have h9 : (xs.length + 1) * z3.length ≤ (xs.length + 1) * 9 := Nat.mul_le_mul_left _ this.2
        omega
      · have := replace_repC hc (x := xs) (z := z3)
        unfold strO at this ⊢
        rw [this]
    · exact kk.no
  · exact kk.no
end
/-! ### enumerate(text, k) -/
/-- each sign of the text with its number from k on, in a new pair -/
def Itk (x : Str) (k : Int) : It :=
  ⟨fun i _ => i < x.cps.size, fun i H v H' => ∃ T c, v = .ref T ∧ H T = none ∧ H' = upd H T (.tup [.int (k + (i : Nat)), .str ⟨#[c]⟩]) ∧ x.cps[i]? = some c, fun i _ => x.cps.size ≤ i⟩
theorem turn_enumK {P : Program} {w : World} {K : PySem.W.Frag} {elts : List Expr} {kk : Nat} {tpos : Pos} (x : Str) (t : Tok) (k : Int) (e it : Addr) :
    Turn P w K (.Tuple elts kk tpos) (Itk x k) [e, it] e (fun i h => i ≤ x.cps.size ∧ (∃ old, IsEnum h e it (k + (i : Nat)) old) ∧ h.IsStrIter it (strIterType x) x t i ∧ e ≠ it) where
  mem := by simp
  obj := fun i h st b hb => by
    obtain ⟨_, ⟨old, he⟩, ⟨o, ho, hc, hd⟩, _⟩ := st
    have e' : b = e ∨ b = it := by simpa using hb
    rcases e' with z | z
    · rw [z]; exact ⟨_, he, fun v q => nomatch q⟩
    · rw [z]; exact ⟨o, ho, fun v q => by rw [hd] at q; cases q⟩
  keep := fun i h h' st kp => by
    obtain ⟨h0, ⟨old, he⟩, ⟨o, ho, hc, hd⟩, hne⟩ := st
    exact ⟨h0, ⟨old, kp e (by simp) _ he⟩, ⟨o, kp it (by simp) _ ho, hc, hd⟩, hne⟩
  item := by
    intro X hP hw hK hc i pins s σ H E I hf st hg
    subst hP hw hK
    obtain ⟨_, ⟨old, he⟩, hit, hne⟩ := st
    have hg : i < x.cps.size := hg
    have hel : e < s.heap.objs.size := Heap.lt_size he
    have hil : it < s.heap.objs.size := by obtain ⟨_, q, _⟩ := hit; exact Heap.lt_size q
    have D := Draws.text (prog := X.prog) (w := X.w) (A := X.A.in1) (show X.A.in1.handled = none from I.ok.hd hc) it x t
    refine wpAny_pyNext_enum_itemC D he hit hg hne (by simpa using hne) fun y h' tk hP ho hit' hT hsz hk => ?_
    obtain ⟨c, u, hx, rfl⟩ := hP
    refine ⟨_, rfl, wpAny_letOwnedTupleGo_enum (s := { s with heap := h', toks := tk + 1 }) ho fun h'' he' sb => ?_⟩
    have hT2 : h''.get? s.heap.objs.size = some { cls := .type "tuple", data := .seq #[.int (k + (i : Nat)) tk, .str ⟨#[c]⟩ u] } := (sb.2 _ (Nat.ne_of_gt hel)).trans hT
    have new : ObjOk X.prog X.w (upd H s.heap.objs.size (.tup [.int (k + (i : Nat)), .str ⟨#[c]⟩])) h'' s.heap.objs.size (.tup [.int (k + (i : Nat)), .str ⟨#[c]⟩]) :=
      ⟨by show 2 ≤ sizeLine; decide, [.int (k + (i : Nat)) tk, .str ⟨#[c]⟩ u], .cons ⟨_, rfl⟩ (.cons ⟨_, rfl⟩ .nil), ⟨_, hT2, rfl, _, rfl⟩⟩
    have I1 : Inv X pins σ (upd H s.heap.objs.size (.tup [.int (k + (i : Nat)), .str ⟨#[c]⟩])) { s with heap := h'', toks := tk + 1 } :=
      I.turnedNew (ch := [e, it]) (fun b ob hb q => (sb.2 b (fun z => hb (by simp [z]))).trans (hk b ob (fun z => hb (by simp [z])) (fun z => hb (by simp [z])) q)) hf (Nat.le_refl _) new
    refine ⟨.ref s.heap.objs.size, _, I1, rfl, ⟨_, c, rfl, I.hok.fresh (Nat.le_refl _), rfl, hx⟩, ⟨hg, ⟨.str ⟨#[c]⟩ u, ?_⟩, ?_, hne⟩, fun b hb => ?_⟩
    · have e1 : k + ((i + 1 : Nat) : Int) = k + (i : Int) + 1 := by omega
      rw [e1]; exact he'
    · obtain ⟨o, q1, q2, q3⟩ := hit'
      exact ⟨o, (sb.2 it (Ne.symm hne)).trans q1, q2, q3⟩
    · have hb' : b < s.heap.objs.size := by
        have e' : b = e ∨ b = it := by simpa using hb
        rcases e' with z | z
        · rw [z]; exact hel
        · rw [z]; exact hil
      rw [upd_ne (Nat.ne_of_lt hb')]
      exact (hf b hb).1
  done := by
    intro X hP hw hK hc i pins s σ H E I hf st hg
    subst hP hw hK
    obtain ⟨hle, ⟨old, he⟩, hit, hne⟩ := st
    have hg : x.cps.size ≤ i := hg
    have hi : i = x.cps.size := by omega
    subst hi
    obtain ⟨f0, f1, f2, f3, f4, f5⟩ := hf it (by simp)
    have D := Draws.text (prog := X.prog) (w := X.w) (A := X.A.in1) (show X.A.in1.handled = none from I.ok.hd hc) it x t
    exact wpAny_pyNext_enum_endD D he hit fun h' eb => ⟨rfl, I.turned (t' := s.toks) (fun b o hb q => eb b o hb q) f0 f1 f3 f4 f5⟩
  self := fun A i s Q E st h => let ⟨_, ⟨_, he⟩, _⟩ := st; wpAny_pyIter_enum he h
theorem rep_enumK {G : Gb} {W : Wd} {H : Hp} {s : List Nat} {k : Int} : repI G W H (enumD k (s.map fun c => D.str [c]), none) (Itk (strO s) k) := by
  have hsz : (strO s).cps.size = s.length := by simp [strO]
  refine ⟨fun _ => True, YPair (fun i => some (.int (k + (i : Nat)))) (fun i => ((strO s).cps[i]?).map fun c => V.str ⟨#[c]⟩), ?_, fun _ _ _ _ _ _ => trivial, fun i W1 H1 S1 v H2 hi x st _ y => ?_⟩
  · have hn : (enumD k (s.map fun c => D.str [c]), (none : Gd)).1.length = (strO s).cps.size := by
      show (enumD k (s.map fun c => D.str [c])).length = _
      rw [enumD_length, List.length_map, hsz]
    rw [hn]
    refine ⟨fun i _ hi _ => hi, fun _ _ => Nat.le_refl _, fun i H v H' _ _ y => ?_⟩
    obtain ⟨T, c, h1, h2, h3, h4⟩ := y
    exact ⟨T, _, _, h1, h2, h3, rfl, by dsimp only; rw [h4]; rfl⟩
  · obtain ⟨T, u, z, rfl, hT, rfl, hu, hz⟩ := y
    cases hu
    obtain ⟨c, hc, rfl⟩ := Option.map_eq_some_iff.mp hz
    have hc2 : s[i]? = some c := by simpa [strO] using hc
    obtain ⟨k1, k2, k3⟩ := pair_rp (G := G) (d := .int (k + (i : Nat))) (e := .str [c]) st hT mk_int mk_str
    exact ⟨_, enumD_get (by rw [List.getElem?_map, hc2]; rfl), k1, k2, k3⟩
theorem k_enumS {X : Cx} {G : Gb} {E : XK} {e : Expr} {fa : M D} {p pos tpos cp : Pos} {elts : List Expr} {kk j : Nat} {k : Int} (hk0 : -(2 ^ 63) ≤ k) (hk1 : k < 2 ^ 63) (hg : Gl X "enumerate") (hm : X.mg "enumerate" = none) (ha : PE X e (TD G E fa))
    (hs : starEach [e, .Constant (.int k) j cp] X.env = (false, eval e X.env) :: starEach [.Constant (.int k) j cp] X.env) :
    PI X (.Tuple elts kk tpos) (.Call (.Name "enumerate" p) [e, .Constant (.int k) j cp] [] pos) (TIt G E fun r S => (fa r S).bind fun x S1 => match x with
    | .str s => .ok (enumD k (s.map fun c => .str [c]), none) S1
    | _ => .bad) := by
  refine ⟨fun pins s σ H R I h => ?_⟩
  have hA := k_cons (X := X) (G := G) (E := E) ha (k_cons (k_con (x := .int k) (pe_int (pos := cp) (j := j)) fun _ _ => mk_int) k_nil rfl) hs
  have h2 := DL.T.congr (g := fun r S => ((fa r S).bind fun d S1 => ((Re.ok (D.int k) S1 : Re D).bind fun d2 S2 => (Re.ok [] S2 : Re (List D)).bind fun ds S3 => Re.ok (d2 :: ds) S3).bind fun ds2 S4 => Re.ok (d :: ds2) S4).bind fun ds S5 => match ds with
    | [.str s, .int i] => if i = k then .ok (enumD k (s.map fun c => .str [c]), none) S5 else .bad
    | _ => .bad) h (fun r S => by
      cases fa r S with
      | ok d S1 => cases d <;> simp
      | err x fs S1 => rfl
      | bad => rfl)
  refine Call_ (ld_blt I hg hm boot_enumerate (PyProof.Rows.callWith_type1 (thn (hA.run pos pins s σ H _ I (T.seq' (p := Rps G) h2)) fun us s1 ⟨vs, H1, I1, r1, W, r, S, ds, rel, rd, q1⟩ => ?_) hs rfl))
  split at q1
  · rename_i xs i
    split at q1
    · rename_i hi
      subst hi
      obtain ⟨v1, t1, rfl, ra, rd2⟩ := Rps.cons_iff.mp rd
      obtain ⟨v2, t2, rfl, rb, rd3⟩ := Rps.cons_iff.mp rd2
      cases Rps.nil_iff.mp rd3
      cases rp_str ra
      cases rp_int rb
      cases r1 with
      | cons q2 rr =>
        cases rr with
        | cons q3 rr =>
          cases rr
          obtain ⟨t, rfl⟩ := q2
          obtain ⟨u, rfl⟩ := q3
          refine enum_begins (begins_text _ t) trivial hk0 hk1 fun h' he hit hsz hkp => wpAny_pyIter_enum he ?_
          have I2 : Inv X pins σ H1 { s1 with heap := h' } := I1.kept (t' := s1.toks) hkp
          refine ⟨s1.heap.objs.size + 1, [s1.heap.objs.size + 1, s1.heap.objs.size], _, _, H1, rfl, I2, turn_enumK (strO xs) t i (s1.heap.objs.size + 1) s1.heap.objs.size, ⟨Nat.zero_le _, ⟨.none, by simpa using he⟩, ⟨_, hit, rfl, rfl⟩, Nat.succ_ne_self _⟩, fun b hb => ?_, q1.done rel.st rep_enumK⟩
          have e' : b = s1.heap.objs.size + 1 ∨ b = s1.heap.objs.size := by simpa using hb
          have hle : s1.heap.objs.size ≤ b := by
            rcases e' with z | z
            · rw [z]; exact Nat.le_add_right _ _
            · rw [z]; exact Nat.le_refl _
          exact I1.fpOk hle (I1.hok.fresh hle)
    · exact q1.no
  · exact q1.no
end DL
set_option Elab.async false
set_option linter.all false
set_option maxRecDepth 100000
set_option maxHeartbeats 4000000
/-! DL17: whether a piece of the small syntax is an expression's. -/
namespace DL
open PySem PySem.Spec PyProof.Rows L2

/-- what is told of a place in the program: its slots, its names, which captured names it may store, whether an error is in hand -/
structure Sx where
  N : List Str
  sc : Scope
  fn : Str → Bool
  calm : Bool
  exn : Bool
/-- the defs' and the error classes' names -/
structure Tb where
  dn : Nat → Option Str
  cn : Nat → Option Str
  ix : List Str
  hn : List Str
  gd : List String := []

def isGl (s : Sx) (x : Str) : Bool := decide (s.sc.names.lookup x = some .globalImplicit) && decide (x ≠ "__debug__") && decide (x ≠ "__name__")
def isVis (s : Sx) (x : Str) : Bool := (match s.sc.names.lookup x with | some .local => true | some .cell => true | some .free => true | _ => false) && decide (x ≠ "__debug__") && decide (x ≠ "__classdict__")
def isSto (s : Sx) (x : Str) : Bool := match s.sc.names.lookup x with | some .local => true | some .cell => s.fn x | _ => false
def boOp : Bo → Operator
  | .add => .Add | .sub => .Sub | .mul => .Mult | .div => .FloorDiv | .mod => .Mod | .pow => .Pow
def coOp : Co → CmpOp
  | .eq => .Eq | .ne => .NotEq | .lt => .Lt | .le => .LtE | .gt => .Gt | .ge => .GtE | .is => .Is | .isN => .IsNot | .in_ => .In | .notIn => .NotIn
def biName : Bi → Str
  | .len => "len" | .int => "int" | .max => "max" | .min => "min" | .sum => "sum" | .sorted => "sorted" | .tuple => "tuple" | .list => "list" | .str => "str" | .ord => "ord"
/-- no super() -/
def plainB : Expr → Bool
  | .Call (.Name _ _) [] [] _ => false
  | _ => true
def notSet : Expr → Bool
  | .Set _ _ _ => false
  | _ => true
def isTup : Expr → Bool
  | .Tuple _ _ _ => true
  | _ => false
def ownOf (N : List Str) (own : List Nat) : List (Str × Nat) := own.map fun i => ((N[i]?).getD "", i)
theorem ownOf_snd (N : List Str) (own : List Nat) : (ownOf N own).map (·.2) = own := by
  unfold ownOf
  induction own with
  | nil => rfl
  | cons i r ih => simp only [List.map_cons, ih]
/-- the place inside a comprehension -/
def Sx.blk (s : Sx) (scope : Scope) : Sx := { s with sc := relS scope s.sc, fn := fun x => scope.names.lookup x == some .cell, exn := false }

mutual
def chkT (s : Sx) : Tg → Expr → Bool
  | .name i, e => match e with
    | .Name x _ => decide (s.N[i]? = some x) && isSto s x
    | _ => false
  | .tup ts, e => match e with
    | .Tuple es _ _ => s.calm && chkTs s ts es
    | _ => false
def chkTs (s : Sx) : Tgs → List Expr → Bool
  | .nil, es => match es with
    | [] => true
    | _ => false
  | .cons t ts, es => match es with
    | e :: es => chkT s t e && chkTs s ts es
    | [] => false
end
mutual
def chkE (T : Tb) (s : Sx) : Ex → Expr → Bool
  | .var i, e => match e with
    | .Name x _ => decide (s.N[i]? = some x) && isVis s x
    | _ => false
  | .int i, e => match e with
    | .Constant (.int j) _ _ => decide (i = j)
    | _ => false
  | .str t, e => match e with
    | .Constant (.str x) _ _ => decide (strO t = x)
    | _ => false
  | .bl b, e => match e with
    | .Constant (.bool c) _ _ => decide (b = c)
    | _ => false
  | .non, e => match e with
    | .Constant .none _ _ => true
    | _ => false
  | .glo y, e => match e with
    | .Name x _ => decide (Str.ofString y = x) && isGl s x
    | _ => false
  | .fnv f, e => match e with
    | .Name x _ => decide (T.dn f = some x) && isGl s x
    | _ => false
  | .bin o a b, e => match e with
    | .BinOp e1 op e2 _ => decide (boOp o = op) && chkE T s a e1 && chkE T s b e2
    | _ => false
  | .neg a, e => match e with
    | .UnaryOp .USub e1 _ => chkE T s a e1
    | _ => false
  | .cmp o a b, e => match e with
    | .Compare e1 [op] [e2] _ => decide (coOp o = op) && !behindInMarks op e2 && chkE T s a e1 && chkE T s b e2
    | _ => false
  | .chn o p a b c, e => match e with
    | .Compare e1 [op, op2] [e2, e3] _ => decide (coOp o = op) && decide (coOp p = op2) && !lastMarks [op, op2] [e2, e3] && chkE T s a e1 && chkE T s b e2 && chkE T s c e3
    | _ => false
  | .and es, e => match e with
    | .BoolOp .And l _ => !l.isEmpty && chkEs T s es l
    | _ => false
  | .or es, e => match e with
    | .BoolOp .Or l _ => !l.isEmpty && chkEs T s es l
    | _ => false
  | .not a, e => match e with
    | .UnaryOp .Not e1 _ => chkE T s a e1
    | _ => false
  | .ite c a b, e => match e with
    | .IfExp e1 e2 e3 _ => chkB T s c e1 && chkE T s a e2 && chkE T s b e3
    | _ => false
  | .call f es, e => match e with
    | .Call (.Name x _) l [] _ => s.calm && decide (T.dn f = some x) && isGl s x && chkEs T s es l
    | _ => false
  | .callv i es, e => match e with
    | .Call (.Name x _) l [] _ => s.calm && decide (s.N[i]? = some x) && isVis s x && !l.isEmpty && chkEs T s es l
    | _ => false
  | .blt b es, e => match e with
    | .Call (.Name x _) l [] _ => s.calm && decide (biName b = x) && isGl s x && !l.isEmpty && chkEs T s es l
    | _ => false
  | .isi a ty, e => match e with
    | .Call (.Name x _) [e1, .Name y _] [] _ => decide (x = "isinstance") && isGl s x && decide (Str.ofString ty = y) && isGl s y && tys.contains ty && chkE T s a e1
    | _ => false
  | .isx a ty, e => match e with
    | .Call (.Name x _) [e1, .Name y _] [] _ => s.exn && decide (x = "isinstance") && isGl s x && decide (ty = y) && isGl s y && T.ix.contains ty && chkE T s a e1
    | _ => false
  | .mth m o es, e => match e with
    | .Call (.Attribute e1 n apos) l [] pos => decide (n = mtName m) && (apos.endLine == pos.line) && decide (l.length < 30) && plainB e1 && chkE T s o e1 && chkEs T s es l
    | _ => false
  | .tup es, e => match e with
    | .Tuple l _ _ => decide (l.length ≤ 1000000) && chkEs T s es l
    | _ => false
  | .lst es, e => match e with
    | .List l _ => decide (l.length ≤ 1000000) && chkEs T s es l
    | _ => false
  | .new es, e => match e with
    | .List l _ => decide (l.length ≤ 1000000) && chkEs T s es l
    | _ => false
  | .ix a b, e => match e with
    | .Subscript e1 e2 _ => chkE T s a e1 && chkE T s b e2
    | _ => false
  | .sl a lo hi, e => match e with
    | .Subscript e1 (.Slice l h none _) _ => chkE T s a e1 && chkO T s lo l && chkO T s hi h
    | _ => false
  | .comp _ own elt t it c, e => match e with
    | .ListComp e0 [⟨tg, iter, ifs, 0⟩] scope _ => s.calm && blkC s.N s.sc scope (ownOf s.N own) && tgIn own t && chkI T s it tg iter && chkT (s.blk scope) t tg && chkC T (s.blk scope) c ifs && chkE T (s.blk scope) elt e0
    | _ => false
  | .comp2 _ own elt t it c own2 t2 it2 c2, e => match e with
    | .ListComp e0 [⟨tg, iter, ifs, 0⟩, ⟨tg2, iter2, ifs2, 0⟩] scope _ => s.calm && blkC s.N s.sc scope (ownOf s.N own) && own2.all (own.contains ·) && tgIn own t && tgIn own2 t2 && chkI T s it tg iter && chkT (s.blk scope) t tg && chkC T (s.blk scope) c ifs
        && chkI T (s.blk scope) it2 tg2 iter2 && chkT (s.blk scope) t2 tg2 && chkC T (s.blk scope) c2 ifs2 && chkE T (s.blk scope) elt e0
    | _ => false
  | .sset _ _ _ _ _ _ _, _ => false
  | .ssrt _, _ => false
  | .skey _, _ => false
  | .fmt a, e => match e with
    | .FormattedValue e1 c none _ => decide (c = -1) && chkE T s a e1
    | .JoinedStr [.FormattedValue e1 c none _] _ => decide (c = -1) && chkE T s a e1
    | _ => false
  | .joi es, e => match e with
    | .JoinedStr (e1 :: e2 :: l) _ => decide (l.length < 90) && chkEs T s es (e1 :: e2 :: l)
    | _ => false
  | .fld a n, e => match e with
    | .Attribute e1 m _ => s.exn && decide (n = m) && plainB e1 && chkE T s a e1
    | _ => false
  | .inD neg a x, e => match e with
    | .Compare e1 [op] [.Name y _] _ => decide ((if neg then CmpOp.NotIn else CmpOp.In) = op) && decide (Str.ofString x = y) && T.gd.contains x && isGl s y && chkE T s a e1
    | _ => false
  | .ixD x a, e => match e with
    | .Subscript (.Name y _) e2 _ => decide (Str.ofString x = y) && T.gd.contains x && isGl s y && chkE T s a e2
    | _ => false
  | .nope k a, e => match e with
    | .Compare (.Constant (.int i) _ _) [.NotIn] [.Call (.Attribute e1 n apos) [] [] cpos] _ => decide (i = (k : Int)) && decide (n = "encode") && (apos.endLine == cpos.line) && plainB e1 && chkE T s a e1
    | _ => false
  | .rep3 a c1 z1 c2 z2 c3 z3, e => match e with
    | .Call (.Attribute (.Call (.Attribute (.Call (.Attribute e1 n1 a1) [.Constant (.str x1) _ _, .Constant (.str y1) _ _] [] p1) n2 a2) [.Constant (.str x2) _ _, .Constant (.str y2) _ _] [] p2) n3 a3) [.Constant (.str x3) _ _, .Constant (.str y3) _ _] [] p3 =>
      decide (n1 = "replace") && decide (n2 = "replace") && decide (n3 = "replace") && decide (x1 = ⟨#[c1]⟩) && decide (x2 = ⟨#[c2]⟩) && decide (x3 = ⟨#[c3]⟩) && decide (y3 = strO z3) && (a1.endLine == p1.line) && (a2.endLine == p2.line) && (a3.endLine == p3.line) && decide (c3 < 256) && !((⟨#[c3]⟩ : Str) == strO z3) && plainB e1 && chkE T s a e1
    | _ => false
def chkEs (T : Tb) (s : Sx) : Exs → List Expr → Bool
  | .nil, l => l.isEmpty
  | .cons a es, l => match l with
    | e :: l => chkE T s a e && chkEs T s es l
    | [] => false
def chkO (T : Tb) (s : Sx) : Ox → Option Expr → Bool
  | .none, o => o.isNone
  | .some a, o => match o with
    | some e => chkE T s a e
    | none => false
def chkC (T : Tb) (s : Sx) : Ox → List Expr → Bool
  | .none, l => l.isEmpty
  | .some a, l => match l with
    | [e] => chkB T s a e
    | _ => false
def chkI (T : Tb) (s : Sx) : Itr → Expr → Expr → Bool
  | .plain a, _, e => notSet e && chkE T s a e
  | .range1 a, _, e => match e with
    | .Call (.Name x _) [e1] [] _ => decide (x = "range") && isGl s x && chkE T s a e1
    | _ => false
  | .range2 a b, _, e => match e with
    | .Call (.Name x _) [e1, e2] [] _ => decide (x = "range") && isGl s x && chkE T s a e1 && chkE T s b e2
    | _ => false
  | .rev a, _, e => match e with
    | .Call (.Name x _) [e1] [] _ => decide (x = "reversed") && isGl s x && chkE T s a e1
    | _ => false
  | .enum a, tg, e => match e with
    | .Call (.Name x _) [e1] [] _ => decide (x = "enumerate") && isGl s x && isTup tg && chkE T s a e1
    | _ => false
  | .zip a b, tg, e => match e with
    | .Call (.Name x _) [e1, e2] [] _ => decide (x = "zip") && isGl s x && isTup tg && chkE T s a e1 && chkE T s b e2
    | _ => false
  | .enumS k a, tg, e => match e with
    | .Call (.Name x _) [e1, .Constant (.int i) _ _] [] _ => decide (x = "enumerate") && isGl s x && isTup tg && decide (i = k) && decide (-(2 ^ 63) ≤ k) && decide (k < 2 ^ 63) && chkE T s a e1
    | _ => false
def chkB (T : Tb) (s : Sx) : Ex → Expr → Bool
  | .and es, e => match e with
    | .BoolOp .And l _ => !l.isEmpty && chkBs T s es l
    | _ => false
  | .or es, e => match e with
    | .BoolOp .Or l _ => !l.isEmpty && chkBs T s es l
    | _ => false
  | .not a, e => match e with
    | .UnaryOp .Not e1 _ => chkB T s a e1
    | _ => false
  | .ite c a b, e => match e with
    | .IfExp e1 e2 e3 _ => chkB T s c e1 && chkB T s a e2 && chkB T s b e3
    | _ => false
  | .cmp o a b, e => match e with
    | .Compare e1 [op] [e2] _ => decide (coOp o = op) && !behindInMarks op e2 && chkE T s a e1 && chkE T s b e2
    | _ => false
  | .chn o p a b c, e => match e with
    | .Compare e1 [op, op2] [e2, e3] _ => decide (coOp o = op) && decide (coOp p = op2) && !lastMarks [op, op2] [e2, e3] && chkE T s a e1 && chkE T s b e2 && chkE T s c e3
    | _ => false
  | .var i, e => match e with
    | .Name x _ => decide (s.N[i]? = some x) && isVis s x
    | _ => false
  | .bl b, e => match e with
    | .Constant (.bool c) _ _ => decide (b = c)
    | _ => false
  | .call f es, e => match e with
    | .Call (.Name x _) l [] _ => s.calm && decide (T.dn f = some x) && isGl s x && chkEs T s es l
    | _ => false
  | .callv i es, e => match e with
    | .Call (.Name x _) l [] _ => s.calm && decide (s.N[i]? = some x) && isVis s x && !l.isEmpty && chkEs T s es l
    | _ => false
  | .isi a ty, e => match e with
    | .Call (.Name x _) [e1, .Name y _] [] _ => decide (x = "isinstance") && isGl s x && decide (Str.ofString ty = y) && isGl s y && tys.contains ty && chkE T s a e1
    | _ => false
  | .isx a ty, e => match e with
    | .Call (.Name x _) [e1, .Name y _] [] _ => s.exn && decide (x = "isinstance") && isGl s x && decide (ty = y) && isGl s y && T.ix.contains ty && chkE T s a e1
    | _ => false
  | .mth m o es, e => match e with
    | .Call (.Attribute e1 n apos) l [] pos => decide (n = mtName m) && (apos.endLine == pos.line) && decide (l.length < 30) && plainB e1 && chkE T s o e1 && chkEs T s es l
    | _ => false
  | .ix a b, e => match e with
    | .Subscript e1 e2 _ => chkE T s a e1 && chkE T s b e2
    | _ => false
  | .inD neg a x, e => match e with
    | .Compare e1 [op] [.Name y _] _ => decide ((if neg then CmpOp.NotIn else CmpOp.In) = op) && decide (Str.ofString x = y) && T.gd.contains x && isGl s y && chkE T s a e1
    | _ => false
  | _, _ => false
def chkBs (T : Tb) (s : Sx) : Exs → List Expr → Bool
  | .nil, l => l.isEmpty
  | .cons a es, l => match l with
    | e :: l => chkB T s a e && chkBs T s es l
    | [] => false
end
end DL
set_option Elab.async false
set_option linter.all false
set_option maxRecDepth 100000
set_option maxHeartbeats 4000000
/-! DL18: the meaning of the small syntax is the expression's reading. -/
namespace DL
open PySem PySem.Spec PyProof.Rows L2

/-- what is told of a place -/
structure Cz (T : Tb) (G : Gb) (P : Par) (m : Nat) (s : Sx) (X : Cx) (E : XK) : Prop where
  K : G.K = X.K
  N : X.N = s.N
  nd : s.N.Nodup
  sc : X.env.scope = s.sc
  fn : ∀ x, s.fn x = true → X.fn x = true
  calm : s.calm = true → X.calm = true
  room : s.calm = true → Room m X.A
  un : X.A.units + 64 < cLine
  tk : Takes X fun c d _ H => E c d H
  FO : ∀ f a, G.fa f = some a → ∃ fd ps, FnOk X.prog X.w X.K X.mg X.base (L2.CX X.prog X.w) m a fd ps (spOf G (P.fn f)) ∧ PySem.W.keepIn X.K (.ref a) = true ∧ Binds X.K fd ps []
  dn : ∀ f x, T.dn f = some x → ∃ a, X.mg x = some (.ref a) ∧ G.fa f = some a
  gc : ∀ y d, P.gc y = some d → ∃ u v, X.mg (Str.ofString y) = some u ∧ L2.RelV v u ∧ ∀ W H, Rp G W H d v
  gd : ∀ x ∈ T.gd, ∃ kv a, P.gd x = some kv ∧ DkX X.K X.w X.mg (Str.ofString x) kv a
  bl : ∀ b ∈ bltNames, X.mg b = none
  xf : P.xf = G.xf
  ix : ∀ ty ∈ T.ix, (∃ CT, X.mg ty = some (.ref CT) ∧ ∀ x C b, G.ca x = some C → P.isx x ty = some b → PySem.W.kitOne X.K (.ref C) (.ref CT) = some b) ∨ (∃ t, X.mg ty = none ∧ bootBuiltins ty = some (.type t) ∧ ∀ x C b, G.ca x = some C → P.isx x ty = some b → PySem.W.kitOne X.K (.ref C) (.type t) = some b)
  ex : s.exn = true → ∃ a dd x oe C, P.ex = some (a, dd, x) ∧ (a, oe) ∈ X.pn ∧ Zc (.ref C) (some dd) oe ∧ (∃ vs, oe.data = .fields vs) ∧ XfC X.K C ∧ ExcC X.K C ∧ G.ca x = some C ∧ ∀ n ∈ G.xf x, PySem.W.findIn X.K (.ref C) n = some none

section
variable {T : Tb} {G : Gb} {P : Par} {m : Nat} {s : Sx} {X : Cx} {E : XK}
theorem Cz.gl (c : Cz T G P m s X E) {x : Str} (h : isGl s x = true) : Gl X x ∧ (x == ("__debug__" : Str)) = false ∧ x ≠ "__name__" := by
  unfold isGl at h
  simp only [Bool.and_eq_true, decide_eq_true_eq] at h
  refine ⟨?_, by simpa using h.1.2, h.2⟩
  show X.env.scope.names.lookup x = _
  rw [c.sc]
  exact h.1.1
theorem Cz.vis (c : Cz T G P m s X E) {x : Str} (h : isVis s x = true) : Vis X.env.scope x ∧ (x == ("__debug__" : Str)) = false ∧ (x == ("__classdict__" : Str)) = false := by
  unfold isVis at h
  simp only [Bool.and_eq_true, decide_eq_true_eq] at h
  refine ⟨?_, by simpa using h.1.2, by simpa using h.2⟩
  unfold Vis
  rw [c.sc]
  have h := h.1.1
  split at h <;> simp_all
theorem Cz.sto (c : Cz T G P m s X E) {x : Str} (h : isSto s x = true) : L2.Loc X.env.scope x ∧ (X.fn x = true ∨ X.env.scope.names.lookup x = some .local) := by
  unfold isSto at h
  unfold L2.Loc
  rw [c.sc]
  split at h
  · rename_i e
    exact ⟨.inl e, .inr e⟩
  · rename_i e
    exact ⟨.inr e, .inl (c.fn x h)⟩
  · cases h
theorem Cz.ps (c : Cz T G P m s X E) : Passes (L2.CX X.prog X.w) X E := passes_call c.tk fun _ _ _ _ h => h
theorem Cz.xnd (c : Cz T G P m s X E) : X.N.Nodup := by rw [c.N]; exact c.nd
theorem Cz.blk (c : Cz T G P m s X E) (scope : Scope) (s0 : Shared) (H : Hp) (C : Addr) (cl : List (Str × Addr)) (fp : List Addr) : Cz T G P m (s.blk scope) (X.blk s0 H scope (compEnvC scope cl C X.env) fp) (fun _ _ _ => False) where
  K := c.K
  N := c.N
  nd := c.nd
  sc := by
    show relS scope X.env.scope = relS scope s.sc
    rw [c.sc]
  fn := fun x h => h
  calm := c.calm
  room := c.room
  un := c.un
  tk := fun _ _ x => by
    obtain ⟨_, _, _, _, _, _, _, _, _, _, _, _, _, _, _, _, z⟩ := x
    exact z.elim
  FO := c.FO
  dn := c.dn
  gc := c.gc
  gd := c.gd
  bl := c.bl
  xf := c.xf
  ix := c.ix
  ex := fun h => nomatch h

/-! ### value-level not -/
theorem k_notE {e : Expr} {fa : M D} {pos : Pos} (hK : G.K = X.K) (ha : PE X e (TD G E fa)) : PE X (.UnaryOp .Not e pos) (TD G E fun r S => (fa r S).bind fun d S1 => (truD d S1).bind fun b S2 => .ok (.bl (!b)) S2) := by
  refine ⟨fun pins s σ H Q I h => ?_⟩
  refine UnaryOp_ (thn (ha.run pins s σ H _ I (DL.T.seq' h)) fun v s1 ⟨x, H1, I1, r1, W, r, S, d, rel, rd, k⟩ => ?_)
  have h2 : rT G E x H1 (fun b H2 => Q (.bl (!b)) H2) := by
    refine ⟨W, S, d, rel.st, rd, ?_⟩
    refine Post.imp (Post.thn (p := repB) k) fun v H2 ⟨W2, b, S2, ext, st, rb, k2⟩ => ?_
    subst rb
    exact k2.done st mk_bl
  exact not_of (wpAny_mono (tr_ok hK pins s1 σ H1 x v _ I1 r1 h2) (fun b s2 ⟨H2, I2, q⟩ => ⟨.bl (!b), H2, I2, rfl, q⟩) fun _ _ z => z)
end
end DL
set_option Elab.async false
set_option linter.all false
set_option maxRecDepth 100000
set_option maxHeartbeats 8000000
/-! DL19: soundness of the small syntax, expressions. -/
namespace DL
open PySem PySem.Spec PyProof.Rows L2
section
variable {T : Tb} {G : Gb} {P : Par} {m : Nat} {s : Sx} {X : Cx} {E : XK}
theorem ops_bo (c : Cz T G P m s X E) (o : Bo) : OpR X (binaryOp (boOp o)) (r2 G E (boF o)) := by
  cases o with
  | add => exact or_add c.K
  | sub => exact or_sub
  | mul => exact or_mul
  | div => exact or_div
  | mod => exact or_mod
  | pow => exact or_pow
theorem ops_co (c : Cz T G P m s X E) (o : Co) : OpR X (compareOp (coOp o)) (r2 G E (coF o)) := by
  cases o with
  | eq => exact or_eq c.K c.un
  | ne => exact or_ne c.K c.un
  | lt => exact or_lt
  | le => exact or_le
  | gt => exact or_gt
  | ge => exact or_ge
  | is => exact or_is
  | isN => exact or_isN
  | in_ => exact or_in c.K
  | notIn => exact or_notIn c.K
theorem ns_of {a : Ex} {e : Expr} (h : chkE T s a e = true) (es : List Expr) (env : Env) : starEach (e :: es) env = (false, eval e env) :: starEach es env := by
  cases e <;> first | rfl | (cases a <;> simp [chkE] at h)
theorem plain_of {a : Ex} {e : Expr} (h : chkE T s a e = true) : PlainIx e := by
  cases e <;> first | (intro o i; rfl) | (cases a <;> simp [chkE] at h)
theorem back_of : ∀ {es : Exs} {l : List Expr} (pos : Pos) (env : Env), chkEs T s es l = true → (backTo pos (starEach l env)).any (·.1) = false
  | .nil, l, pos, env, h => by
    unfold chkEs at h
    cases l with
    | nil => rfl
    | cons => cases h
  | .cons a es, l, pos, env, h => by
    unfold chkEs at h
    split at h
    · rename_i e l
      simp only [Bool.and_eq_true] at h
      rw [ns_of h.1]
      have ih := back_of pos env h.2
      first
        | (show (false || _) = false; rw [Bool.false_or]; exact ih)
        | (unfold backTo at ih ⊢; simpa using ih)
    · cases h
theorem base_of {e : Expr} {n : Str} {env : Env} (h : plainB e = true) : attributeBase e n env (eval e env) = eval e env := by
  unfold plainB at h
  split at h
  · cases h
  · rename_i hn
    unfold attributeBase
    split
    · exact absurd rfl (hn _ _ _)
    · rfl
theorem bi_ok (c : Cz T G P m s X E) (hc : s.calm = true) (b : Bi) {e : Expr} {es : List Expr} {f : M (List D)} {p pos : Pos} (hg : isGl s (biName b) = true) (ha : PA X (e :: es) (TDs G E f)) (he : starEach (e :: es) X.env = (false, eval e X.env) :: starEach es X.env)
    (hpl : (backTo pos (starEach es X.env)).any (·.1) = false) : PE X (.Call (.Name (biName b) p) (e :: es) [] pos) (TD G E fun r S => (f r S).bind fun ds S1 => biF b ds S1) := by
  obtain ⟨g1, g2, g3⟩ := c.gl hg
  cases b with
  | len => exact k_blt (c_len c.K) g1 (c.bl _ (by simp [bltNames, biName])) (by decide +kernel) ha g3 g2 he hpl
  | int => exact k_bty c_int g1 (c.bl _ (by simp [bltNames, biName])) (by decide +kernel) ha g3 g2 he hpl
  | max => exact k_blt (c_max (c.calm hc)) g1 (c.bl _ (by simp [bltNames, biName])) (by decide +kernel) ha g3 g2 he hpl
  | min => exact k_blt (c_min (c.calm hc)) g1 (c.bl _ (by simp [bltNames, biName])) (by decide +kernel) ha g3 g2 he hpl
  | sum => exact k_blt (c_sum c.K (c.calm hc)) g1 (c.bl _ (by simp [bltNames, biName])) (by decide +kernel) ha g3 g2 he hpl
  | sorted => exact k_blt c_sorted g1 (c.bl _ (by simp [bltNames, biName])) (by decide +kernel) ha g3 g2 he hpl
  | tuple => exact k_bty (c_tuple c.K) g1 (c.bl _ (by simp [bltNames, biName])) (by decide +kernel) ha g3 g2 he hpl
  | list => exact k_bty (c_list c.K) g1 (c.bl _ (by simp [bltNames, biName])) (by decide +kernel) ha g3 g2 he hpl
  | ord => exact k_blt c_ord g1 (c.bl _ (by simp [bltNames, biName])) (by decide +kernel) ha g3 g2 he hpl
  | str => exact k_bty c_str g1 (c.bl _ (by simp [bltNames, biName])) (by decide +kernel) ha g3 g2 he hpl
/-! targets -/
theorem asE_cons (t : Tg) (e : Expr) (es : List Expr) {env : Env} (h : chkT s t e = true) : assignEach (e :: es) env = (false, assign e env) :: assignEach es env := by
  cases e <;> first | rfl | (cases t <;> simp [chkT] at h)
theorem asE_len : ∀ (ts : Tgs) (es : List Expr) {env : Env}, chkTs s ts es = true → (assignEach es env).length = es.length
  | .nil, es, env, h => by
    unfold chkTs at h
    split at h
    · rfl
    · cases h
  | .cons t ts, es, env, h => by
    unfold chkTs at h
    split at h
    · rename_i e es
      simp only [Bool.and_eq_true] at h
      rw [asE_cons t e es h.1, List.length_cons, List.length_cons, asE_len ts es h.2]
    · cases h
theorem asE_st : ∀ (ts : Tgs) (es : List Expr) {env : Env}, chkTs s ts es = true → (assignEach es env).findIdx? (·.1) = none
  | .nil, es, env, h => by
    unfold chkTs at h
    split at h
    · rfl
    · cases h
  | .cons t ts, es, env, h => by
    unfold chkTs at h
    split at h
    · rename_i e es
      simp only [Bool.and_eq_true] at h
      rw [asE_cons t e es h.1, List.findIdx?_cons, asE_st ts es h.2]
      rfl
    · cases h
theorem asgs_len : ∀ (ts : Tgs) (es : List Expr) (ds : List D) (r r2 : Loc), chkTs s ts es = true → asgs ts ds r = some r2 → ds.length = es.length
  | .nil, es, ds, r, r2, h, k => by
    unfold chkTs at h
    split at h
    · unfold asgs at k
      split at k
      · rfl
      · cases k
    · cases h
  | .cons t ts, es, ds, r, r2, h, k => by
    unfold chkTs at h
    split at h
    · rename_i e es
      simp only [Bool.and_eq_true] at h
      unfold asgs at k
      split at k
      · rename_i d ds
        cases e1 : asg t d r with
        | none => rw [e1] at k; cases k
        | some r3 =>
          rw [e1] at k
          rw [List.length_cons, List.length_cons, asgs_len ts es ds r3 r2 h.2 k]
      · cases k
    · cases h
mutual
theorem sndT (c : Cz T G P m s X E) : ∀ (t : Tg) (e : Expr), chkT s t e = true → PG X e (gOf G t)
  | .name i, e, h => by
    unfold chkT at h
    split at h
    · simp only [Bool.and_eq_true, decide_eq_true_eq] at h
      obtain ⟨h1, h2⟩ := c.sto h.2
      exact g_name (pg_name c.xnd (by rw [c.N]; exact h.1) h1 h2)
    · cases h
  | .tup ts, e, h => by
    unfold chkT at h
    split at h
    · rename_i es k p
      simp only [Bool.and_eq_true] at h
      exact g_tup c.K (c.calm h.1) (sndTs c ts es h.2) (fun ds r r2 h2 => asgs_len ts es ds r r2 h.2 h2) (asE_len ts es h.2) (asE_st ts es h.2)
    · cases h
theorem sndTs (c : Cz T G P m s X E) : ∀ (ts : Tgs) (es : List Expr), chkTs s ts es = true → PGs X es (gsOf G ts)
  | .nil, es, h => by
    unfold chkTs at h
    split at h
    · exact g_nil
    · cases h
  | .cons t ts, es, h => by
    unfold chkTs at h
    split at h
    · rename_i e es
      simp only [Bool.and_eq_true] at h
      exact g_cons (sndT c t e h.1) (sndTs c ts es h.2) (by rw [asE_cons t e es h.1]; rfl)
    · cases h
end
end
end DL
set_option Elab.async false
set_option linter.all false
set_option maxRecDepth 100000
set_option maxHeartbeats 16000000
/-! DL20: soundness of the small syntax, expressions: the theorem. -/
namespace DL
open PySem PySem.Spec PyProof.Rows L2
theorem semEs_len (P : Par) : ∀ (es : Exs) {r : Loc} {S S' : Sto} {ds : List D} {T : Tb} {s : Sx} {l : List Expr}, chkEs T s es l = true → semEs P es r S = .ok ds S' → ds.length = l.length
  | .nil, r, S, S', ds, T, s, l, h, k => by
    unfold chkEs at h
    cases l with
    | nil =>
      simp only [semEs, Re.ok.injEq] at k
      rw [← k.1]
      rfl
    | cons => cases h
  | .cons a es, r, S, S', ds, T, s, l, h, k => by
    unfold chkEs at h
    split at h
    · simp only [Bool.and_eq_true] at h
      simp only [semEs] at k
      obtain ⟨d, S1, e1, k⟩ := bind_ok_inv k
      obtain ⟨ds2, S2, e2, k⟩ := bind_ok_inv k
      cases k
      rw [List.length_cons, List.length_cons, semEs_len P es h.2 e2]
    · cases h
theorem nil_of {T : Tb} {s : Sx} {es : Exs} (h : chkEs T s es [] = true) : es = .nil := by
  cases es with
  | nil => rfl
  | cons => unfold chkEs at h; cases h
theorem few_of {T : Tb} {s : Sx} {es : Exs} {l : List Expr} {pos : Pos} {env : Env} (h : chkEs T s es l = true) : (backTo pos (starEach l env)).all (fun x => !x.1) = true := by
  have := back_of pos env h
  rw [List.all_eq_not_any_not]
  simpa using this
theorem set_of {e : Expr} (h : notSet e = true) (env : Env) (x : Value) : foldedSetIterable e env x = pure x := by
  unfold notSet at h
  split at h
  · cases h
  · rename_i hn
    unfold foldedSetIterable
    split
    · exact absurd rfl (hn _ _ _)
    · rfl
theorem setJ {T : Tb} {s : Sx} (it : Itr) (tg e : Expr) (h : chkI T s it tg e = true) (env : Env) (x : Value) : foldedSetIterable e env x = pure x := by
  refine set_of ?_ env x
  cases it <;> unfold chkI at h
  · simp only [Bool.and_eq_true] at h
    exact h.1
  all_goals split at h <;> first | rfl | cases h
theorem k_c0 {G : Gb} {X : Cx} {E : XK} : PTs X [] (TB G E fun _ S => .ok true S) := by
  refine ⟨fun pins s σ H Q I ⟨W, r, S, rel, p⟩ => pts_nil.run pins s σ H Q I (p.done rel.st rfl)⟩
theorem k_iteT {G : Gb} {X : Cx} {E : XK} {e1 e2 e3 : Expr} {pos : Pos} {ga gb gc : M Bool} (hc : L2.PT X e1 (TB G E ga)) (ha : L2.PT X e2 (TB G E gb)) (hb : L2.PT X e3 (TB G E gc)) : L2.PT X (.IfExp e1 e2 e3 pos) (TB G E fun r S => (ga r S).bind fun k S1 => if k then gb r S1 else gc r S1) := by
  refine ⟨fun pins s σ H Q I h => ?_⟩
  have h2 := DL.T.seq (p := repB) h
  show wpAny _ _ (do if ← isTrue e1 X.env (eval e1 X.env) then isTrue e2 X.env (eval e2 X.env) else isTrue e3 X.env (eval e3 X.env)) _ _ _
  refine wpAny_bind (thn (hc.run pins s σ H _ I h2) fun d s1 ⟨H1, I1, W, r, S, x, rel, rx, k⟩ => ?_)
  subst rx
  cases d with
  | true => exact ha.run pins s1 σ H1 Q I1 ⟨W, r, S, rel, k⟩
  | false => exact hb.run pins s1 σ H1 Q I1 ⟨W, r, S, rel, k⟩
mutual
theorem sndE {T : Tb} {G : Gb} {P : Par} {m : Nat} : ∀ (a : Ex) {s : Sx} {X : Cx} {E : XK} (c : Cz T G P m s X E) (e : Expr), chkE T s a e = true → PE X e (TD G E (semE P a))
  | .var i, s, X, E, c, e, h => by
    unfold chkE at h
    split at h
    · simp only [Bool.and_eq_true, decide_eq_true_eq] at h
      obtain ⟨h1, h2⟩ := h
      obtain ⟨v1, v2, v3⟩ := c.vis h2
      simp only [semE]
      exact k_var (pe_var (by rw [c.N]; exact h1) v1 v2 v3)
    · cases h
  | .int i, s, X, E, c, e, h => by
    unfold chkE at h
    split at h
    · simp only [decide_eq_true_eq] at h
      subst h
      simp only [semE]
      exact k_con pe_int fun _ _ => mk_int
    · cases h
  | .str t, s, X, E, c, e, h => by
    unfold chkE at h
    split at h
    · simp only [decide_eq_true_eq] at h
      subst h
      simp only [semE]
      exact k_con pe_str fun _ _ => mk_strO
    · cases h
  | .bl b, s, X, E, c, e, h => by
    unfold chkE at h
    split at h
    · simp only [decide_eq_true_eq] at h
      subst h
      simp only [semE]
      exact k_con pe_bl fun _ _ => mk_bl
    · cases h
  | .non, s, X, E, c, e, h => by
    unfold chkE at h
    split at h
    · simp only [semE]
      exact k_con pe_non fun _ _ => mk_non
    · cases h
  | .glo y, s, X, E, c, e, h => by
    unfold chkE at h
    split at h
    · simp only [Bool.and_eq_true, decide_eq_true_eq] at h
      obtain ⟨rfl, h2⟩ := h
      obtain ⟨g1, g2, g3⟩ := c.gl h2
      simp only [semE]
      split
      · rename_i d hd
        obtain ⟨u, v, hm, rv, rd⟩ := c.gc y d hd
        exact k_con (pe_glob g1 hm rv g2) rd
      · exact ⟨fun pins s σ H Q I ⟨W, r, S, rel, p⟩ => p.no⟩
    · cases h
  | .fnv f, s, X, E, c, e, h => by
    unfold chkE at h
    split at h
    · simp only [Bool.and_eq_true, decide_eq_true_eq] at h
      obtain ⟨h1, h2⟩ := h
      obtain ⟨g1, g2, g3⟩ := c.gl h2
      obtain ⟨a, hm, hf⟩ := c.dn _ _ h1
      simp only [semE]
      exact k_con (pe_glob (v := .ref a) g1 hm rfl g2) fun _ _ => by simp only [Rp]; exact ⟨a, rfl, hf⟩
    · cases h
  | .bin o a b, s, X, E, c, e, h => by
    unfold chkE at h
    split at h
    · simp only [Bool.and_eq_true, decide_eq_true_eq] at h
      obtain ⟨⟨rfl, h1⟩, h2⟩ := h
      simp only [semE]
      exact k_bin (ops_bo c o) (sndE a c _ h1) (sndE b c _ h2)
    · cases h
  | .neg a, s, X, E, c, e, h => by
    unfold chkE at h
    split at h
    · simp only [semE]
      exact k_neg (sndE a c _ h)
    · cases h
  | .cmp o a b, s, X, E, c, e, h => by
    unfold chkE at h
    split at h
    · simp only [Bool.and_eq_true, decide_eq_true_eq, Bool.not_eq_true'] at h
      obtain ⟨⟨⟨rfl, h0⟩, h1⟩, h2⟩ := h
      simp only [semE]
      exact k_cmp (ops_co c o) (sndE a c _ h1) (sndE b c _ h2) h0
    · cases h
  | .chn o p a b d, s, X, E, c, e, h => by
    unfold chkE at h
    split at h
    · simp only [Bool.and_eq_true, decide_eq_true_eq, Bool.not_eq_true'] at h
      obtain ⟨⟨⟨⟨⟨rfl, rfl⟩, h0⟩, h1⟩, h2⟩, h3⟩ := h
      simp only [semE]
      exact k_chn (ops_co c o) (ops_co c p) (sndE a c _ h1) (sndE b c _ h2) (sndE d c _ h3) h0
    · cases h
  | .and es, s, X, E, c, e, h => by
    unfold chkE at h
    split at h
    · simp only [Bool.and_eq_true] at h
      simp only [semE]
      exact sndAnd es c _ h.2
    · cases h
  | .or es, s, X, E, c, e, h => by
    unfold chkE at h
    split at h
    · simp only [Bool.and_eq_true] at h
      simp only [semE]
      exact sndOr es c _ h.2
    · cases h
  | .not a, s, X, E, c, e, h => by
    unfold chkE at h
    split at h
    · simp only [semE]
      exact k_notE c.K (sndE a c _ h)
    · cases h
  | .ite k a b, s, X, E, c, e, h => by
    unfold chkE at h
    split at h
    · simp only [Bool.and_eq_true] at h
      simp only [semE]
      exact k_ite (sndB k c _ h.1.1) (sndE a c _ h.1.2) (sndE b c _ h.2)
    · cases h
  | .call f es, s, X, E, c, e, h => by
    unfold chkE at h
    split at h
    · rename_i x p l pos
      simp only [Bool.and_eq_true, decide_eq_true_eq] at h
      obtain ⟨⟨⟨h0, h1⟩, h2⟩, h3⟩ := h
      obtain ⟨g1, g2, g3⟩ := c.gl h2
      obtain ⟨a, hm, hf⟩ := c.dn _ _ h1
      obtain ⟨fd, ps, FO, hk, hb⟩ := c.FO f a hf
      simp only [semE]
      cases l with
      | nil =>
        have e0 := nil_of h3
        subst e0
        simp only [semEs, bind_ok]
        exact k_call0 FO (c.room h0) g1 hm hk hb c.ps g2
      | cons e1 l =>
        cases es with
        | nil => unfold chkEs at h3; cases h3
        | cons a1 es =>
          have h3' := h3
          unfold chkEs at h3
          simp only [Bool.and_eq_true] at h3
          exact k_call FO (c.room h0) g1 hm hk hb c.ps (sndEs (.cons a1 es) c _ h3') g2 (ns_of h3.1 _ _) (back_of pos _ h3.2)
    · cases h
  | .callv i es, s, X, E, c, e, h => by
    unfold chkE at h
    split at h
    · rename_i x p l pos
      simp only [Bool.and_eq_true, decide_eq_true_eq] at h
      obtain ⟨⟨⟨⟨h0, h1⟩, h2⟩, h4⟩, h3⟩ := h
      obtain ⟨v1, v2, v3⟩ := c.vis h2
      simp only [semE]
      cases l with
      | nil => cases h4
      | cons e1 l =>
        cases es with
        | nil => unfold chkEs at h3; cases h3
        | cons a1 es =>
          have h3' := h3
          unfold chkEs at h3
          simp only [Bool.and_eq_true] at h3
          exact k_callv c.FO (c.room h0) (by rw [c.N]; exact h1) v1 c.ps (sndEs (.cons a1 es) c _ h3') v2 v3 (ns_of h3.1 _ _) (back_of pos _ h3.2)
    · cases h
  | .blt b es, s, X, E, c, e, h => by
    unfold chkE at h
    split at h
    · rename_i x p l pos
      simp only [Bool.and_eq_true, decide_eq_true_eq] at h
      obtain ⟨⟨⟨⟨h0, rfl⟩, h2⟩, h4⟩, h3⟩ := h
      simp only [semE]
      cases l with
      | nil => cases h4
      | cons e1 l =>
        cases es with
        | nil => unfold chkEs at h3; cases h3
        | cons a1 es =>
          have h3' := h3
          unfold chkEs at h3
          simp only [Bool.and_eq_true] at h3
          exact bi_ok c h0 b h2 (sndEs (.cons a1 es) c _ h3') (ns_of h3.1 _ _) (back_of pos _ h3.2)
    · cases h
  | .isi a ty, s, X, E, c, e, h => by
    unfold chkE at h
    split at h
    · rename_i x p e1 y p2 pos
      simp only [Bool.and_eq_true, decide_eq_true_eq] at h
      obtain ⟨⟨⟨⟨⟨rfl, h1⟩, rfl⟩, h2⟩, h3⟩, h4⟩ := h
      obtain ⟨g1, g2, g3⟩ := c.gl h1
      obtain ⟨k1, k2, k3⟩ := c.gl h2
      simp only [semE]
      have ht : ty ∈ tys := by simpa using h3
      have hb : Str.ofString ty ∈ bltNames ∧ bootBuiltins (Str.ofString ty) = some (.type ty) := (show ∀ ty ∈ tys, Str.ofString ty ∈ bltNames ∧ bootBuiltins (Str.ofString ty) = some (.type ty) by decide +kernel) ty ht
      exact k_isi c.K g1 (c.bl _ (by simp [bltNames])) k1 (c.bl _ hb.1) hb.2 k3 k2 (by decide +kernel) (sndE a c _ h4) (ns_of h4 _ _)
    · cases h
  | .isx a ty, s, X, E, c, e, h => by
    unfold chkE at h
    split at h
    · rename_i x p e1 y p2 pos
      simp only [Bool.and_eq_true, decide_eq_true_eq] at h
      obtain ⟨⟨⟨⟨⟨⟨h0, rfl⟩, h1⟩, rfl⟩, h2⟩, h3⟩, h4⟩ := h
      obtain ⟨g1, g2, g3⟩ := c.gl h1
      obtain ⟨k1, k2, k3⟩ := c.gl h2
      obtain ⟨a0, dd, x0, oe, C, ex, hp, hz, hf, Xf, Ec, hC, hno⟩ := c.ex h0
      simp only [semE, ex]
      rcases c.ix ty (by simpa using h3) with ⟨CT, hm, hk⟩ | ⟨t, hm, hbt, hk⟩
      · exact k_isx (c := .ref CT) Ec hp hz hf g1 (c.bl _ (by simp [bltNames])) (pe_glob k1 hm rfl k2) (fun u hu => hu) (fun b hb => hk x0 C b hC hb) (by decide +kernel) (sndE a c _ h4) (ns_of h4 _ _)
      · exact k_isx (c := .ty t) Ec hp hz hf g1 (c.bl _ (by simp [bltNames])) (pe_bltn k1 hm hbt rfl k3 k2) (fun u hu => hu) (fun b hb => hk x0 C b hC hb) (by decide +kernel) (sndE a c _ h4) (ns_of h4 _ _)
    · cases h
  | .mth mt o es, s, X, E, c, e, h => by
    unfold chkE at h
    split at h
    · rename_i e1 n apos l pos
      simp only [Bool.and_eq_true, decide_eq_true_eq] at h
      obtain ⟨⟨⟨⟨⟨rfl, h1⟩, h2⟩, h3⟩, h4⟩, h5⟩ := h
      simp only [semE]
      cases l with
      | nil =>
        have e0 := nil_of h5
        subst e0
        simp only [semEs, bind_ok]
        exact k_mth0 c.K (mt_pa mt) (mt_slot mt) (mt_ty mt) (mt_all c.K mt) (sndE o c _ h4) (base_of h3) h1
      | cons e2 l =>
        cases es with
        | nil => unfold chkEs at h5; cases h5
        | cons a1 es =>
          have h5' := h5
          unfold chkEs at h5
          simp only [Bool.and_eq_true] at h5
          refine k_mth c.K (mt_pa mt) (mt_slot mt) (mt_ty mt) (mt_all c.K mt) (sndE o c _ h4) (sndEs (.cons a1 es) c _ h5') (base_of h3) ?_ h1 (ns_of h5.1 _ _) (back_of pos _ h5.2)
          rw [few_of h5', show backToKw pos (keywordEach [] X.env) = [] from rfl]
          simpa using h2
    · cases h
  | .tup es, s, X, E, c, e, h => by
    unfold chkE at h
    split at h
    · simp only [Bool.and_eq_true, decide_eq_true_eq] at h
      simp only [semE]
      exact k_tup h.1 (fun r S ds S' k => semEs_len P es h.2 k) (sndEs es c _ h.2)
    · cases h
  | .lst es, s, X, E, c, e, h => by
    unfold chkE at h
    split at h
    · simp only [Bool.and_eq_true, decide_eq_true_eq] at h
      simp only [semE]
      exact k_lst h.1 (fun r S ds S' k => semEs_len P es h.2 k) (sndEs es c _ h.2)
    · cases h
  | .new es, s, X, E, c, e, h => by
    unfold chkE at h
    split at h
    · simp only [Bool.and_eq_true, decide_eq_true_eq] at h
      simp only [semE]
      exact k_new h.1 (fun r S ds S' k => semEs_len P es h.2 k) (sndEs es c _ h.2)
    · cases h
  | .ix a b, s, X, E, c, e, h => by
    unfold chkE at h
    split at h
    · simp only [Bool.and_eq_true] at h
      simp only [semE]
      exact k_ix c.K (sndE a c _ h.1) (sndE b c _ h.2) (plain_of h.2)
    · cases h
  | .sl a lo hi, s, X, E, c, e, h => by
    unfold chkE at h
    split at h
    · simp only [Bool.and_eq_true] at h
      simp only [semE]
      exact k_sl c.K (sndE a c _ h.1.1) (sndO lo c _ h.1.2) (sndO hi c _ h.2)
    · cases h
  | .comp trk own elt t it k, s, X, E, c, e, h => by
    unfold chkE at h
    split at h
    · rename_i e0 tg iter ifs scope pos
      simp only [Bool.and_eq_true] at h
      obtain ⟨⟨⟨⟨⟨⟨h0, h1⟩, h2⟩, h3⟩, h4⟩, h5⟩, h6⟩ := h
      have hk := (k_comp (trk := trk) (E := E) (own := ownOf s.N own) (t := t) c.K (c.calm h0) c.xnd (sndI it c tg iter h3) (by rw [c.N, c.sc]; exact blkOk_by h1) (by rw [ownOf_snd]; exact h2)
        (fun s0 H C cl fp => sndT (c.blk scope s0 H C cl fp) t tg h4) (fun s0 H C cl fp => sndC k (c.blk scope s0 H C cl fp) ifs h5) (fun s0 H C cl fp => sndE elt (c.blk scope s0 H C cl fp) e0 h6) (setJ it tg iter h3 _) (pos := pos)).1
      rw [ownOf_snd] at hk
      simp only [semE]
      exact hk
    · cases h
  | .comp2 trk own elt t it k own2 t2 it2 k2, s, X, E, c, e, h => by
    unfold chkE at h
    split at h
    · rename_i e0 tg iter ifs tg2 iter2 ifs2 scope pos
      simp only [Bool.and_eq_true] at h
      obtain ⟨⟨⟨⟨⟨⟨⟨⟨⟨⟨⟨h0, h1⟩, hv⟩, h2⟩, h2'⟩, h3⟩, h4⟩, h5⟩, h7⟩, h8⟩, h9⟩, h6⟩ := h
      have hk := (k_comp2 (trk := trk) (E := E) (own := ownOf s.N own) (t := t) (vs1 := own2) (t1 := t2) c.K (c.calm h0) c.xnd (sndI it c tg iter h3) (by rw [c.N, c.sc]; exact blkOk_by h1) (by rw [ownOf_snd]; simpa using hv) (by rw [ownOf_snd]; exact h2) h2'
        (fun s0 H C cl fp => sndT (c.blk scope s0 H C cl fp) t tg h4) (fun s0 H C cl fp => sndC k (c.blk scope s0 H C cl fp) ifs h5) (fun s0 H C cl fp => sndI it2 (c.blk scope s0 H C cl fp) tg2 iter2 h7)
        (fun s0 H C cl fp => sndT (c.blk scope s0 H C cl fp) t2 tg2 h8) (fun s0 H C cl fp => sndC k2 (c.blk scope s0 H C cl fp) ifs2 h9) (fun s0 H C cl fp => sndE elt (c.blk scope s0 H C cl fp) e0 h6) (setJ it tg iter h3 _) (setJ it2 tg2 iter2 h7) (pos := pos)).1
      rw [ownOf_snd] at hk
      simp only [semE]
      exact hk
    · cases h
  | .sset _ _ _ _ _ _ _, s, X, E, c, e, h => by unfold chkE at h; cases h
  | .ssrt _, s, X, E, c, e, h => by unfold chkE at h; cases h
  | .skey _, s, X, E, c, e, h => by unfold chkE at h; cases h
  | .fmt a, s, X, E, c, e, h => by
    unfold chkE at h
    split at h
    · simp only [Bool.and_eq_true, decide_eq_true_eq] at h
      obtain ⟨rfl, h⟩ := h
      simp only [semE]
      exact k_fmt (sndE a c _ h)
    · simp only [Bool.and_eq_true, decide_eq_true_eq] at h
      obtain ⟨rfl, h⟩ := h
      simp only [semE]
      exact k_joi1 (k_fmt (sndE a c _ h))
    · cases h
  | .joi es, s, X, E, c, e, h => by
    unfold chkE at h
    split at h
    · rename_i e1 e2 l pos
      simp only [Bool.and_eq_true, decide_eq_true_eq] at h
      simp only [semE]
      exact k_joi (by simp only [List.length_cons]; omega) (sndJ es c _ h.2)
    · cases h
  | .fld a n, s, X, E, c, e, h => by
    unfold chkE at h
    split at h
    · simp only [Bool.and_eq_true, decide_eq_true_eq] at h
      obtain ⟨⟨⟨h0, rfl⟩, h1⟩, h2⟩ := h
      obtain ⟨a0, dd, x0, oe, C, ex, hp, hz, hf, Xf, Ec, hC, hno⟩ := c.ex h0
      simp only [semE, ex, c.xf]
      exact k_fld Xf hno hp hz hf (sndE a c _ h2) (base_of h1)
    · cases h
  | .inD neg a x, s, X, E, c, e, h => by
    unfold chkE at h
    split at h
    · simp only [Bool.and_eq_true, decide_eq_true_eq] at h
      obtain ⟨⟨⟨⟨rfl, rfl⟩, h1⟩, h2⟩, h3⟩ := h
      obtain ⟨g1, g2, g3⟩ := c.gl h2
      obtain ⟨kv, ad, e1, d⟩ := c.gd x (by simpa using h1)
      simp only [semE, e1]
      exact k_inD neg g1 g2 d (sndE a c _ h3)
    · cases h
  | .ixD x a, s, X, E, c, e, h => by
    unfold chkE at h
    split at h
    · simp only [Bool.and_eq_true, decide_eq_true_eq] at h
      obtain ⟨⟨⟨rfl, h1⟩, h2⟩, h3⟩ := h
      obtain ⟨g1, g2, g3⟩ := c.gl h2
      obtain ⟨kv, ad, e1, d⟩ := c.gd x (by simpa using h1)
      simp only [semE, e1]
      exact k_ixD g1 g2 d (sndE a c _ h3) (plain_of h3)
    · cases h
  | .nope k a, s, X, E, c, e, h => by
    unfold chkE at h
    split at h
    · simp only [Bool.and_eq_true, decide_eq_true_eq] at h
      obtain ⟨⟨⟨⟨rfl, rfl⟩, h2⟩, h3⟩, h4⟩ := h
      simp only [semE]
      exact k_nope (sndE a c _ h4) (base_of h3) h2
    · cases h
  | .rep3 a c1 z1 c2 z2 c3 z3, s, X, E, c, e, h => by
    unfold chkE at h
    split at h
    · simp only [Bool.and_eq_true, decide_eq_true_eq, Bool.not_eq_true'] at h
      obtain ⟨⟨⟨⟨⟨⟨⟨⟨⟨⟨⟨⟨⟨rfl, rfl⟩, rfl⟩, rfl⟩, rfl⟩, rfl⟩, rfl⟩, h1⟩, h2⟩, h3⟩, h4⟩, h5⟩, h6⟩, h7⟩ := h
      simp only [semE]
      exact k_rep3 h4 h5 (sndE a c _ h7) (base_of h6) h1 h2 h3
    · cases h
theorem sndEs {T : Tb} {G : Gb} {P : Par} {m : Nat} : ∀ (es : Exs) {s : Sx} {X : Cx} {E : XK} (c : Cz T G P m s X E) (l : List Expr), chkEs T s es l = true → PA X l (TDs G E (semEs P es))
  | .nil, s, X, E, c, l, h => by
    unfold chkEs at h
    cases l with
    | nil => simp only [semEs]; exact k_nil
    | cons => cases h
  | .cons a es, s, X, E, c, l, h => by
    unfold chkEs at h
    split at h
    · simp only [Bool.and_eq_true] at h
      simp only [semEs]
      exact k_cons (sndE a c _ h.1) (sndEs es c _ h.2) (ns_of h.1 _ _)
    · cases h
theorem sndJ {T : Tb} {G : Gb} {P : Par} {m : Nat} : ∀ (es : Exs) {s : Sx} {X : Cx} {E : XK} (c : Cz T G P m s X E) (l : List Expr), chkEs T s es l = true → PJs X G E l (semJ P es)
  | .nil, s, X, E, c, l, h => by
    unfold chkEs at h
    cases l with
    | nil => unfold semJ; exact .nil
    | cons => cases h
  | .cons a es, s, X, E, c, l, h => by
    unfold chkEs at h
    split at h
    · simp only [Bool.and_eq_true] at h
      unfold semJ
      exact .cons (sndE a c _ h.1) (sndJ es c _ h.2)
    · cases h
theorem sndAnd {T : Tb} {G : Gb} {P : Par} {m : Nat} : ∀ (es : Exs) {s : Sx} {X : Cx} {E : XK} (c : Cz T G P m s X E) (l : List Expr) {pos : Pos}, chkEs T s es l = true → PE X (.BoolOp .And l pos) (TD G E (semAnd P es))
  | .nil, s, X, E, c, l, pos, h => by
    unfold semAnd
    exact ⟨fun pins s σ H Q I ⟨W, r, S, rel, p⟩ => p.no⟩
  | .cons a .nil, s, X, E, c, l, pos, h => by
    unfold chkEs at h
    split at h
    · rename_i e l
      simp only [Bool.and_eq_true] at h
      have h2 := h.2
      unfold chkEs at h2
      cases l with
      | nil => unfold semAnd; exact k_and1 (sndE a c _ h.1)
      | cons => cases h2
    · cases h
  | .cons a (.cons b es), s, X, E, c, l, pos, h => by
    unfold chkEs at h
    split at h
    · rename_i e l
      simp only [Bool.and_eq_true] at h
      have ih := sndAnd (.cons b es) c l (pos := pos) h.2
      have h2 := h.2
      unfold chkEs at h2
      cases l with
      | nil => cases h2
      | cons e2 l =>
        unfold semAnd
        exact k_and c.K (sndE a c _ h.1) ih
    · cases h
theorem sndOr {T : Tb} {G : Gb} {P : Par} {m : Nat} : ∀ (es : Exs) {s : Sx} {X : Cx} {E : XK} (c : Cz T G P m s X E) (l : List Expr) {pos : Pos}, chkEs T s es l = true → PE X (.BoolOp .Or l pos) (TD G E (semOr P es))
  | .nil, s, X, E, c, l, pos, h => by
    unfold semOr
    exact ⟨fun pins s σ H Q I ⟨W, r, S, rel, p⟩ => p.no⟩
  | .cons a .nil, s, X, E, c, l, pos, h => by
    unfold chkEs at h
    split at h
    · rename_i e l
      simp only [Bool.and_eq_true] at h
      have h2 := h.2
      unfold chkEs at h2
      cases l with
      | nil => unfold semOr; exact k_and1 (sndE a c _ h.1)
      | cons => cases h2
    · cases h
  | .cons a (.cons b es), s, X, E, c, l, pos, h => by
    unfold chkEs at h
    split at h
    · rename_i e l
      simp only [Bool.and_eq_true] at h
      have ih := sndOr (.cons b es) c l (pos := pos) h.2
      have h2 := h.2
      unfold chkEs at h2
      cases l with
      | nil => cases h2
      | cons e2 l =>
        unfold semOr
        exact k_or c.K (sndE a c _ h.1) ih
    · cases h
theorem sndO {T : Tb} {G : Gb} {P : Par} {m : Nat} : ∀ (o : Ox) {s : Sx} {X : Cx} {E : XK} (c : Cz T G P m s X E) (l : Option Expr), chkO T s o l = true → PO X l (DL.T G E repO (semO P o))
  | .none, s, X, E, c, l, h => by
    unfold chkO at h
    cases l with
    | none => unfold semO; exact k_o0
    | some => cases h
  | .some a, s, X, E, c, l, h => by
    unfold chkO at h
    split at h
    · unfold semO
      exact k_o1 (sndE a c _ h)
    · cases h
theorem sndC {T : Tb} {G : Gb} {P : Par} {m : Nat} : ∀ (o : Ox) {s : Sx} {X : Cx} {E : XK} (c : Cz T G P m s X E) (l : List Expr), chkC T s o l = true → PTs X l (TB G E (semC P o))
  | .none, s, X, E, c, l, h => by
    unfold chkC at h
    cases l with
    | nil => unfold semC; exact k_c0
    | cons => cases h
  | .some a, s, X, E, c, l, h => by
    unfold chkC at h
    split at h
    · unfold semC
      exact pts_one (sndB a c _ h)
    · cases h
theorem sndI {T : Tb} {G : Gb} {P : Par} {m : Nat} : ∀ (it : Itr) {s : Sx} {X : Cx} {E : XK} (c : Cz T G P m s X E) (tg e : Expr), chkI T s it tg e = true → PI X tg e (TIt G E (semI P it))
  | .plain a, s, X, E, c, tg, e, h => by
    unfold chkI at h
    simp only [Bool.and_eq_true] at h
    unfold semI
    exact k_plain c.K (sndE a c _ h.2)
  | .range1 a, s, X, E, c, tg, e, h => by
    unfold chkI at h
    split at h
    · simp only [Bool.and_eq_true, decide_eq_true_eq] at h
      obtain ⟨⟨rfl, h1⟩, h2⟩ := h
      unfold semI
      exact k_range1 (c.gl h1).1 (c.bl _ (by simp [bltNames])) (sndE a c _ h2) (ns_of h2 _ _)
    · cases h
  | .range2 a b, s, X, E, c, tg, e, h => by
    unfold chkI at h
    split at h
    · simp only [Bool.and_eq_true, decide_eq_true_eq] at h
      obtain ⟨⟨⟨rfl, h1⟩, h2⟩, h3⟩ := h
      unfold semI
      exact k_range2 (c.gl h1).1 (c.bl _ (by simp [bltNames])) (sndE a c _ h2) (sndE b c _ h3) (by rw [ns_of h2, ns_of h3]; rfl) (by rw [ns_of h3]; rfl)
    · cases h
  | .rev a, s, X, E, c, tg, e, h => by
    unfold chkI at h
    split at h
    · simp only [Bool.and_eq_true, decide_eq_true_eq] at h
      obtain ⟨⟨rfl, h1⟩, h2⟩ := h
      unfold semI
      exact k_rev c.K (c.gl h1).1 (c.bl _ (by simp [bltNames])) (sndE a c _ h2) (ns_of h2 _ _)
    · cases h
  | .enum a, s, X, E, c, tg, e, h => by
    unfold chkI at h
    split at h
    · simp only [Bool.and_eq_true, decide_eq_true_eq] at h
      obtain ⟨⟨⟨rfl, h1⟩, h3⟩, h2⟩ := h
      unfold isTup at h3
      split at h3
      · unfold semI
        exact k_enum c.K (c.gl h1).1 (c.bl _ (by simp [bltNames])) (sndE a c _ h2) (ns_of h2 _ _)
      · cases h3
    · cases h
  | .zip a b, s, X, E, c, tg, e, h => by
    unfold chkI at h
    split at h
    · simp only [Bool.and_eq_true, decide_eq_true_eq] at h
      obtain ⟨⟨⟨⟨rfl, h1⟩, h3⟩, h2⟩, h4⟩ := h
      unfold isTup at h3
      split at h3
      · unfold semI
        exact k_zip c.K (c.gl h1).1 (c.bl _ (by simp [bltNames])) (sndE a c _ h2) (sndE b c _ h4) (ns_of h2 _ _) (ns_of h4 _ _) (by rw [ns_of h4]; rfl)
      · cases h3
    · cases h
  | .enumS k a, s, X, E, c, tg, e, h => by
    unfold chkI at h
    split at h
    · simp only [Bool.and_eq_true, decide_eq_true_eq] at h
      obtain ⟨⟨⟨⟨⟨⟨rfl, h1⟩, h2⟩, rfl⟩, h4⟩, h5⟩, h6⟩ := h
      obtain ⟨g1, g2, g3⟩ := c.gl h1
      simp only [semI]
      unfold isTup at h2
      split at h2
      · exact k_enumS h4 h5 g1 (c.bl _ (by simp [bltNames])) (sndE a c _ h6) (ns_of h6 _ _)
      · cases h2
    · cases h
theorem sndB {T : Tb} {G : Gb} {P : Par} {m : Nat} : ∀ (a : Ex) {s : Sx} {X : Cx} {E : XK} (c : Cz T G P m s X E) (e : Expr), chkB T s a e = true → L2.PT X e (TB G E (semB P a))
  | .var i, s, X, E, c, e, h => by
    have hq : ∀ whole, isTrue e X.env whole = (do let v ← whole; standAt e.pos; holding [v] (truthy v)) := by
      unfold chkB at h
      split at h
      · intro _; rfl
      · cases h
    replace h : chkE T s (.var i) e = true := by
      unfold chkB at h
      unfold chkE
      exact h
    have hE : PE X e (TD G E (semE P (.var i))) := by
        unfold chkE at h
        split at h
        · simp only [Bool.and_eq_true, decide_eq_true_eq] at h
          obtain ⟨h1, h2⟩ := h
          obtain ⟨v1, v2, v3⟩ := c.vis h2
          simp only [semE]
          exact k_var (pe_var (by rw [c.N]; exact h1) v1 v2 v3)
        · cases h
    have hB : semB P (.var i) = fun r S => (semE P (.var i) r S).bind truD := by
      funext r S
      simp only [semB, semE]
      try rfl
    rw [hB]
    exact k_tru c.K hE hq
  | .bl b, s, X, E, c, e, h => by
    have hq : ∀ whole, isTrue e X.env whole = (do let v ← whole; standAt e.pos; holding [v] (truthy v)) := by
      unfold chkB at h
      split at h
      · intro _; rfl
      · cases h
    replace h : chkE T s (.bl b) e = true := by
      unfold chkB at h
      unfold chkE
      exact h
    have hE : PE X e (TD G E (semE P (.bl b))) := by
        unfold chkE at h
        split at h
        · simp only [decide_eq_true_eq] at h
          subst h
          simp only [semE]
          exact k_con pe_bl fun _ _ => mk_bl
        · cases h
    have hB : semB P (.bl b) = fun r S => (semE P (.bl b) r S).bind truD := by
      funext r S
      simp only [semB, semE]
      try rfl
    rw [hB]
    exact k_tru c.K hE hq
  | .call f es, s, X, E, c, e, h => by
    have hq : ∀ whole, isTrue e X.env whole = (do let v ← whole; standAt e.pos; holding [v] (truthy v)) := by
      unfold chkB at h
      split at h
      · intro _; rfl
      · cases h
    replace h : chkE T s (.call f es) e = true := by
      unfold chkB at h
      unfold chkE
      exact h
    have hE : PE X e (TD G E (semE P (.call f es))) := by
        unfold chkE at h
        split at h
        · rename_i x p l pos
          simp only [Bool.and_eq_true, decide_eq_true_eq] at h
          obtain ⟨⟨⟨h0, h1⟩, h2⟩, h3⟩ := h
          obtain ⟨g1, g2, g3⟩ := c.gl h2
          obtain ⟨a, hm, hf⟩ := c.dn _ _ h1
          obtain ⟨fd, ps, FO, hk, hb⟩ := c.FO f a hf
          simp only [semE]
          cases l with
          | nil =>
            have e0 := nil_of h3
            subst e0
            simp only [semEs, bind_ok]
            exact k_call0 FO (c.room h0) g1 hm hk hb c.ps g2
          | cons e1 l =>
            cases es with
            | nil => unfold chkEs at h3; cases h3
            | cons a1 es =>
              have h3' := h3
              unfold chkEs at h3
              simp only [Bool.and_eq_true] at h3
              exact k_call FO (c.room h0) g1 hm hk hb c.ps (sndEs (.cons a1 es) c _ h3') g2 (ns_of h3.1 _ _) (back_of pos _ h3.2)
        · cases h
    have hB : semB P (.call f es) = fun r S => (semE P (.call f es) r S).bind truD := by
      funext r S
      simp only [semB, semE]
      try rfl
    rw [hB]
    exact k_tru c.K hE hq
  | .callv i es, s, X, E, c, e, h => by
    have hq : ∀ whole, isTrue e X.env whole = (do let v ← whole; standAt e.pos; holding [v] (truthy v)) := by
      unfold chkB at h
      split at h
      · intro _; rfl
      · cases h
    replace h : chkE T s (.callv i es) e = true := by
      unfold chkB at h
      unfold chkE
      exact h
    have hE : PE X e (TD G E (semE P (.callv i es))) := by
        unfold chkE at h
        split at h
        · rename_i x p l pos
          simp only [Bool.and_eq_true, decide_eq_true_eq] at h
          obtain ⟨⟨⟨⟨h0, h1⟩, h2⟩, h4⟩, h3⟩ := h
          obtain ⟨v1, v2, v3⟩ := c.vis h2
          simp only [semE]
          cases l with
          | nil => cases h4
          | cons e1 l =>
            cases es with
            | nil => unfold chkEs at h3; cases h3
            | cons a1 es =>
              have h3' := h3
              unfold chkEs at h3
              simp only [Bool.and_eq_true] at h3
              exact k_callv c.FO (c.room h0) (by rw [c.N]; exact h1) v1 c.ps (sndEs (.cons a1 es) c _ h3') v2 v3 (ns_of h3.1 _ _) (back_of pos _ h3.2)
        · cases h
    have hB : semB P (.callv i es) = fun r S => (semE P (.callv i es) r S).bind truD := by
      funext r S
      simp only [semB, semE]
      try rfl
    rw [hB]
    exact k_tru c.K hE hq
  | .isi a ty, s, X, E, c, e, h => by
    have hq : ∀ whole, isTrue e X.env whole = (do let v ← whole; standAt e.pos; holding [v] (truthy v)) := by
      unfold chkB at h
      split at h
      · intro _; rfl
      · cases h
    replace h : chkE T s (.isi a ty) e = true := by
      unfold chkB at h
      unfold chkE
      exact h
    have hE : PE X e (TD G E (semE P (.isi a ty))) := by
        unfold chkE at h
        split at h
        · rename_i x p e1 y p2 pos
          simp only [Bool.and_eq_true, decide_eq_true_eq] at h
          obtain ⟨⟨⟨⟨⟨rfl, h1⟩, rfl⟩, h2⟩, h3⟩, h4⟩ := h
          obtain ⟨g1, g2, g3⟩ := c.gl h1
          obtain ⟨k1, k2, k3⟩ := c.gl h2
          simp only [semE]
          have ht : ty ∈ tys := by simpa using h3
          have hb : Str.ofString ty ∈ bltNames ∧ bootBuiltins (Str.ofString ty) = some (.type ty) := (show ∀ ty ∈ tys, Str.ofString ty ∈ bltNames ∧ bootBuiltins (Str.ofString ty) = some (.type ty) by decide +kernel) ty ht
          exact k_isi c.K g1 (c.bl _ (by simp [bltNames])) k1 (c.bl _ hb.1) hb.2 k3 k2 (by decide +kernel) (sndE a c _ h4) (ns_of h4 _ _)
        · cases h
    have hB : semB P (.isi a ty) = fun r S => (semE P (.isi a ty) r S).bind truD := by
      funext r S
      simp only [semB, semE]
      try rfl
    rw [hB]
    exact k_tru c.K hE hq
  | .isx a ty, s, X, E, c, e, h => by
    have hq : ∀ whole, isTrue e X.env whole = (do let v ← whole; standAt e.pos; holding [v] (truthy v)) := by
      unfold chkB at h
      split at h
      · intro _; rfl
      · cases h
    replace h : chkE T s (.isx a ty) e = true := by
      unfold chkB at h
      unfold chkE
      exact h
    have hE : PE X e (TD G E (semE P (.isx a ty))) := by
        unfold chkE at h
        split at h
        · rename_i x p e1 y p2 pos
          simp only [Bool.and_eq_true, decide_eq_true_eq] at h
          obtain ⟨⟨⟨⟨⟨⟨h0, rfl⟩, h1⟩, rfl⟩, h2⟩, h3⟩, h4⟩ := h
          obtain ⟨g1, g2, g3⟩ := c.gl h1
          obtain ⟨k1, k2, k3⟩ := c.gl h2
          obtain ⟨a0, dd, x0, oe, C, ex, hp, hz, hf, Xf, Ec, hC, hno⟩ := c.ex h0
          simp only [semE, ex]
          rcases c.ix ty (by simpa using h3) with ⟨CT, hm, hk⟩ | ⟨t, hm, hbt, hk⟩
          · exact k_isx (c := .ref CT) Ec hp hz hf g1 (c.bl _ (by simp [bltNames])) (pe_glob k1 hm rfl k2) (fun u hu => hu) (fun b hb => hk x0 C b hC hb) (by decide +kernel) (sndE a c _ h4) (ns_of h4 _ _)
          · exact k_isx (c := .ty t) Ec hp hz hf g1 (c.bl _ (by simp [bltNames])) (pe_bltn k1 hm hbt rfl k3 k2) (fun u hu => hu) (fun b hb => hk x0 C b hC hb) (by decide +kernel) (sndE a c _ h4) (ns_of h4 _ _)
        · cases h
    have hB : semB P (.isx a ty) = fun r S => (semE P (.isx a ty) r S).bind truD := by
      funext r S
      simp only [semB, semE]
      try rfl
    rw [hB]
    exact k_tru c.K hE hq
  | .mth mt o es, s, X, E, c, e, h => by
    have hq : ∀ whole, isTrue e X.env whole = (do let v ← whole; standAt e.pos; holding [v] (truthy v)) := by
      unfold chkB at h
      split at h
      · intro _; rfl
      · cases h
    replace h : chkE T s (.mth mt o es) e = true := by
      unfold chkB at h
      unfold chkE
      exact h
    have hE : PE X e (TD G E (semE P (.mth mt o es))) := by
        unfold chkE at h
        split at h
        · rename_i e1 n apos l pos
          simp only [Bool.and_eq_true, decide_eq_true_eq] at h
          obtain ⟨⟨⟨⟨⟨rfl, h1⟩, h2⟩, h3⟩, h4⟩, h5⟩ := h
          simp only [semE]
          cases l with
          | nil =>
            have e0 := nil_of h5
            subst e0
            simp only [semEs, bind_ok]
            exact k_mth0 c.K (mt_pa mt) (mt_slot mt) (mt_ty mt) (mt_all c.K mt) (sndE o c _ h4) (base_of h3) h1
          | cons e2 l =>
            cases es with
            | nil => unfold chkEs at h5; cases h5
            | cons a1 es =>
              have h5' := h5
              unfold chkEs at h5
              simp only [Bool.and_eq_true] at h5
              refine k_mth c.K (mt_pa mt) (mt_slot mt) (mt_ty mt) (mt_all c.K mt) (sndE o c _ h4) (sndEs (.cons a1 es) c _ h5') (base_of h3) ?_ h1 (ns_of h5.1 _ _) (back_of pos _ h5.2)
              rw [few_of h5', show backToKw pos (keywordEach [] X.env) = [] from rfl]
              simpa using h2
        · cases h
    have hB : semB P (.mth mt o es) = fun r S => (semE P (.mth mt o es) r S).bind truD := by
      funext r S
      simp only [semB, semE]
      try rfl
    rw [hB]
    exact k_tru c.K hE hq
  | .ix a b, s, X, E, c, e, h => by
    have hq : ∀ whole, isTrue e X.env whole = (do let v ← whole; standAt e.pos; holding [v] (truthy v)) := by
      unfold chkB at h
      split at h
      · intro _; rfl
      · cases h
    replace h : chkE T s (.ix a b) e = true := by
      unfold chkB at h
      unfold chkE
      exact h
    have hE : PE X e (TD G E (semE P (.ix a b))) := by
        unfold chkE at h
        split at h
        · simp only [Bool.and_eq_true] at h
          simp only [semE]
          exact k_ix c.K (sndE a c _ h.1) (sndE b c _ h.2) (plain_of h.2)
        · cases h
    have hB : semB P (.ix a b) = fun r S => (semE P (.ix a b) r S).bind truD := by
      funext r S
      simp only [semB, semE]
      try rfl
    rw [hB]
    exact k_tru c.K hE hq
  | .and es, s, X, E, c, e, h => by
    unfold chkB at h
    split at h
    · rename_i l pos
      simp only [Bool.and_eq_true] at h
      simp only [semB]
      cases l with
      | nil => cases h.1
      | cons e1 l => exact (sndAll es c (e1 :: l) (by simp) h.2).pt
    · cases h
  | .or es, s, X, E, c, e, h => by
    unfold chkB at h
    split at h
    · rename_i l pos
      simp only [Bool.and_eq_true] at h
      simp only [semB]
      cases l with
      | nil => cases h.1
      | cons e1 l => exact (sndAny es c (e1 :: l) (by simp) h.2).pt
    · cases h
  | .not a, s, X, E, c, e, h => by
    unfold chkB at h
    split at h
    · simp only [semB]
      exact k_notT (sndB a c _ h)
    · cases h
  | .ite k a b, s, X, E, c, e, h => by
    unfold chkB at h
    split at h
    · simp only [Bool.and_eq_true] at h
      simp only [semB]
      exact k_iteT (sndB k c _ h.1.1) (sndB a c _ h.1.2) (sndB b c _ h.2)
    · cases h
  | .cmp o a b, s, X, E, c, e, h => by
    unfold chkB at h
    split at h
    · simp only [Bool.and_eq_true, decide_eq_true_eq, Bool.not_eq_true'] at h
      obtain ⟨⟨⟨rfl, h0⟩, h1⟩, h2⟩ := h
      simp only [semB]
      exact k_cmpT (ops_co c o) (sndE a c _ h1) (sndE b c _ h2) h0
    · cases h
  | .chn o p a b d, s, X, E, c, e, h => by
    unfold chkB at h
    split at h
    · simp only [Bool.and_eq_true, decide_eq_true_eq, Bool.not_eq_true'] at h
      obtain ⟨⟨⟨⟨⟨rfl, rfl⟩, h0⟩, h1⟩, h2⟩, h3⟩ := h
      simp only [semB]
      exact k_chnT (ops_co c o) (ops_co c p) (sndE a c _ h1) (sndE b c _ h2) (sndE d c _ h3) h0
    · cases h
  | .int _, s, X, E, c, e, h => by unfold chkB at h; cases h
  | .str _, s, X, E, c, e, h => by unfold chkB at h; cases h
  | .non, s, X, E, c, e, h => by unfold chkB at h; cases h
  | .glo _, s, X, E, c, e, h => by unfold chkB at h; cases h
  | .fnv _, s, X, E, c, e, h => by unfold chkB at h; cases h
  | .bin _ _ _, s, X, E, c, e, h => by unfold chkB at h; cases h
  | .neg _, s, X, E, c, e, h => by unfold chkB at h; cases h
  | .blt _ _, s, X, E, c, e, h => by unfold chkB at h; cases h
  | .tup _, s, X, E, c, e, h => by unfold chkB at h; cases h
  | .lst _, s, X, E, c, e, h => by unfold chkB at h; cases h
  | .new _, s, X, E, c, e, h => by unfold chkB at h; cases h
  | .sl _ _ _, s, X, E, c, e, h => by unfold chkB at h; cases h
  | .comp _ _ _ _ _ _, s, X, E, c, e, h => by unfold chkB at h; cases h
  | .comp2 _ _ _ _ _ _ _ _ _ _, s, X, E, c, e, h => by unfold chkB at h; cases h
  | .sset _ _ _ _ _ _ _, s, X, E, c, e, h => by unfold chkB at h; cases h
  | .ssrt _, s, X, E, c, e, h => by unfold chkB at h; cases h
  | .skey _, s, X, E, c, e, h => by unfold chkB at h; cases h
  | .fmt _, s, X, E, c, e, h => by unfold chkB at h; cases h
  | .joi _, s, X, E, c, e, h => by unfold chkB at h; cases h
  | .fld _ _, s, X, E, c, e, h => by unfold chkB at h; cases h
  | .inD neg a x, s, X, E, c, e, h => by
    unfold chkB at h
    split at h
    · simp only [Bool.and_eq_true, decide_eq_true_eq] at h
      obtain ⟨⟨⟨⟨rfl, rfl⟩, h1⟩, h2⟩, h3⟩ := h
      obtain ⟨g1, g2, g3⟩ := c.gl h2
      obtain ⟨kv, ad, e1, d⟩ := c.gd x (by simpa using h1)
      simp only [semB, e1]
      exact k_inDT neg g1 g2 d (sndE a c _ h3)
    · cases h
  | .ixD _ _, s, X, E, c, e, h => by unfold chkB at h; cases h
  | .nope _ _, s, X, E, c, e, h => by unfold chkB at h; cases h
  | .rep3 _ _ _ _ _ _ _, s, X, E, c, e, h => by unfold chkB at h; cases h
theorem sndAll {T : Tb} {G : Gb} {P : Par} {m : Nat} : ∀ (es : Exs) {s : Sx} {X : Cx} {E : XK} (c : Cz T G P m s X E) (l : List Expr) {pos : Pos}, l ≠ [] → chkBs T s es l = true → PW X (.BoolOp .And l pos) (TB G E (semAll P es))
  | .nil, s, X, E, c, l, pos, hn, h => by
    unfold chkBs at h
    cases l with
    | nil => exact absurd rfl hn
    | cons => cases h
  | .cons a .nil, s, X, E, c, l, pos, hn, h => by
    unfold chkBs at h
    split at h
    · rename_i e l
      simp only [Bool.and_eq_true] at h
      have h2 := h.2
      unfold chkBs at h2
      cases l with
      | nil =>
        simp only [semAll]
        exact k_all0 (op := .And) (sndB a c _ h.1)
      | cons => cases h2
    · cases h
  | .cons a (.cons b es), s, X, E, c, l, pos, hn, h => by
    unfold chkBs at h
    split at h
    · rename_i e l
      simp only [Bool.and_eq_true] at h
      cases l with
      | nil =>
        have h2 := h.2
        unfold chkBs at h2
        cases h2
      | cons e2 l =>
        have ih := sndAll (.cons b es) c (e2 :: l) (pos := pos) (by simp) h.2
        unfold semAll
        exact k_all (sndB a c _ h.1) ih
    · cases h
theorem sndAny {T : Tb} {G : Gb} {P : Par} {m : Nat} : ∀ (es : Exs) {s : Sx} {X : Cx} {E : XK} (c : Cz T G P m s X E) (l : List Expr) {pos : Pos}, l ≠ [] → chkBs T s es l = true → PW X (.BoolOp .Or l pos) (TB G E (semAny P es))
  | .nil, s, X, E, c, l, pos, hn, h => by
    unfold chkBs at h
    cases l with
    | nil => exact absurd rfl hn
    | cons => cases h
  | .cons a .nil, s, X, E, c, l, pos, hn, h => by
    unfold chkBs at h
    split at h
    · rename_i e l
      simp only [Bool.and_eq_true] at h
      have h2 := h.2
      unfold chkBs at h2
      cases l with
      | nil =>
        simp only [semAny]
        exact k_any0 (op := .Or) (sndB a c _ h.1)
      | cons => cases h2
    · cases h
  | .cons a (.cons b es), s, X, E, c, l, pos, hn, h => by
    unfold chkBs at h
    split at h
    · rename_i e l
      simp only [Bool.and_eq_true] at h
      cases l with
      | nil =>
        have h2 := h.2
        unfold chkBs at h2
        cases h2
      | cons e2 l =>
        have ih := sndAny (.cons b es) c (e2 :: l) (pos := pos) (by simp) h.2
        unfold semAny
        exact k_any (sndB a c _ h.1) ih
    · cases h
end
end DL
set_option Elab.async false
set_option linter.all false
set_option maxRecDepth 100000
set_option maxHeartbeats 8000000
/-! DL21: the small syntax of statements, its meaning, whether it is a statement's. -/
namespace DL
open PySem PySem.Spec PyProof.Rows L2

mutual
inductive Sm where
  | expr (e : Ex)
  | doc
  | ret (e : Ex)
  | ret0
  | pass
  | brk
  | cont
  | ifs (c : Ex) (a b : Sms)
  | asg (t : Tg) (e : Ex)
  | asg2 (t u : Tg) (e : Ex)
  | asg3 (t u v : Tg) (e : Ex)
  | hole
  | par (i j : Nat) (a b : Ex)
  | par3 (i j k : Nat) (a b c : Ex)
  | set (o i e : Ex)
  | aug (i : Nat) (plus : Bool) (e : Ex)
  | whl (c : Ex) (b : Sms)
  | forr (t : Tg) (it : Itr) (b : Sms)
  | rais (x : Nat) (es : Exs)
  | trys (h : Str) (i : Option Nat) (b su : Sms)
inductive Sms where
  | nil
  | cons (a : Sm) (b : Sms)
end
def augF (plus : Bool) : D → D → Sto → Re D := if plus then fIadd else fSub
mutual
noncomputable def semS : Sm → Par → MS
  | .expr e, P => fun r S => (semE P e r S).to fun _ S1 => .nx r S1
  | .doc, P => fun r S => .nx r S
  | .ret e, P => fun r S => (semE P e r S).to fun d S1 => .ret d S1
  | .ret0, P => fun r S => .ret .non S
  | .pass, P => fun r S => .nx r S
  | .brk, P => fun r S => .brk r S
  | .cont, P => fun r S => .ct r S
  | .ifs c a b, P => fun r S => (semB P c r S).to fun k S1 => if k then semSs a P r S1 else semSs b P r S1
  | .asg t e, P => fun r S => (semE P e r S).to fun d S1 => asgS t d r S1
  | .asg2 t u e, P => fun r S => (semE P e r S).to fun d S1 => (asgS t d r S1).seq fun r2 S2 => asgS u d r2 S2
  | .asg3 t u v e, P => fun r S => (semE P e r S).to fun d S1 => (asgS t d r S1).seq fun r2 S2 => (asgS u d r2 S2).seq fun r3 S3 => asgS v d r3 S3
  | .hole, P => fun _ _ => .bad
  | .par i j a b, P => fun r S => (semEs P (.cons a (.cons b .nil)) r S).to fun ds S1 => match ds with
    | [d1, d2] => .nx ((r.set i (some d1)).set j (some d2)) S1
    | _ => .bad
  | .par3 i j k a b c, P => fun r S => (semEs P (.cons a (.cons b (.cons c .nil))) r S).to fun ds S1 => match ds with
    | [d1, d2, d3] => .nx (((r.set i (some d1)).set j (some d2)).set k (some d3)) S1
    | _ => .bad
  | .set o i e, P => fun r S => (semE P e r S).to fun x S1 => (semE P o r S1).to fun d S2 => (semE P i r S2).to fun k S3 => (fSet d k x S3).to fun _ S4 => .nx r S4
  | .aug i plus e, P => fun r S => match r[i]? with
    | some (some d) => (semE P e r S).to fun y S1 => (augF plus d y S1).to fun z S2 => .nx (r.set i (some z)) S2
    | _ => .bad
  | .whl c b, P => fun r S => whileG (semB P c) (semSs b P) P.fuel r S
  | .forr t it b, P => fun r S => (semI P it r S).to fun w S1 => forG w.2 t (semSs b P) w.1 r S1
  | .rais x es, P => fun r S => (semEs P es r S).to fun ds S1 => match P.mke x ds with
    | some fs => .err x fs S1
    | none => .bad
  | .trys h i b su, P => fun r S => tryR (semSs b P r S) (P.exm h) i (fun a dd x => semSs su { P with ex := some (a, dd, x) })
noncomputable def semSs : Sms → Par → MS
  | .nil, P => fun r S => .nx r S
  | .cons a b, P => fun r S => (semS a P r S).seq (semSs b P)
end

/-! ### matching -/
def notComp : Expr → Bool
  | .ListComp _ _ _ _ => false
  | .SetComp _ _ _ _ => false
  | .DictComp _ _ _ _ _ => false
  | _ => true
/-- the store happens inside the comprehension -/
def swapB (s : Sx) (tg e : Expr) : Bool := match e, tg with
  | .ListComp _ _ scope pos, .Name t p => (s.sc.names.lookup t == some .local && p.line == pos.line) && !(scope.names.any fun (n, k) => n == t && (k == .local || k == .cell))
  | _, _ => false
/-- a tuple of targets is stored in its order -/
def plainSt (s : Sx) (tg e : Expr) : Bool := match tg, e with
  | .Tuple ts _ _, .Tuple vs _ _ => !(ts.length == 2 || ts.length == 3) || vs.length != ts.length || vs.all (foldedForSure 8) && !(vs.any fun | .Starred .. => true | _ => false)
  | .List _ _, _ => false
  | _, _ => true
def isNm : Expr → Bool
  | .Name _ _ => true
  | _ => false
mutual
def chkS (T : Tb) (s : Sx) : Sm → Stmt → Bool
  | .expr a, st => match st with
    | .Expr e _ => notComp e && chkE T s a e
    | _ => false
  | .doc, st => match st with
    | .Expr (.Constant (.str _) _ _) _ => true
    | _ => false
  | .ret a, st => match st with
    | .Return (some e) _ => chkE T s a e
    | _ => false
  | .ret0, st => match st with
    | .Return none _ => true
    | _ => false
  | .pass, st => match st with
    | .Pass _ => true
    | _ => false
  | .brk, st => match st with
    | .Break _ => true
    | _ => false
  | .cont, st => match st with
    | .Continue _ => true
    | _ => false
  | .ifs c a b, st => match st with
    | .If e l1 l2 _ => chkB T s c e && chkSs T s a l1 && chkSs T s b l2
    | _ => false
  | .asg t a, st => match st with
    | .Assign [tg] e _ => chkT s t tg && chkE T s a e && plainSt s tg e
    | _ => false
  | .asg2 t u a, st => match st with
    | .Assign [t1, t2] e _ => chkT s t t1 && chkT s u t2 && chkE T s a e && notComp e
    | _ => false
  | .asg3 t u v a, st => match st with
    | .Assign [t1, t2, t3] e _ => chkT s t t1 && chkT s u t2 && chkT s v t3 && chkE T s a e && notComp e
    | _ => false
  | .hole, _ => true
  | .par i j a b, st => match st with
    | .Assign [.Tuple [.Name x p1, .Name y p2] _ _] (.Tuple [e1, e2] _ _) _ => s.calm && decide (s.N[i]? = some x) && decide (s.N[j]? = some y) && decide (i ≠ j) && decide (s.sc.names.lookup x = some .local) && decide (s.sc.names.lookup y = some .local)
        && p1.line == p2.line && !(foldedForSure 8 e1 && foldedForSure 8 e2) && !(constantsAlone 8 e1 && constantsAlone 8 e2) && chkE T s a e1 && chkE T s b e2
    | _ => false
  | .par3 i j k a b d, st => match st with
    | .Assign [.Tuple [.Name x p1, .Name y p2, .Name z p3] _ _] (.Tuple [e1, e2, e3] _ _) _ => s.calm && decide (s.N[i]? = some x) && decide (s.N[j]? = some y) && decide (s.N[k]? = some z) && decide (i ≠ j) && decide (i ≠ k) && decide (j ≠ k)
        && decide (s.sc.names.lookup x = some .local) && decide (s.sc.names.lookup y = some .local) && decide (s.sc.names.lookup z = some .local)
        && p1.line == p2.line && p1.line == p3.line && !(foldedForSure 8 e1 && (foldedForSure 8 e2 && foldedForSure 8 e3)) && !(constantsAlone 8 e1 && (constantsAlone 8 e2 && constantsAlone 8 e3)) && chkE T s a e1 && chkE T s b e2 && chkE T s d e3
    | _ => false
  | .set o i a, st => match st with
    | .Assign [.Subscript e1 e2 _] e _ => chkE T s a e && chkE T s o e1 && chkE T s i e2
    | _ => false
  | .aug i plus a, st => match st with
    | .AugAssign (.Name x _) op e _ => decide (s.N[i]? = some x) && isSto s x && decide (op = if plus then .Add else .Sub) && chkE T s a e
    | _ => false
  | .whl c b, st => match st with
    | .While e l [] _ => s.calm && chkB T s c e && chkSs T s b l
    | _ => false
  | .forr t it b, st => match st with
    | .For tg e l [] _ => s.calm && chkI T s it tg e && chkT s t tg && chkSs T s b l
    | _ => false
  | .rais x es, st => match st with
    | .Raise (some (.Call (.Name y _) l [] _)) none _ => s.calm && decide (T.cn x = some y) && isGl s y && !l.isEmpty && chkEs T s es l
    | _ => false
  | .trys h i b su, st => match st with
    | .Try body [.ExceptHandler (some (.Name y _)) nm (s0 :: suite) _] [] [] _ => s.calm && !s.exn && T.hn.contains h && decide (h = y) && isGl s y && (match i, nm with
        | none, none => true
        | some i, some n => decide (s.N[i]? = some n) && decide (s.sc.names.lookup n = some .local)
        | _, _ => false) && chkSs T s b body && chkSs T { s with calm := false, exn := true } su (s0 :: suite)
    | _ => false
def chkSs (T : Tb) (s : Sx) : Sms → List Stmt → Bool
  | .nil, l => l.isEmpty
  | .cons a b, l => match l with
    | st :: l => chkS T s a st && chkSs T s b l
    | [] => false
end
end DL
set_option Elab.async false
set_option linter.all false
set_option maxRecDepth 100000
set_option maxHeartbeats 8000000
/-! DL22: soundness of the small syntax, statements. -/
namespace DL
open PySem PySem.Spec PyProof.Rows L2

/-- what is told of an error class -/
structure ClX (T : Tb) (G : Gb) (P : Par) (prog : Program) (w : World) (K : PySem.W.Frag) (mg : Str → Option Value) (base : Heap) : Prop where
  mkx : ∀ x y, T.cn x = some y → ∃ C fI fd ek, G.ca x = some C ∧ mg y = some (.ref C) ∧ G.xf x = ek.names ∧ P.mke x = mkD ek ∧ OexC K C ∧ PySem.W.findIn K (.ref C) "__init__" = some (some (.ref fI)) ∧ PySem.W.typeIn K (.ref fI) = some (.type "function") ∧
    FnOk prog w K mg base (L2.CX prog w) 1 fI fd ek.ps (spX K C ek) ∧ Binds K fd ek.ps []
  hn : ∀ h ∈ T.hn, ∃ c, (mg h = some c ∨ (mg h = none ∧ bootBuiltins h = some c ∧ h ≠ "__name__")) ∧ ∀ x C b, G.ca x = some C → P.exm h x = some b → PySem.W.exmOne K (.ref C) c = some b
  at_ : ∀ x C, G.ca x = some C → XfC K C ∧ ExcC K C ∧ ∀ n ∈ G.xf x, PySem.W.findIn K (.ref C) n = some none
structure Czs (T : Tb) (G : Gb) (P : Par) (m : Nat) (s : Sx) (X : Cx) (E : XK) : Prop where
  c : Cz T G P m s X E
  cl : ClX T G P X.prog X.w X.K X.mg X.base
  po : s.calm = true → PassesOwn (model X.prog X.w) X.A X.env X.xe
  bk : X.env.blockKind = .function
  st : X.stack = X.env :: X.outer
  fr : X.env.frame = some X.env.locals
  rm : 2 ≤ m
section
variable {T : Tb} {G : Gb} {P : Par} {m : Nat} {s : Sx} {X : Cx} {E : XK}
theorem Czs.suite (c : Czs T G P m s X E) {a dd x : Nat} {oe : Obj} {C : Addr} {pn : List (Addr × Obj)} (hC : G.ca x = some C) (hz : Zc (.ref C) (some dd) oe) (hf : ∃ vs, oe.data = .fields vs) :
    Czs T G { P with ex := some (a, dd, x) } m { s with calm := false, exn := true } (X.suite a ((a, oe) :: pn)) (fun _ _ _ => False) where
  c := {
    K := c.c.K
    N := c.c.N
    nd := c.c.nd
    sc := c.c.sc
    fn := c.c.fn
    calm := fun h => nomatch h
    room := fun h => nomatch h
    un := c.c.un
    tk := fun _ _ x => by
      obtain ⟨_, _, _, _, _, _, _, _, _, _, _, _, _, _, _, _, z⟩ := x
      exact z.elim
    FO := c.c.FO
    dn := c.c.dn
    gc := c.c.gc
    gd := c.c.gd
    bl := c.c.bl
    xf := c.c.xf
    ix := c.c.ix
    ex := fun _ => by
      obtain ⟨h1, h2, h3⟩ := c.cl.at_ x C hC
      exact ⟨a, dd, x, oe, C, rfl, List.mem_cons_self, hz, hf, h1, h2, hC, h3⟩ }
  cl := ⟨c.cl.mkx, c.cl.hn, c.cl.at_⟩
  po := fun h => nomatch h
  bk := c.bk
  st := c.st
  fr := c.fr
  rm := c.rm
theorem Czs.tr (c : Czs T G P m s X E) {E' : XK} {pn : List (Addr × Obj)} {xe : Value → Shared → Prop} (tk : Takes (X.tr pn xe) fun c d _ H => E' c d H) (po : PassesOwn (model X.prog X.w) X.A X.env xe) (hx : s.exn = false) : Czs T G P m s (X.tr pn xe) E' where
  c := { K := c.c.K, N := c.c.N, nd := c.c.nd, sc := c.c.sc, fn := c.c.fn, calm := c.c.calm, room := c.c.room, un := c.c.un, tk := tk, FO := c.c.FO, dn := c.c.dn, gc := c.c.gc, gd := c.c.gd, bl := c.c.bl, xf := c.c.xf, ix := c.c.ix, ex := fun h => by rw [hx] at h; cases h }
  cl := c.cl
  po := fun _ => po
  bk := c.bk
  st := c.st
  fr := c.fr
  rm := c.rm
theorem swap_eq (c : Czs T G P m s X E) {a : Ex} {tg e : Expr} (h : chkE T s a e = true) (line : Nat) : swapsWithSole [tg] e line X.env = pure (swapB s tg e) := by
  show swapsWith e (some tg) line X.env = _
  cases e with
  | ListComp e0 gens scope pos =>
    cases tg with
    | Name t p =>
      unfold swapsWith swapB
      have e1 : (X.env.blockKind == ScopeKind.function) = true := by rw [c.bk]; rfl
      have e2 : X.env.kindOf t = s.sc.names.lookup t := by
        show X.env.scope.names.lookup t = _
        rw [c.c.sc]
      simp only [e1, e2, Bool.true_and]
      rfl
    | _ => rfl
  | SetComp _ _ _ _ => cases a <;> simp [chkE] at h
  | DictComp _ _ _ _ _ => cases a <;> simp [chkE] at h
  | _ => rfl
theorem plain_st {tg e : Expr} {env : Env} (h : plainSt s tg e = true) : swappedStores [tg] e env = pure none := by
  cases tg with
  | Tuple ts k1 p1 =>
    cases e with
    | Tuple vs k2 p2 =>
      unfold plainSt at h
      unfold swappedStores
      simp only [Bool.or_eq_true, Bool.and_eq_true] at h
      dsimp only
      split
      · rfl
      · rename_i hn
        have hv : vs.all (foldedForSure 8) = true ∧ (!(vs.any fun | .Starred .. => true | _ => false)) = true := by
          rcases h with (h | h) | h
          · exact absurd (by simp only [h, Bool.true_or]) hn
          · exact absurd (by simp only [h, Bool.true_or, Bool.or_true]) hn
          · exact h
        split
        · rfl
        · split
          · rfl
          · rw [if_pos hv.1]
    | _ => rfl
  | List _ _ => unfold plainSt at h; cases e <;> cases h
  | _ => rfl
theorem nostar_of {a : Ex} {e : Expr} (h : chkE T s a e = true) (v : Expr) (p : Pos) : e ≠ .Starred v p := fun z => by
  subst z
  cases a <;> simp [chkE] at h
theorem erase2 {x y : Str} (h : x ≠ y) : [x, y].eraseDups = [x, y] := by
  have h' : ¬ y = x := fun z => h z.symm
  simp [List.eraseDups_cons, h']
theorem erase3 {x y z : Str} (h : x ≠ y) (h2 : x ≠ z) (h3 : y ≠ z) : [x, y, z].eraseDups = [x, y, z] := by
  have h' : ¬ y = x := fun z => h z.symm
  have h2' : ¬ z = x := fun z => h2 z.symm
  have h3' : ¬ z = y := fun z => h3 z.symm
  simp [List.eraseDups_cons, h', h2', h3']
theorem kind_of (c : Czs T G P m s X E) (x : Str) : X.env.kindOf x = s.sc.names.lookup x := by
  show X.env.scope.names.lookup x = _
  rw [c.c.sc]
theorem swap2 (c : Czs T G P m s X E) {a b : Ex} {e1 e2 : Expr} {x y : Str} {p1 p2 pt pt2 : Pos} {kt k2 : Nat} (h1 : chkE T s a e1 = true) (h2 : chkE T s b e2 = true) (hxy : x ≠ y) (hx : s.sc.names.lookup x = some .local) (hy : s.sc.names.lookup y = some .local)
    (hp : (p1.line == p2.line) = true) (hf : (foldedForSure 8 e1 && foldedForSure 8 e2) = false) (hc : (constantsAlone 8 e1 && constantsAlone 8 e2) = false) :
    swappedStores [.Tuple [.Name x p1, .Name y p2] kt pt] (.Tuple [e1, e2] k2 pt2) X.env = pure (some [x, y]) := by
  have hp' : (p2.line == p1.line) = true := by
    rw [beq_iff_eq] at hp ⊢
    exact hp.symm
  have q1 := nostar_of h1
  have q2 := nostar_of h2
  unfold swappedStores
  simp only [List.length_cons, List.length_nil, c.bk, List.any_cons, List.any_nil, List.all_cons, List.all_nil, Bool.and_true, Bool.or_false, hf, hc, List.head?_cons, Option.map_some, Option.getD_some, Expr.pos, List.filterMap_cons, List.filterMap_nil, kind_of c, hx, hy, hp']
  simp [erase2 hxy]
theorem swap3 (c : Czs T G P m s X E) {a b d : Ex} {e1 e2 e3 : Expr} {x y z : Str} {p1 p2 p3 pt pt2 : Pos} {kt k2 : Nat} (h1 : chkE T s a e1 = true) (h2 : chkE T s b e2 = true) (h3 : chkE T s d e3 = true) (hxy : x ≠ y) (hxz : x ≠ z) (hyz : y ≠ z)
    (hx : s.sc.names.lookup x = some .local) (hy : s.sc.names.lookup y = some .local) (hz : s.sc.names.lookup z = some .local)
    (hp : (p1.line == p2.line) = true) (hp2 : (p1.line == p3.line) = true) (hf : (foldedForSure 8 e1 && (foldedForSure 8 e2 && foldedForSure 8 e3)) = false) (hc : (constantsAlone 8 e1 && (constantsAlone 8 e2 && constantsAlone 8 e3)) = false) :
    swappedStores [.Tuple [.Name x p1, .Name y p2, .Name z p3] kt pt] (.Tuple [e1, e2, e3] k2 pt2) X.env = pure (some [x, y, z]) := by
  have hp' : (p2.line == p1.line) = true := by
    rw [beq_iff_eq] at hp ⊢
    exact hp.symm
  have hp2' : (p3.line == p1.line) = true := by
    rw [beq_iff_eq] at hp2 ⊢
    exact hp2.symm
  have q1 := nostar_of h1
  have q2 := nostar_of h2
  have q3 := nostar_of h3
  unfold swappedStores
  simp only [List.length_cons, List.length_nil, c.bk, List.any_cons, List.any_nil, List.all_cons, List.all_nil, Bool.and_true, Bool.or_false, hf, hc, List.head?_cons, Option.map_some, Option.getD_some, Expr.pos, List.filterMap_cons, List.filterMap_nil, kind_of c, hx, hy, hz, hp', hp2']
  simp [erase3 hxy hxz hyz]
end
end DL
set_option Elab.async false
set_option linter.all false
set_option maxRecDepth 100000
set_option maxHeartbeats 16000000
/-! DL23: soundness of the small syntax, statements: the theorem. -/
namespace DL
open PySem PySem.Spec PyProof.Rows L2
section
variable {T : Tb} {G : Gb} {P : Par} {m : Nat} {s : Sx} {X : Cx} {E : XK}
theorem nd_ne (c : Czs T G P m s X E) {i j : Nat} {x y : Str} (hi : s.N[i]? = some x) (hj : s.N[j]? = some y) (h : i ≠ j) : x ≠ y := fun z => by
  subst z
  obtain ⟨l1, e1⟩ := List.getElem?_eq_some_iff.mp hi
  obtain ⟨l2, e2⟩ := List.getElem?_eq_some_iff.mp hj
  exact h ((List.getElem_inj c.c.nd).mp (e1.trans e2.symm))
theorem k_par3 {i j k : Nat} {x y z : Str} {e1 e2 e3 : Expr} {px py pz pt pos : Pos} {kt k2 : Nat} {pt2 : Pos} {f : M (List DL.D)} (hc : X.calm = true) (hN : X.N.Nodup) (hi : X.N[i]? = some x) (hj : X.N[j]? = some y) (hk : X.N[k]? = some z) (hij : i ≠ j) (hik : i ≠ k) (hjk : j ≠ k)
    (hx : X.env.scope.names.lookup x = some .local) (hy : X.env.scope.names.lookup y = some .local) (hz : X.env.scope.names.lookup z = some .local) (ha : PA X [e1, e2, e3] (TDs G E f))
    (hw : swappedStores [.Tuple [.Name x px, .Name y py, .Name z pz] kt pt] (.Tuple [e1, e2, e3] k2 pt2) X.env = pure (some [x, y, z])) (hs : swapsWithSole [.Tuple [.Name x px, .Name y py, .Name z pz] kt pt] (.Tuple [e1, e2, e3] k2 pt2) pos.line X.env = pure false) :
    PS X (.Assign [.Tuple [.Name x px, .Name y py, .Name z pz] kt pt] (.Tuple [e1, e2, e3] k2 pt2) pos) (TSm G E fun r S => (f r S).to fun ds S1 => match ds with
      | [d1, d2, d3] => .nx (((r.set i (some d1)).set j (some d2)).set k (some d3)) S1
      | _ => .bad) :=
  PS.imp (ps_par3 hc hN hi hj hk hij hik hjk hx hy hz ha hw hs) fun D q H h => DL.T.imp (TSm.seq (p := Rps G) h) fun vs H1 ⟨W, r, S, ds, rel, rx, k⟩ => by
    split at k
    · obtain ⟨v, t, rfl, r1, rt⟩ := Rps.cons_iff.mp rx
      obtain ⟨u, w, rfl, r2, r3⟩ := rt.two_inv
      exact ⟨v, u, w, rfl, k.nxd ⟨((rel.sl.set i r1).set j r2).set _ r3, rel.st⟩⟩
    · exact k.no
theorem k_asg2 {t1 t2 e : Expr} {t u : Tg} {fa : M DL.D} {pos : Pos} (ha : PE X e (TD G E fa)) (h1 : PG X t1 (gOf G t)) (h2 : PG X t2 (gOf G u)) (hA : (assignEach [t1, t2] X.env).map (·.2) = [assign t1 X.env, assign t2 X.env]) (hw : swappedStores [t1, t2] e X.env = pure none) :
    PS X (.Assign [t1, t2] e pos) (TSm G E fun r S => (fa r S).to fun d S1 => (asgS t d r S1).seq fun r2 S2 => asgS u d r2 S2) :=
  PS.imp (ps_asg2 ha h1 h2 hA hw) fun D q H h => DL.T.imp (TSm.seq (p := Rp G) h) fun v H1 ⟨W, r, S, x, rel, rx, k⟩ => by
    unfold asgS at k
    cases e1 : asg t x r with
    | none => rw [e1] at k; exact k.no
    | some r2 =>
      rw [e1] at k
      simp only [seq_nx] at k
      refine ⟨W, r, S, x, r2, rel, rx, e1, fun q2 sl _ => ?_⟩
      cases e2 : asg u x r2 with
      | none => rw [e2] at k; exact k.no
      | some r3 =>
        rw [e2] at k
        exact ⟨W, r2, S, x, r3, ⟨sl, rel.st⟩, rx, e2, fun q3 sl3 _ => k.nxd ⟨sl3, rel.st⟩⟩
theorem k_asg3 {t1 t2 t3 e : Expr} {t u v : Tg} {fa : M DL.D} {pos : Pos} (ha : PE X e (TD G E fa)) (h1 : PG X t1 (gOf G t)) (h2 : PG X t2 (gOf G u)) (h3 : PG X t3 (gOf G v)) (hA : (assignEach [t1, t2, t3] X.env).map (·.2) = [assign t1 X.env, assign t2 X.env, assign t3 X.env]) (hw : swappedStores [t1, t2, t3] e X.env = pure none) :
    PS X (.Assign [t1, t2, t3] e pos) (TSm G E fun r S => (fa r S).to fun d S1 => (asgS t d r S1).seq fun r2 S2 => (asgS u d r2 S2).seq fun r3 S3 => asgS v d r3 S3) :=
  PS.imp (ps_asg3 ha h1 h2 h3 hA hw) fun D q H h => DL.T.imp (TSm.seq (p := Rp G) h) fun v' H1 ⟨W, r, S, x, rel, rx, k⟩ => by
    unfold asgS at k
    cases e1 : asg t x r with
    | none => rw [e1] at k; exact k.no
    | some r2 =>
      rw [e1] at k
      simp only [seq_nx] at k
      refine ⟨W, r, S, x, r2, rel, rx, e1, fun q2 sl _ => ?_⟩
      cases e2 : asg u x r2 with
      | none => rw [e2] at k; exact k.no
      | some r3 =>
        rw [e2] at k
        simp only [seq_nx] at k
        refine ⟨W, r2, S, x, r3, ⟨sl, rel.st⟩, rx, e2, fun q3 sl3 _ => ?_⟩
        cases e3 : asg v x r3 with
        | none => rw [e3] at k; exact k.no
        | some r4 =>
          rw [e3] at k
          exact ⟨W, r3, S, x, r4, ⟨sl3, rel.st⟩, rx, e3, fun q4 sl4 _ => k.nxd ⟨sl4, rel.st⟩⟩
theorem k_hole {st : Stmt} : PS X st (TSm G E fun _ _ => .bad) := ⟨fun pins s σ H D I h => by
  obtain ⟨W, r, S, rel, k⟩ := h
  exact k.no⟩
theorem k_expr' {e : Expr} {fa : M DL.D} {pos : Pos} (ha : PE X e (TD G E fa)) (h : notComp e = true) : PS X (.Expr e pos) (TSm G E fun r S => (fa r S).to fun _ S1 => .nx r S1) :=
  k_expr ha (by cases e <;> first | rfl | (unfold notComp at h; cases h))
/-- x = [..], the store inside the comprehension -/
theorem lc_imp {i : Nat} {t1 : TE} {fa : M DL.D} {D : Ends} {q : L2.St} {H : Hp} (hk : ∀ q H Q, TD G E fa q H Q → t1 q H Q) (h : TSm G E (fun r S => (fa r S).to fun d S1 => asgS (.name i) d r S1) D q H) : tAsg t1 (gName i) D q H := by
  have h2 := asg_of h
  refine hk _ _ _ (DL.T.imp h2 fun v H1 h3 => ?_)
  obtain ⟨W, r, S, d, r2, rel, rd, ea, k⟩ := h3
  simp only [asg, Option.some.injEq] at ea
  subst ea
  exact k _ (rel.sl.set i rd) fun vs h => wipe_set (by simpa [tgIn] using h)
theorem snd_asg (c : Czs T G P m s X E) {t : Tg} {a : Ex} {tg e : Expr} {pos : Pos} (h1 : chkT s t tg = true) (h2 : chkE T s a e = true) (h3 : plainSt s tg e = true) : PS X (.Assign [tg] e pos) (TSm G E fun r S => (semE P a r S).to fun d S1 => asgS t d r S1) := by
  cases hsw : swapB s tg e with
  | false =>
    exact k_asg (sndE a c.c e h2) (sndT c.c t tg h1) (by rw [swap_eq c h2, hsw]) (plain_st h3) (by rw [asE_cons t tg [] h1]; rfl)
  | true =>
    unfold swapB at hsw
    split at hsw
    · rename_i e0 gens scope epos x p
      have hq := swap_eq c (tg := .Name x p) h2 pos.line
      have hsw' : swapB s (.Name x p) (.ListComp e0 gens scope epos) = true := hsw
      rw [hsw'] at hq
      simp only [Bool.and_eq_true, beq_iff_eq] at hsw
      have hxl : X.env.scope.names.lookup x = some .local := by
        rw [c.c.sc]
        exact hsw.1.1
      cases t with
      | tup ts => unfold chkT at h1; cases h1
      | name i =>
        unfold chkT at h1
        simp only [Bool.and_eq_true, decide_eq_true_eq] at h1
        have hi : X.N[i]? = some x := by rw [c.c.N]; exact h1.1
        cases a with
        | comp trk own elt t it k =>
          unfold chkE at h2
          split at h2
          · rename_i e1 tg iter ifs scope1 pos1 heq
            cases heq
            simp only [Bool.and_eq_true] at h2
            obtain ⟨⟨⟨⟨⟨⟨h0, h1'⟩, h2'⟩, h3'⟩, h4⟩, h5⟩, h6⟩ := h2
            have ok : BlkOk X.N X.env.scope scope (ownOf s.N own) := by rw [c.c.N, c.c.sc]; exact blkOk_by h1'
            have hk := (k_comp (trk := trk) (E := E) (own := ownOf s.N own) (t := t) c.c.K (c.c.calm h0) c.c.xnd (sndI it c.c tg iter h3') ok (by rw [ownOf_snd]; exact h2')
              (fun s0 H C cl fp => sndT (c.c.blk scope s0 H C cl fp) t tg h4) (fun s0 H C cl fp => sndC k (c.c.blk scope s0 H C cl fp) ifs h5) (fun s0 H C cl fp => sndE elt (c.c.blk scope s0 H C cl fp) e0 h6) (setJ it tg iter h3' _) (pos := epos)).2
            refine PS.imp (ps_setLc (c.c.calm h0) c.c.xnd hi hxl hq (sndI it c.c tg iter h3') ok (fun s0 H C cl fp => sndT (c.c.blk scope s0 H C cl fp) t tg h4) (fun s0 H C cl fp => sndC k (c.c.blk scope s0 H C cl fp) ifs h5)
              (fun s0 H C cl fp => sndE elt (c.c.blk scope s0 H C cl fp) e0 h6) (setJ it tg iter h3' _)) fun D q H h => lc_imp (fun q H Q hh => hk q H Q ?_) h
            rw [ownOf_snd]
            simp only [semE] at hh
            exact hh
          · cases h2
        | comp2 trk own elt t it k own2 t2 it2 k2 =>
          unfold chkE at h2
          split at h2
          · rename_i e1 tg iter ifs tg2 iter2 ifs2 scope1 pos1 heq
            cases heq
            simp only [Bool.and_eq_true] at h2
            obtain ⟨⟨⟨⟨⟨⟨⟨⟨⟨⟨⟨h0, h1'⟩, hv⟩, h2'⟩, h2''⟩, h3'⟩, h4⟩, h5⟩, h7⟩, h8⟩, h9⟩, h6⟩ := h2
            have ok : BlkOk X.N X.env.scope scope (ownOf s.N own) := by rw [c.c.N, c.c.sc]; exact blkOk_by h1'
            have hv' : ∀ i ∈ own2, i ∈ (ownOf s.N own).map (·.2) := by rw [ownOf_snd]; simpa using hv
            have hk := (k_comp2 (trk := trk) (E := E) (own := ownOf s.N own) (t := t) (vs1 := own2) (t1 := t2) c.c.K (c.c.calm h0) c.c.xnd (sndI it c.c tg iter h3') ok hv' (by rw [ownOf_snd]; exact h2') h2''
              (fun s0 H C cl fp => sndT (c.c.blk scope s0 H C cl fp) t tg h4) (fun s0 H C cl fp => sndC k (c.c.blk scope s0 H C cl fp) ifs h5) (fun s0 H C cl fp => sndI it2 (c.c.blk scope s0 H C cl fp) tg2 iter2 h7)
              (fun s0 H C cl fp => sndT (c.c.blk scope s0 H C cl fp) t2 tg2 h8) (fun s0 H C cl fp => sndC k2 (c.c.blk scope s0 H C cl fp) ifs2 h9) (fun s0 H C cl fp => sndE elt (c.c.blk scope s0 H C cl fp) e0 h6) (setJ it tg iter h3' _) (setJ it2 tg2 iter2 h7) (pos := epos)).2
            refine PS.imp (ps_setLc2 (c.c.calm h0) c.c.xnd hi hxl hq (sndI it c.c tg iter h3') ok hv' (fun s0 H C cl fp => sndT (c.c.blk scope s0 H C cl fp) t tg h4) (fun s0 H C cl fp => sndC k (c.c.blk scope s0 H C cl fp) ifs h5)
              (fun s0 H C cl fp => sndI it2 (c.c.blk scope s0 H C cl fp) tg2 iter2 h7) (fun s0 H C cl fp => sndT (c.c.blk scope s0 H C cl fp) t2 tg2 h8) (fun s0 H C cl fp => sndC k2 (c.c.blk scope s0 H C cl fp) ifs2 h9)
              (fun s0 H C cl fp => sndE elt (c.c.blk scope s0 H C cl fp) e0 h6) (setJ it tg iter h3' _) (setJ it2 tg2 iter2 h7)) fun D q H h => lc_imp (fun q H Q hh => hk q H Q ?_) h
            rw [ownOf_snd]
            simp only [semE] at hh
            exact hh
          · cases h2
        | _ => simp [chkE] at h2
    · cases hsw
end
theorem sw_two (t1 t2 e : Expr) (env : Env) : swappedStores [t1, t2] e env = pure none := by
  cases t1 <;> first | rfl | (cases e <;> rfl)
theorem sw_three (t1 t2 t3 e : Expr) (env : Env) : swappedStores [t1, t2, t3] e env = pure none := by
  cases t1 <;> first | rfl | (cases e <;> rfl)
mutual
theorem sndS {T : Tb} {G : Gb} {m : Nat} : ∀ (a : Sm) {P : Par} {s : Sx} {X : Cx} {E : XK} (c : Czs T G P m s X E) (st : Stmt), chkS T s a st = true → PS X st (TSm G E (semS a P))
  | .expr a, P, s, X, E, c, st, h => by
    unfold chkS at h
    split at h
    · simp only [Bool.and_eq_true] at h
      unfold semS
      exact k_expr' (sndE a c.c _ h.2) h.1
    · cases h
  | .doc, P, s, X, E, c, st, h => by
    unfold chkS at h
    split at h
    · unfold semS
      exact k_doc
    · cases h
  | .ret a, P, s, X, E, c, st, h => by
    unfold chkS at h
    split at h
    · unfold semS
      exact k_ret (sndE a c.c _ h)
    · cases h
  | .ret0, P, s, X, E, c, st, h => by
    unfold chkS at h
    split at h
    · unfold semS
      exact k_ret0
    · cases h
  | .pass, P, s, X, E, c, st, h => by
    unfold chkS at h
    split at h
    · unfold semS
      exact k_pass
    · cases h
  | .brk, P, s, X, E, c, st, h => by
    unfold chkS at h
    split at h
    · unfold semS
      exact k_break
    · cases h
  | .cont, P, s, X, E, c, st, h => by
    unfold chkS at h
    split at h
    · unfold semS
      exact k_cont
    · cases h
  | .ifs k a b, P, s, X, E, c, st, h => by
    unfold chkS at h
    split at h
    · simp only [Bool.and_eq_true] at h
      unfold semS
      exact k_if (sndB k c.c _ h.1.1) (sndSs a c _ h.1.2) (sndSs b c _ h.2)
    · cases h
  | .asg t a, P, s, X, E, c, st, h => by
    unfold chkS at h
    split at h
    · simp only [Bool.and_eq_true] at h
      unfold semS
      exact snd_asg c h.1.1 h.1.2 h.2
    · cases h
  | .asg2 t u a, P, s, X, E, c, st, h => by
    unfold chkS at h
    split at h
    · simp only [Bool.and_eq_true] at h
      unfold semS
      exact k_asg2 (sndE a c.c _ h.1.2) (sndT c.c t _ h.1.1.1) (sndT c.c u _ h.1.1.2) (by rw [asE_cons t _ _ h.1.1.1, asE_cons u _ _ h.1.1.2]; rfl) (sw_two _ _ _ _)
    · cases h
  | .asg3 t u v a, P, s, X, E, c, st, h => by
    unfold chkS at h
    split at h
    · simp only [Bool.and_eq_true] at h
      unfold semS
      exact k_asg3 (sndE a c.c _ h.1.2) (sndT c.c t _ h.1.1.1.1) (sndT c.c u _ h.1.1.1.2) (sndT c.c v _ h.1.1.2) (by rw [asE_cons t _ _ h.1.1.1.1, asE_cons u _ _ h.1.1.1.2, asE_cons v _ _ h.1.1.2]; rfl) (sw_three _ _ _ _ _)
    · cases h
  | .hole, P, s, X, E, c, st, h => by
    unfold semS
    exact k_hole
  | .par i j a b, P, s, X, E, c, st, h => by
    unfold chkS at h
    split at h
    · rename_i x p1 y p2 k1 tp e1 e2 k2 tp2 pos
      simp only [Bool.and_eq_true, decide_eq_true_eq, Bool.not_eq_true'] at h
      obtain ⟨⟨⟨⟨⟨⟨⟨⟨⟨⟨h0, hi⟩, hj⟩, hij⟩, hx⟩, hy⟩, hp⟩, hf⟩, hcs⟩, h1⟩, h2⟩ := h
      unfold semS
      have hE : PA X [e1, e2] (TDs G E (semEs P (.cons a (.cons b .nil)))) := by
        simp only [semEs]
        exact k_cons (sndE a c.c _ h1) (k_cons (sndE b c.c _ h2) k_nil (ns_of h2 _ _)) (ns_of h1 _ _)
      exact k_par (c.c.calm h0) c.c.xnd (by rw [c.c.N]; exact hi) (by rw [c.c.N]; exact hj) hij (by rw [c.c.sc]; exact hx) (by rw [c.c.sc]; exact hy) hE (swap2 c h1 h2 (nd_ne c hi hj hij) hx hy hp hf hcs) rfl
    · cases h
  | .par3 i j k a b d, P, s, X, E, c, st, h => by
    unfold chkS at h
    split at h
    · rename_i x p1 y p2 z p3 k1 tp e1 e2 e3 k2 tp2 pos
      simp only [Bool.and_eq_true, decide_eq_true_eq, Bool.not_eq_true'] at h
      obtain ⟨⟨⟨⟨⟨⟨⟨⟨⟨⟨⟨⟨⟨⟨⟨⟨h0, hi⟩, hj⟩, hk⟩, hij⟩, hik⟩, hjk⟩, hx⟩, hy⟩, hz⟩, hp⟩, hp2⟩, hf⟩, hcs⟩, h1⟩, h2⟩, h3⟩ := h
      unfold semS
      have hE : PA X [e1, e2, e3] (TDs G E (semEs P (.cons a (.cons b (.cons d .nil))))) := by
        simp only [semEs]
        exact k_cons (sndE a c.c _ h1) (k_cons (sndE b c.c _ h2) (k_cons (sndE d c.c _ h3) k_nil (ns_of h3 _ _)) (ns_of h2 _ _)) (ns_of h1 _ _)
      exact k_par3 (c.c.calm h0) c.c.xnd (by rw [c.c.N]; exact hi) (by rw [c.c.N]; exact hj) (by rw [c.c.N]; exact hk) hij hik hjk (by rw [c.c.sc]; exact hx) (by rw [c.c.sc]; exact hy) (by rw [c.c.sc]; exact hz) hE
        (swap3 c h1 h2 h3 (nd_ne c hi hj hij) (nd_ne c hi hk hik) (nd_ne c hj hk hjk) hx hy hz hp hp2 hf hcs) rfl
    · cases h
  | .set o i a, P, s, X, E, c, st, h => by
    unfold chkS at h
    split at h
    · rename_i e1 e2 sp e pos
      simp only [Bool.and_eq_true] at h
      unfold semS
      have pl := plain_of h.2
      exact k_set (sndE a c.c _ h.1.1) (pg_sub (sndE o c.c _ h.1.2) (sndE i c.c _ h.2) set_ok (by cases e2 <;> first | (intro _; rfl) | (cases i <;> simp [chkE] at h)))
        (by rw [swap_eq c h.1.1]; unfold swapB; cases e <;> rfl) rfl rfl
    · cases h
  | .aug i plus a, P, s, X, E, c, st, h => by
    unfold chkS at h
    split at h
    · simp only [Bool.and_eq_true, decide_eq_true_eq] at h
      obtain ⟨⟨⟨hi, hx⟩, rfl⟩, h1⟩ := h
      obtain ⟨s1, s2⟩ := c.c.sto hx
      unfold semS
      refine k_aug c.c.xnd (by rw [c.c.N]; exact hi) s1 (sndE a c.c _ h1) ?_ s2
      cases plus with
      | true => exact ip_iadd
      | false => exact ip_isub
    · cases h
  | .whl k b, P, s, X, E, c, st, h => by
    unfold chkS at h
    split at h
    · simp only [Bool.and_eq_true] at h
      unfold semS
      exact k_while P.fuel (c.po h.1.1) (sndB k c.c _ h.1.2) (sndSs b c _ h.2)
    · cases h
  | .forr t it b, P, s, X, E, c, st, h => by
    unfold chkS at h
    split at h
    · simp only [Bool.and_eq_true] at h
      obtain ⟨⟨⟨h0, h1⟩, h2⟩, h3⟩ := h
      unfold semS
      exact k_for (c.po h0) (c.c.calm h0) (sndI it c.c _ _ h1) (sndT c.c t _ h2) (sndSs b c _ h3) (setJ it _ _ h1 _)
    · cases h
  | .rais x es, P, s, X, E, c, st, h => by
    unfold chkS at h
    split at h
    · rename_i y p1 l p2 pos
      simp only [Bool.and_eq_true, decide_eq_true_eq] at h
      obtain ⟨⟨⟨⟨h0, h1⟩, h2⟩, h4⟩, h3⟩ := h
      obtain ⟨g1, g2, g3⟩ := c.c.gl h2
      obtain ⟨C, fI, fd, ek, hC, hm, hx, hmk, Ox, iC, tI, FI, hb⟩ := c.cl.mkx x y h1
      unfold semS
      rw [hmk]
      cases l with
      | nil => cases h4
      | cons e1 l =>
        cases es with
        | nil => unfold chkEs at h3; cases h3
        | cons a1 es =>
          have h3' := h3
          unfold chkEs at h3
          simp only [Bool.and_eq_true] at h3
          exact k_raise c.c.K hC hx Ox (by rw [← hx]; exact (c.cl.at_ x C hC).2.2) iC tI FI ((c.c.room h0).mono c.rm) hb (fun pins σ H s0 e s1 I hh => (passes_call (E := fun _ _ _ => False) c.c.tk fun _ _ _ _ z => z.elim) pins σ H s0 e s1 I hh) g1 hm g2 (c.c.calm h0) c.c.tk (fun _ _ _ _ z => z)
            (sndEs (.cons a1 es) c.c _ h3') (ns_of h3.1 _ _) (back_of p2 _ h3.2)
    · cases h
  | .trys hh i b su, P, s, X, E, c, st, h => by
    unfold chkS at h
    split at h
    · rename_i body y np nm s0 suite pos' pos
      simp only [Bool.and_eq_true, decide_eq_true_eq, Bool.not_eq_true'] at h
      obtain ⟨⟨⟨⟨⟨⟨⟨h0, hx⟩, h1⟩, rfl⟩, h2⟩, h3⟩, h4⟩, h5⟩ := h
      obtain ⟨g1, g2, g3⟩ := c.c.gl h2
      obtain ⟨cv, hcv, hexm⟩ := c.cl.hn _ (by simpa using h1)
      unfold semS
      have hb : ∀ (E' : XK) (pn : List (Addr × Obj)) (xe : Value → Shared → Prop), Takes (X.tr pn xe) (fun c d _ H => E' c d H) → PassesOwn (model X.prog X.w) X.A X.env xe → PSs (X.tr pn xe) body (TSm G E' (semSs b P)) := fun E' pn xe tk po => sndSs b (c.tr tk po hx) _ h4
      have hsu : ∀ (a dd x : Nat) (oe : Obj) (C : Addr) (pn : List (Addr × Obj)), G.ca x = some C → Zc (.ref C) (some dd) oe → (∃ vs, oe.data = .fields vs) → PSs (X.suite a ((a, oe) :: pn)) (s0 :: suite) (TSm G (fun _ _ _ => False) (semSs su { P with ex := some (a, dd, x) })) :=
        fun a dd x oe C pn hC hz hf => sndSs su (c.suite hC hz hf) _ h5
      split at h3
      · exact k_try_only c.st c.fr ⟨g1, g2, hcv⟩ c.c.tk hexm hb hsu
      · rename_i i n
        simp only [Bool.and_eq_true, decide_eq_true_eq] at h3
        exact k_try_as c.st c.fr c.c.xnd (by rw [c.c.N]; exact h3.1) (by rw [kind_of c]; exact h3.2) ⟨g1, g2, hcv⟩ c.c.tk hexm hb hsu
      · cases h3
    · cases h
theorem sndSs {T : Tb} {G : Gb} {m : Nat} : ∀ (a : Sms) {P : Par} {s : Sx} {X : Cx} {E : XK} (c : Czs T G P m s X E) (l : List Stmt), chkSs T s a l = true → PSs X l (TSm G E (semSs a P))
  | .nil, P, s, X, E, c, l, h => by
    unfold chkSs at h
    cases l with
    | nil => unfold semSs; exact k_s0
    | cons => cases h
  | .cons a b, P, s, X, E, c, l, h => by
    unfold chkSs at h
    split at h
    · simp only [Bool.and_eq_true] at h
      unfold semSs
      exact k_sc (sndS a c _ h.1) (sndSs b c _ h.2)
    · cases h
end
end DL
set_option Elab.async false
set_option linter.all false
set_option maxRecDepth 100000
set_option maxHeartbeats 8000000
/-! DL24: a program's defs and their meaning, call depth by call depth. -/
namespace DL
open PySem PySem.Spec PyProof.Rows L2

/-- a def: its name, slots, parameters, text, the same in the small syntax -/
structure Df where
  x : Str
  N : List Str
  ps : List Str
  params : Arguments
  body : List Stmt
  scope : Scope
  ast : Sms
def Df.ok (T : Tb) (d : Df) : Bool := C8.scC d.N d.ps d.scope && chkSs T ⟨d.N, d.scope, fun _ => true, true, false⟩ d.ast d.body
/-- what the defs do to the depth k -/
noncomputable def run (tb : Nat → Option Df) (P : Par) : Nat → Nat → List D → Sto → Re D
  | 0 => fun _ _ _ => .bad
  | k + 1 => fun f ds S => match tb f with
    | some d => if ds.length = d.ps.length then finish S (semSs d.ast { P with fn := run tb P k } (startL d.N.length ds) S) else .bad
    | none => .bad
theorem run_succ {tb : Nat → Option Df} {P : Par} {k f : Nat} {d : Df} {ds : List D} {S : Sto} (h : tb f = some d) (hl : ds.length = d.ps.length) : run tb P (k + 1) f ds S = finish S (semSs d.ast { P with fn := run tb P k } (startL d.N.length ds) S) := by
  show (match tb f with
    | some d => if ds.length = d.ps.length then finish S (semSs d.ast { P with fn := run tb P k } (startL d.N.length ds) S) else .bad
    | none => .bad) = _
  rw [h]
  dsimp only
  rw [if_pos hl]

/-- what the head tells -/
structure Bk (tb : Nat → Option Df) (T : Tb) (G : Gb) (P : Par) (prog : Program) (w : World) (K : PySem.W.Frag) (mg : Str → Option Value) (base : Heap) : Prop where
  eK : G.K = K
  df : ∀ f a, G.fa f = some a → ∃ d fd, tb f = some d ∧ d.ok T = true ∧ FunD K d.x d.x d.params d.body d.scope [] [] a fd ∧ Binds K fd d.ps []
  dn : ∀ f x, T.dn f = some x → ∃ a, mg x = some (.ref a) ∧ G.fa f = some a
  gc : ∀ y d, P.gc y = some d → ∃ u v, mg (Str.ofString y) = some u ∧ L2.RelV v u ∧ ∀ W H, Rp G W H d v
  gd : ∀ x ∈ T.gd, ∃ kv a, P.gd x = some kv ∧ DkX K w mg (Str.ofString x) kv a
  bl : ∀ b ∈ bltNames, mg b = none
  xf : P.xf = G.xf
  ix : ∀ ty ∈ T.ix, (∃ CT, mg ty = some (.ref CT) ∧ ∀ x C b, G.ca x = some C → P.isx x ty = some b → PySem.W.kitOne K (.ref C) (.ref CT) = some b) ∨ (∃ t, mg ty = none ∧ bootBuiltins ty = some (.type t) ∧ ∀ x C b, G.ca x = some C → P.isx x ty = some b → PySem.W.kitOne K (.ref C) (.type t) = some b)
  cl : ClX T G P prog w K mg base
section
variable {tb : Nat → Option Df} {T : Tb} {G : Gb} {P : Par} {prog : Program} {w : World} {K : PySem.W.Frag} {mg : Str → Option Value} {base : Heap}
theorem funD_ok {x qual : Str} {params : Arguments} {body : List Stmt} {scope : Scope} {f : Addr} {fd : FuncData} {N ps : List Str} {k : Nat} {bm : MS} (F : FunD K x qual params body scope [] [] f fd) (Sc : FnScope N ps scope)
    (hb : ∀ (cdv : Value) (A : Around) (outer : List Env) (s : Shared) (H : Hp) (E : XK), Room k (A.deeper (envOfC qual scope s.heap.objs.size f cdv)) → PSs (cxOf (L2.CX prog w) prog w K mg base N qual scope f cdv A outer s H E) body (TSm G E bm)) :
    FnOk prog w K mg base (L2.CX prog w) (k + 1) f fd ps (spOf G fun ds S => if ds.length = ps.length then finish S (bm (startL N.length ds) S) else .bad) := by
  refine F.ok Sc (fun vs H Q E h => ?_) (fun cdv A outer s H vs Q E hr h => ?_)
  · obtain ⟨W, S, ds, s, r, p⟩ := h
    dsimp only at p
    split at p
    · rename_i hl
      rw [r.length]
      exact hl
    · exact p.no
  · obtain ⟨W, S, ds, s1, r, p⟩ := h
    dsimp only at p
    split at p
    · exact ⟨_, hb cdv A outer s H E hr, W, startL N.length ds, S, ⟨sl_start r, s1⟩, fin_post s1 p⟩
    · exact p.no
theorem run_zero {f : Nat} {a : Addr} {d : Df} {fd : FuncData} : FnOk prog w K mg base (L2.CX prog w) 2 a fd d.ps (spOf G (run tb P 0 f)) := by
  refine ⟨fun vs H Q E q => ?_, fun A outer s H args us vs Q E hr he hb hv q => ?_⟩
  · obtain ⟨W, S, ds, s, r, p⟩ := q
    exact p.no
  · obtain ⟨W, S, ds, s, r, p⟩ := q
    exact p.no
theorem run_step (B : Bk tb T G P prog w K mg base) {k f : Nat} {a : Addr} {d : Df} {fd : FuncData} (hd : tb f = some d) (hok : d.ok T = true) (F : FunD K d.x d.x d.params d.body d.scope [] [] a fd)
    (ih : ∀ f a, G.fa f = some a → ∃ fd ps, FnOk prog w K mg base (L2.CX prog w) (k + 2) a fd ps (spOf G (run tb P k f)) ∧ PySem.W.keepIn K (.ref a) = true ∧ Binds K fd ps []) : FnOk prog w K mg base (L2.CX prog w) (k + 3) a fd d.ps (spOf G (run tb P (k + 1) f)) := by
  unfold Df.ok at hok
  simp only [Bool.and_eq_true] at hok
  have Sc := C8.fnScope_by hok.1
  have main := funD_ok (prog := prog) (w := w) (mg := mg) (base := base) (G := G) (k := k + 2) (bm := semSs d.ast { P with fn := run tb P k }) F Sc fun cdv A outer s H E hr => by
    refine sndSs (T := T) (P := { P with fn := run tb P k }) (m := k + 2) (X := cxOf (L2.CX prog w) prog w K mg base d.N d.x d.scope a cdv A outer s H E) d.ast (s := ⟨d.N, d.scope, fun _ => true, true, false⟩) ⟨⟨B.eK, rfl, Sc.nd, rfl, fun _ _ => rfl, fun _ => rfl, fun _ => hr, hr.units, takes_of rfl rfl rfl rfl, ih, B.dn, B.gc, B.gd, B.bl, B.xf, B.ix, fun h => nomatch h⟩, ⟨B.cl.mkx, B.cl.hn, B.cl.at_⟩, fun _ => passes_of rfl, ?_, rfl, rfl, by omega⟩ d.body hok.2
    show (if d.scope.kind.isAnnotationScope then ScopeKind.function else d.scope.kind) = .function
    rw [Sc.kind]
    rfl
  refine main.imp fun vs H Q E q => ?_
  obtain ⟨W, S, ds, s, r, p⟩ := q
  refine ⟨W, S, ds, s, r, ?_⟩
  have e : run tb P (k + 1) f ds S = if ds.length = d.ps.length then finish S (semSs d.ast { P with fn := run tb P k } (startL d.N.length ds) S) else .bad := by
    show (match tb f with
      | some d => if ds.length = d.ps.length then finish S (semSs d.ast { P with fn := run tb P k } (startL d.N.length ds) S) else .bad
      | none => .bad) = _
    rw [hd]
  rw [e] at p
  exact p
theorem run_ok (B : Bk tb T G P prog w K mg base) : ∀ (k f : Nat) (a : Addr), G.fa f = some a → ∃ fd ps, FnOk prog w K mg base (L2.CX prog w) (k + 2) a fd ps (spOf G (run tb P k f)) ∧ PySem.W.keepIn K (.ref a) = true ∧ Binds K fd ps []
  | 0, f, a, h => by
    obtain ⟨d, fd, hd, hok, F, hb⟩ := B.df f a h
    exact ⟨fd, d.ps, run_zero, F.kp, hb⟩
  | k + 1, f, a, h => by
    obtain ⟨d, fd, hd, hok, F, hb⟩ := B.df f a h
    exact ⟨fd, d.ps, run_step B hd hok F (run_ok B k), F.kp, hb⟩
theorem run_fn (B : Bk tb T G P prog w K mg base) (k : Nat) {f : Nat} {a : Addr} {d : Df} {fd : FuncData} (hd : tb f = some d) (hok : d.ok T = true) (F : FunD K d.x d.x d.params d.body d.scope [] [] a fd) : FnOk prog w K mg base (L2.CX prog w) (k + 2) a fd d.ps (spOf G (run tb P k f)) := by
  cases k with
  | zero => exact run_zero
  | succ k => exact run_step B hd hok F (run_ok B k)
end
end DL
set_option Elab.async false
set_option linter.all false
set_option maxRecDepth 100000
set_option maxHeartbeats 4000000
/-! DL25: what the head tells, as looks; the end. -/
namespace DL
open PySem PySem.Spec PyProof.Rows L2
theorem oexB_ok {K : PySem.W.Frag} {C : Addr} (h : oexB K C = true) : OexC K C := by
  unfold oexB at h
  simp only [Bool.and_eq_true, decide_eq_true_eq] at h
  obtain ⟨⟨⟨⟨h1, h2⟩, h3⟩, h4⟩, h5⟩ := h
  refine ⟨?_, h2, h3, h4, h5⟩
  split at h1
  · rename_i ty dd cd sl ho
    split at h1
    · rename_i C' bm k0 k1 k2 k3 n k5 hm hs
      simp only [Bool.and_eq_true, beq_iff_eq, Bool.not_eq_true'] at h1
      obtain ⟨⟨⟨⟨⟨rfl, rfl⟩, rfl⟩, hdel⟩, hdct⟩, hbm⟩ := h1
      obtain ⟨nm, bs, mro, ns, qn, hd, sn, sub, ab, col, del⟩ := cd
      dsimp only at hm hdel hdct
      subst hm hdel hdct
      have hsl : sl = #[k0, k1, k2, k3, some (.builtin "ValueError.__new__"), k5] := by
        obtain ⟨l⟩ := sl
        simp only at hs
        rw [hs]
      subst hsl
      exact ⟨nm, qn, ns, bs, bm, sn, sub, ab, col, dd, k0, k1, k2, k3, k5, ho, hbm⟩
    · cases h1
  · cases h1
theorem headB_ok {K : PySem.W.Frag} {CL : Addr} (h : headB K CL = true) : HeadC K CL := by
  unfold headB at h
  simp only [Bool.and_eq_true, decide_eq_true_eq] at h
  refine ⟨h.1.1, h.1.2, ?_⟩
  have h2 := h.2
  split at h2
  · rename_i v e
    rw [e, of_decide_eq_true h2]
  · cases h2
theorem excB_ok {K : PySem.W.Frag} {C : Addr} (x : XfC K C) (h : excB K C = true) : ExcC K C := by
  unfold excB at h
  simp only [Bool.and_eq_true, decide_eq_true_eq] at h
  exact ⟨x.ga, x.gg, x.exC, x.hdC, h.1.1.1, h.1.1.2, h.1.2, h.2⟩
theorem SaysX.tab {fa : List He.Fa} {fn : List He.DefD} {ex : PySem.W.Frag → Bool} {ts : List He.Tab} {w : World} {K : PySem.W.Frag} (c : SaysX fa fn ex ts w K) (i : Nat) {t : He.Tab} (h : ts[i]? = some t) : ∃ es n, KDict K w (t.1 K) es n := by
  have e2 : (ts.map fun t => He.dicW K (t.1 K))[i]? = (ts.map fun t => some (He.keysIn w.params t.2))[i]? := by rw [c.2.2]
  rw [List.getElem?_map, List.getElem?_map, h] at e2
  exact He.dicW_ok (Option.some.inj e2)
/-- a def as the head has it, by the name that it is called by -/
def Df.dk (d : Df) (y : Str) : He.DefD := ⟨(y, none), d.x, d.x, d.params, d.body, d.scope, [], []⟩
/-- a def as the head has it -/
def Df.d (d : Df) : He.DefD := ⟨(d.x, none), d.x, d.x, d.params, d.body, d.scope, [], []⟩
/-- every parameter is written -/
def Df.B (d : Df) : Prop := ∀ (kV doc pm : Value) (an : Option Addr) (cdv ct : Value) (us : List Value), us.length = d.ps.length → bindArgs (PySem.W.fnOf d.x d.x d.params d.body d.scope .none kV doc pm an cdv ct) ⟨us, []⟩ = pure (d.ps.zip us)
/-- no exception leaves the law -/
theorem cx_none {P : Program} {w : World} (H : Hp) (s : Shared) (e : Value) (s' : Shared) (h : L2.CX P w [] H s (fun _ _ _ => False) e s') : False := by
  obtain ⟨_, _, _, _, _, _, _, _, _, _, _, _, z⟩ := h
  exact z
/-- the law's call, told by its function -/
theorem law_sp {G : Gb} {F : List DL.D → Sto → Re DL.D} {K : PySem.W.Frag} (hK : G.K = K) {n : Nat} (hF : ∀ ns : List Int, ns.length ≤ n → F [.scr ns] [] = .ok (.bl true) []) (H : Hp) (a : Addr) (ns : List Int) (hl : ns.length ≤ n) (hS : SqL K H a (ns.map V.int)) :
    spOf G F [.ref a] H (fun v _ => v = .bl true) fun _ _ _ => False := by
  refine ⟨⟨[], []⟩, [], [.scr ns], ⟨rfl, List.nodup_nil, fun i a o h => by simp at h, fun a h => by simp at h, fun a h => by simp at h⟩, Rps.one ?_, ?_⟩
  · simp only [Rp]
    refine ⟨a, rfl, ?_⟩
    rw [hK]
    rcases hS with h | h
    · exact .inl ⟨by simp, by simp, h⟩
    · exact .inr h
  · rw [hF ns hl]
    intro W' H' v _ _ r
    exact rp_bl r
/-- the end: the law's function object keeps the promise of the meaning -/
theorem walk_dl {l : PySem.W.OpenLaw} {n k : Nat} {q : Program} {loose : List Str} {XP : (Str → Option Value) → Heap → Prop} {YP : World → Heap → Prop} {d : DefRec} {x : Str} (hn : l.most = some n) (hn2 : n ≤ sizeLine) (hdf : d.params.defaults = []) (hr : Room k callerA)
    (Fx : ∀ (w : World) (mg : Str → Option Value) (fa : Addr) (h : Heap), YP w h → h.Ns mainGlobals mg → mg d.name = some (.ref fa) →
      ∃ (K : PySem.W.Frag) (fd : FuncData) (G : Gb) (F : List DL.D → Sto → Re DL.D), K.In h ∧ G.K = K ∧ (∀ (s : Shared) (u : Value), BindsTo s fd ⟨[u], []⟩ [(x, u)]) ∧ (∀ ns : List Int, ns.length ≤ n → F [.scr ns] [] = .ok (.bl true) []) ∧
        ∀ base : Heap, K.In base → base.Ns mainGlobals mg → FnOk l.prog w K mg base (L2.CX l.prog w) k fa fd [x] (spOf G F)) :
    PySem.W.WalkO q loose XP YP l.row.toRowW d [] (fun f vs => PySem.call f vs) := by
  refine Att.attach_call hn hdf fun w s₀ s₁ mg mb fa o pm cd doc a vs ns G Y ho hd hcd hmg hobj hints hlen hg => ?_
  obtain ⟨K, fd, Gg, F, KX, hK, hb, hsp, hF⟩ := Fx w mg fa _ Y G.T.g hmg
  exact law_call KX G.T.g G.T.b G.T.builtins G.T.nolimit hg hobj hints (Nat.le_trans hlen hn2) hr hF hb (fun H hO hS => law_sp hK hsp H a ns hlen hS) fun H e s' => cx_none H s₁ e s'
end DL
set_option Elab.async false
set_option linter.all false
set_option maxRecDepth 100000
set_option maxHeartbeats 4000000
/-! K37A: the defs of k37 in the small syntax, held against the program's text. -/
namespace K37
open PySem PySem.Spec PyProof.Rows L2 DL
/-- 0: is_whole -/
def a_is_whole_dnames : Sms :=
  (.cons (.ret (.and (.cons (.isi (.var 0) "int") (.cons (.not (.isi (.var 0) "bool")) (.cons (.chn .le .le (.var 1) (.var 0) (.var 2)) .nil)))))
  .nil)

abbrev d_0 : Df := ⟨"is_whole", ["thing", "least", "most"], ["thing", "least", "most"], defArgs (top 1), defBody (top 1), defScope (top 1), a_is_whole_dnames⟩

/-- 1: is_day -/
def a_is_day : Sms :=
  (.cons (.ret (.call 0 (.cons (.var 0) (.cons (.int 0) (.cons (.int 19999) .nil)))))
  .nil)

abbrev d_1 : Df := ⟨"is_day", ["thing"], ["thing"], defArgs (top 3), defBody (top 3), defScope (top 3), a_is_day⟩

/-- 2: is_whole -/
def a_is_whole_cforms : Sms :=
  (.cons (.ret (.and (.cons (.isi (.var 0) "int") (.cons (.not (.isi (.var 0) "bool")) (.cons (.chn .le .le (.var 1) (.var 0) (.var 2)) .nil)))))
  .nil)

abbrev d_2 : Df := ⟨"is_whole", ["thing", "low", "high"], ["thing", "low", "high"], defArgs (top 10), defBody (top 10), defScope (top 10), a_is_whole_cforms⟩

/-- 3: is_clean -/
def a_is_clean : Sms :=
  (.cons (.ret (.and (.cons (.mth .isascii (.var 0) .nil) (.cons (.mth .isprintable (.var 0) .nil) (.cons (.nope 37 (.var 0)) .nil)))))
  .nil)

abbrev d_3 : Df := ⟨"is_clean", ["text"], ["text"], defArgs (top 12), defBody (top 12), defScope (top 12), a_is_clean⟩

/-- 4: is_name -/
def a_is_name_cforms : Sms :=
  (.cons (.ifs (.or (.cons (.not (.isi (.var 0) "str")) (.cons (.not (.chn .le .le (.int 1) (.blt .len (.cons (.var 0) .nil)) (.int 12))) (.cons (.cmp .in_ (.var 0) (.glo "FIXED_cforms")) .nil)))) (.cons (.ret (.bl false))
  .nil) .nil)
  (.cons (.ret (.and (.cons (.mth .isascii (.var 0) .nil) (.cons (.mth .isalnum (.var 0) .nil) (.cons (.mth .isalpha (.ix (.var 0) (.int 0)) .nil) (.cons (.cmp .eq (.var 0) (.mth .lower (.var 0) .nil)) .nil))))))
  .nil))

abbrev d_4 : Df := ⟨"is_name", ["thing"], ["thing"], defArgs (top 15), defBody (top 15), defScope (top 15), a_is_name_cforms⟩

/-- 5: is_office -/
def a_is_office : Sms :=
  (.cons (.ifs (.or (.cons (.not (.isi (.var 0) "str")) (.cons (.not (.chn .le .le (.int 1) (.blt .len (.cons (.var 0) .nil)) (.int 8))) .nil))) (.cons (.ret (.bl false))
  .nil) .nil)
  (.cons (.ret (.and (.cons (.mth .isascii (.var 0) .nil) (.cons (.mth .isalpha (.var 0) .nil) (.cons (.cmp .eq (.var 0) (.mth .lower (.var 0) .nil)) .nil)))))
  .nil))

abbrev d_5 : Df := ⟨"is_office", ["thing"], ["thing"], defArgs (top 17), defBody (top 17), defScope (top 17), a_is_office⟩

/-- 6: is_span -/
def a_is_span : Sms :=
  (.cons (.ret (.and (.cons (.call 2 (.cons (.var 0) (.cons (.int 0) (.cons (.glo "LAST_DAY") .nil)))) (.cons (.call 2 (.cons (.var 1) (.cons (.int 1) (.cons (.glo "END") .nil)))) (.cons (.cmp .lt (.var 0) (.var 1)) .nil)))))
  .nil)

abbrev d_6 : Df := ⟨"is_span", ["first", "end"], ["first", "end"], defArgs (top 18), defBody (top 18), defScope (top 18), a_is_span⟩

/-- 7: is_source -/
def a_is_source : Sms :=
  (.cons (.ret (.and (.cons (.call 5 (.cons (.var 0) .nil)) (.cons (.call 2 (.cons (.var 1) (.cons (.int 0) (.cons (.int 399) .nil)))) .nil))))
  .nil)

abbrev d_7 : Df := ⟨"is_source", ["office", "number"], ["office", "number"], defArgs (top 19), defBody (top 19), defScope (top 19), a_is_source⟩

/-- 8: is_deed -/
def a_is_deed : Sms :=
  (.cons (.ifs (.or (.cons (.not (.isi (.var 0) "tuple")) (.cons (.not (.var 0)) (.cons (.not (.isi (.ix (.var 0) (.int 0)) "str")) .nil)))) (.cons (.ret (.bl false))
  .nil) .nil)
  (.cons (.asg (.name 1) (.ix (.var 0) (.int 0)))
  (.cons (.ifs (.inD false (.var 1) "FACTS") (.cons (.ret (.and (.cons (.cmp .eq (.blt .len (.cons (.var 0) .nil)) (.ixD "FACTS" (.var 1))) (.cons (.call 10 (.cons (.var 0) .nil)) .nil))))
  .nil) .nil)
  (.cons (.ifs (.inD false (.var 1) "ACTS") (.cons .hole
  .nil) .nil)
  (.cons (.ifs (.inD false (.var 1) "OTHERS") (.cons .hole
  .nil) .nil)
  (.cons (.ret (.bl false))
  .nil))))))

abbrev d_8 : Df := ⟨"is_deed", ["thing", "word"], ["thing"], defArgs (top 67), defBody (top 67), defScope (top 67), a_is_deed⟩

/-- 9: is_entry -/
def a_is_entry : Sms :=
  (.cons (.ifs (.or (.cons (.not (.isi (.var 0) "tuple")) (.cons (.cmp .ne (.blt .len (.cons (.var 0) .nil)) (.int 6)) (.cons (.cmp .ne (.ix (.var 0) (.int 0)) (.str [101, 110, 116, 114, 121])) .nil)))) (.cons (.ret (.bl false))
  .nil) .nil)
  (.cons (.ifs (.or (.cons (.not (.call 2 (.cons (.ix (.var 0) (.int 1)) (.cons (.int 0) (.cons (.glo "LAST_DAY") .nil))))) (.cons (.not (.call 2 (.cons (.ix (.var 0) (.int 2)) (.cons (.int 1) (.cons (.glo "MOST_HEIGHT") .nil))))) .nil))) (.cons (.ret (.bl false))
  .nil) .nil)
  (.cons (.ret (.and (.cons (.call 7 (.cons (.ix (.var 0) (.int 3)) (.cons (.ix (.var 0) (.int 4)) .nil))) (.cons (.call 8 (.cons (.ix (.var 0) (.int 5)) .nil)) .nil))))
  .nil)))

abbrev d_9 : Df := ⟨"is_entry", ["thing"], ["thing"], defArgs (top 68), defBody (top 68), defScope (top 68), a_is_entry⟩

/-- 10: _is_fact -/
def a_is_fact_u : Sms :=
  (.cons (.ifs (.or (.cons (.not (.call 4 (.cons (.ix (.var 0) (.int 1)) .nil))) (.cons (.not (.call 4 (.cons (.ix (.var 0) (.int 2)) .nil))) .nil))) (.cons (.ret (.bl false))
  .nil) .nil)
  (.cons (.ifs (.cmp .eq (.ix (.var 0) (.int 0)) (.str [101, 118, 101, 110, 116])) (.cons (.ret (.call 2 (.cons (.ix (.var 0) (.int 3)) (.cons (.glo "EARLIEST") (.cons (.glo "LAST_DAY") .nil)))))
  .nil) .nil)
  (.cons (.ifs (.and (.cons (.cmp .eq (.ix (.var 0) (.int 0)) (.str [110, 117, 109, 98, 101, 114])) (.cons (.not (.call 2 (.cons (.ix (.var 0) (.int 3)) (.cons (.int 0) (.cons (.int 999999) .nil))))) .nil))) (.cons (.ret (.bl false))
  .nil) .nil)
  (.cons (.ret (.call 6 (.cons (.ix (.var 0) (.neg (.int 2))) (.cons (.ix (.var 0) (.neg (.int 1))) .nil))))
  .nil))))

abbrev d_10 : Df := ⟨"_is_fact", ["deed"], ["deed"], defArgs (top 69), defBody (top 69), defScope (top 69), a_is_fact_u⟩

/-- 11: show_plain -/
def a_show_plain : Sms :=
  (.cons (.ifs (.cmp .is (.var 0) .non) (.cons (.ret (.str [78]))
  .nil) .nil)
  (.cons (.ifs (.cmp .is (.var 0) (.bl true)) (.cons (.ret (.str [84]))
  .nil) .nil)
  (.cons (.ifs (.cmp .is (.var 0) (.bl false)) (.cons (.ret (.str [70]))
  .nil) .nil)
  (.cons (.ifs (.isi (.var 0) "int") (.cons (.ret (.blt .str (.cons (.var 0) .nil)))
  .nil) .nil)
  (.cons (.ifs (.isi (.var 0) "str") (.cons (.asg (.name 1) (.rep3 (.var 0) 92 [92, 92] 34 [92, 34] 10 [92, 110]))
  (.cons (.ret (.bin .add (.bin .add (.str [34]) (.var 1)) (.str [34])))
  .nil)) .nil)
  (.cons (.ret (.bin .add (.bin .add (.str [40]) (.mth .join (.str [32]) (.cons (.comp false [2] (.call 11 (.cons (.var 2) .nil)) (.name 2) (.plain (.var 0)) .none) .nil))) (.str [41])))
  .nil))))))

abbrev d_11 : Df := ⟨"show_plain", ["value", "escaped", "member"], ["value"], defArgs (top 77), defBody (top 77), defScope (top 77), a_show_plain⟩

/-- 12: read_plain -/
def a_read_plain : Sms :=
  (.cons (.asg (.tup (.cons (.name 1) (.cons (.name 2) .nil))) (.call 13 (.cons (.var 0) (.cons (.int 0) (.cons (.int 0) .nil)))))
  (.cons (.ifs (.cmp .lt (.var 2) (.blt .len (.cons (.var 0) .nil))) (.cons (.rais 0 (.cons (.var 2) .nil))
  .nil) .nil)
  (.cons (.ret (.var 1))
  .nil)))

abbrev d_12 : Df := ⟨"read_plain", ["text", "value", "end"], ["text"], defArgs (top 78), defBody (top 78), defScope (top 78), a_read_plain⟩

/-- 13: _value -/
def a_value_u : Sms :=
  (.cons (.asg (.name 3) (.sl (.var 0) (.some (.var 1)) (.some (.bin .add (.var 1) (.int 1)))))
  (.cons (.ifs (.cmp .eq (.var 3) (.str [])) (.cons (.rais 0 (.cons (.var 1) .nil))
  .nil) .nil)
  (.cons (.ifs (.cmp .eq (.var 3) (.str [40])) (.cons (.ret (.call 14 (.cons (.var 0) (.cons (.var 1) (.cons (.bin .add (.var 2) (.int 1)) .nil)))))
  .nil) .nil)
  (.cons (.ifs (.cmp .eq (.var 3) (.str [34])) (.cons (.ret (.call 15 (.cons (.var 0) (.cons (.bin .add (.var 1) (.int 1)) .nil))))
  .nil) .nil)
  (.cons (.ifs (.cmp .in_ (.var 3) (.str [45, 48, 49, 50, 51, 52, 53, 54, 55, 56, 57])) (.cons (.ret (.call 18 (.cons (.var 0) (.cons (.var 1) .nil))))
  .nil) .nil)
  (.cons (.ifs (.cmp .eq (.var 3) (.str [84])) (.cons (.ret (.tup (.cons (.bl true) (.cons (.bin .add (.var 1) (.int 1)) .nil))))
  .nil) .nil)
  (.cons (.ifs (.cmp .eq (.var 3) (.str [70])) (.cons (.ret (.tup (.cons (.bl false) (.cons (.bin .add (.var 1) (.int 1)) .nil))))
  .nil) .nil)
  (.cons (.ifs (.cmp .eq (.var 3) (.str [78])) (.cons (.ret (.tup (.cons .non (.cons (.bin .add (.var 1) (.int 1)) .nil))))
  .nil) .nil)
  (.cons (.rais 0 (.cons (.var 1) .nil))
  .nil)))))))))

abbrev d_13 : Df := ⟨"_value", ["text", "at", "deep", "sign"], ["text", "at", "deep"], defArgs (top 79), defBody (top 79), defScope (top 79), a_value_u⟩

/-- 14: _members -/
def a_members_u : Sms :=
  (.cons (.ifs (.cmp .gt (.var 2) (.glo "MOST_DEEP")) (.cons (.rais 0 (.cons (.var 1) .nil))
  .nil) .nil)
  (.cons (.ifs (.cmp .eq (.sl (.var 0) (.some (.bin .add (.var 1) (.int 1))) (.some (.bin .add (.var 1) (.int 2)))) (.str [41])) (.cons (.ret (.tup (.cons (.tup .nil) (.cons (.bin .add (.var 1) (.int 2)) .nil))))
  .nil) .nil)
  (.cons (.asg (.name 3) (.new .nil))
  (.cons (.asg (.name 4) (.str [32]))
  (.cons (.whl (.cmp .eq (.var 4) (.str [32])) (.cons (.asg (.tup (.cons (.name 5) (.cons (.name 1) .nil))) (.call 13 (.cons (.var 0) (.cons (.bin .add (.var 1) (.int 1)) (.cons (.var 2) .nil)))))
  (.cons (.expr (.mth .append (.var 3) (.cons (.var 5) .nil)))
  (.cons (.asg (.name 4) (.sl (.var 0) (.some (.var 1)) (.some (.bin .add (.var 1) (.int 1)))))
  .nil))))
  (.cons (.ifs (.cmp .ne (.var 4) (.str [41])) (.cons (.rais 0 (.cons (.var 1) .nil))
  .nil) .nil)
  (.cons (.ret (.tup (.cons (.blt .tuple (.cons (.var 3) .nil)) (.cons (.bin .add (.var 1) (.int 1)) .nil))))
  .nil)))))))

abbrev d_14 : Df := ⟨"_members", ["text", "at", "deep", "members", "sign", "member"], ["text", "at", "deep"], defArgs (top 80), defBody (top 80), defScope (top 80), a_members_u⟩

/-- 15: _quoted -/
def a_quoted_u : Sms :=
  (.cons (.asg (.name 2) (.new .nil))
  (.cons (.asg (.name 3) (.call 16 (.cons (.var 0) (.cons (.var 1) .nil))))
  (.cons (.asg (.name 4) (.mth .find3 (.var 0) (.cons (.str [92]) (.cons (.var 1) (.cons (.var 3) .nil)))))
  (.cons (.whl (.cmp .ge (.var 4) (.int 0)) (.cons (.expr (.call 17 (.cons (.var 0) (.cons (.var 1) (.cons (.var 4) .nil)))))
  (.cons (.asg (.name 5) (.sl (.var 0) (.some (.bin .add (.var 4) (.int 1))) (.some (.bin .add (.var 4) (.int 2)))))
  (.cons (.ifs (.cmp .notIn (.var 5) (.tup (.cons (.str [92]) (.cons (.str [34]) (.cons (.str [110]) .nil))))) (.cons (.rais 0 (.cons (.bin .add (.var 4) (.int 1)) .nil))
  .nil) .nil)
  (.cons (.expr (.mth .append (.var 2) (.cons (.sl (.var 0) (.some (.var 1)) (.some (.var 4))) .nil)))
  (.cons (.expr (.mth .append (.var 2) (.cons (.ite (.cmp .eq (.var 5) (.str [110])) (.str [10]) (.var 5)) .nil)))
  (.cons (.asg (.name 1) (.bin .add (.var 4) (.int 2)))
  (.cons (.asg (.name 3) (.call 16 (.cons (.var 0) (.cons (.var 1) .nil))))
  (.cons (.asg (.name 4) (.mth .find3 (.var 0) (.cons (.str [92]) (.cons (.var 1) (.cons (.var 3) .nil)))))
  .nil)))))))))
  (.cons (.expr (.call 17 (.cons (.var 0) (.cons (.var 1) (.cons (.var 3) .nil)))))
  (.cons (.ifs (.cmp .eq (.var 3) (.blt .len (.cons (.var 0) .nil))) (.cons (.rais 0 (.cons (.var 3) .nil))
  .nil) .nil)
  (.cons (.expr (.mth .append (.var 2) (.cons (.sl (.var 0) (.some (.var 1)) (.some (.var 3))) .nil)))
  (.cons (.ret (.tup (.cons (.mth .join (.str []) (.cons (.var 2) .nil)) (.cons (.bin .add (.var 3) (.int 1)) .nil))))
  .nil))))))))

abbrev d_15 : Df := ⟨"_quoted", ["text", "at", "parts", "end", "slash", "sign"], ["text", "at"], defArgs (top 81), defBody (top 81), defScope (top 81), a_quoted_u⟩

/-- 16: _quote -/
def a_quote_u : Sms :=
  (.cons (.asg (.name 2) (.mth .find2 (.var 0) (.cons (.str [34]) (.cons (.var 1) .nil))))
  (.cons (.ret (.ite (.cmp .lt (.var 2) (.int 0)) (.blt .len (.cons (.var 0) .nil)) (.var 2)))
  .nil))

abbrev d_16 : Df := ⟨"_quote", ["text", "at", "found"], ["text", "at"], defArgs (top 82), defBody (top 82), defScope (top 82), a_quote_u⟩

/-- 17: _look -/
def a_look_u : Sms :=
  (.cons (.ifs (.call 3 (.cons (.sl (.var 0) (.some (.var 1)) (.some (.var 2))) .nil)) (.cons .ret0
  .nil) .nil)
  (.cons (.forr (.name 3) (.range2 (.var 1) (.var 2)) (.cons (.ifs (.not (.call 3 (.cons (.ix (.var 0) (.var 3)) .nil))) (.cons (.rais 0 (.cons (.var 3) .nil))
  .nil) .nil)
  .nil))
  .nil))

abbrev d_17 : Df := ⟨"_look", ["text", "at", "end", "place"], ["text", "at", "end"], defArgs (top 83), defBody (top 83), defScope (top 83), a_look_u⟩

/-- 18: _integer -/
def a_integer_u : Sms :=
  (.cons (.asg (.name 2) (.ite (.cmp .eq (.ix (.var 0) (.var 1)) (.str [45])) (.bin .add (.var 1) (.int 1)) (.var 1)))
  (.cons (.asg (.name 3) (.sl (.var 0) (.some (.var 2)) (.some (.bin .add (.bin .add (.var 2) (.glo "MOST_DIGITS")) (.int 1)))))
  (.cons (.asg (.name 4) (.bin .sub (.blt .len (.cons (.var 3) .nil)) (.blt .len (.cons (.mth .lstripC (.var 3) (.cons (.str [48, 49, 50, 51, 52, 53, 54, 55, 56, 57]) .nil)) .nil))))
  (.cons (.ifs (.cmp .eq (.var 4) (.int 0)) (.cons (.rais 0 (.cons (.var 2) .nil))
  .nil) .nil)
  (.cons (.ifs (.and (.cons (.cmp .eq (.ix (.var 3) (.int 0)) (.str [48])) (.cons (.cmp .gt (.var 2) (.var 1)) .nil))) (.cons (.rais 0 (.cons (.var 2) .nil))
  .nil) .nil)
  (.cons (.ifs (.and (.cons (.cmp .eq (.ix (.var 3) (.int 0)) (.str [48])) (.cons (.cmp .gt (.var 4) (.int 1)) .nil))) (.cons (.rais 0 (.cons (.bin .add (.var 2) (.int 1)) .nil))
  .nil) .nil)
  (.cons (.ifs (.cmp .gt (.var 4) (.glo "MOST_DIGITS")) (.cons (.rais 0 (.cons (.bin .add (.var 2) (.glo "MOST_DIGITS")) .nil))
  .nil) .nil)
  (.cons (.ret (.tup (.cons (.blt .int (.cons (.sl (.var 0) (.some (.var 1)) (.some (.bin .add (.var 2) (.var 4)))) .nil)) (.cons (.bin .add (.var 2) (.var 4)) .nil))))
  .nil))))))))

abbrev d_18 : Df := ⟨"_integer", ["text", "at", "start", "ahead", "many"], ["text", "at"], defArgs (top 84), defBody (top 84), defScope (top 84), a_integer_u⟩

/-- 19: is_ground -/
def a_is_ground : Sms :=
  (.cons (.ifs (.or (.cons (.not (.isi (.var 0) "tuple")) (.cons (.cmp .gt (.blt .len (.cons (.var 0) .nil)) (.glo "MOST_OFFICES")) .nil))) (.cons (.ret (.bl false))
  .nil) .nil)
  (.cons (.asg (.name 1) (.str []))
  (.cons (.forr (.name 2) (.plain (.var 0)) (.cons (.ifs (.or (.cons (.not (.isi (.var 2) "tuple")) (.cons (.cmp .ne (.blt .len (.cons (.var 2) .nil)) (.int 2)) (.cons (.not (.call 5 (.cons (.ix (.var 2) (.int 0)) .nil))) .nil)))) (.cons (.ret (.bl false))
  .nil) .nil)
  (.cons (.ifs (.or (.cons (.cmp .le (.ix (.var 2) (.int 0)) (.var 1)) (.cons (.not (.call 2 (.cons (.ix (.var 2) (.int 1)) (.cons (.int 1) (.cons (.glo "MOST_ENTRIES") .nil))))) .nil))) (.cons (.ret (.bl false))
  .nil) .nil)
  (.cons (.asg (.name 1) (.ix (.var 2) (.int 0)))
  .nil))))
  (.cons (.ret (.bl true))
  .nil))))

abbrev d_19 : Df := ⟨"is_ground", ["thing", "before", "part"], ["thing"], defArgs (top 88), defBody (top 88), defScope (top 88), a_is_ground⟩

/-- 20: journal_line -/
def a_journal_line : Sms :=
  (.cons (.asg (.name 3) (.call 11 (.cons (.var 2) .nil)))
  (.cons (.ret (.joi (.cons (.fmt (.var 0)) (.cons (.str [32]) (.cons (.fmt (.call 21 (.cons (.var 0) (.cons (.var 1) (.cons (.var 3) .nil))))) (.cons (.str [32]) (.cons (.fmt (.var 3)) (.cons (.str [10]) .nil))))))))
  .nil))

abbrev d_20 : Df := ⟨"journal_line", ["n", "before", "entry", "text"], ["n", "before", "entry"], defArgs (top 92), defBody (top 92), defScope (top 92), a_journal_line⟩

/-- 21: _line_sum -/
def a_line_sum_u : Sms :=
  (.cons (.asg (.name 3) (.blt .sum (.cons (.comp false [4, 5] (.bin .mul (.var 4) (.blt .ord (.cons (.var 5) .nil))) (.tup (.cons (.name 4) (.cons (.name 5) .nil))) (.enumS 1 (.var 2)) .none) .nil)))
  (.cons (.ret (.bin .mod (.bin .add (.bin .add (.var 1) (.var 0)) (.var 3)) (.glo "MODULUS")))
  .nil))

abbrev d_21 : Df := ⟨"_line_sum", ["n", "before", "text", "signs", "place", "sign"], ["n", "before", "text"], defArgs (top 93), defBody (top 93), defScope (top 93), a_line_sum_u⟩

/-- 22: read_journal -/
def a_read_journal : Sms :=
  (.cons (.asg (.tup (.cons (.name 1) (.cons (.name 2) (.cons (.name 3) .nil)))) (.call 23 (.cons (.var 0) .nil)))
  (.cons (.ret (.tup (.cons (.var 1) (.cons (.var 2) .nil))))
  .nil))

abbrev d_22 : Df := ⟨"read_journal", ["text", "entries", "length", "_"], ["text"], defArgs (top 94), defBody (top 94), defScope (top 94), a_read_journal⟩

/-- 23: read_lines -/
def a_read_lines : Sms :=
  (.cons (.asg (.name 1) (.new .nil))
  (.cons (.asg3 (.name 2) (.name 3) (.name 4) (.int 0))
  (.cons (.forr (.tup (.cons (.name 5) (.cons (.name 6) .nil))) (.enum (.sl (.mth .split (.var 0) (.cons (.str [10]) .nil)) .none (.some (.neg (.int 1))))) (.cons (.asg (.name 7) (.mth .splitMax (.var 6) (.cons (.str [32]) (.cons (.int 2) .nil))))
  (.cons (.ifs (.or (.cons (.cmp .ne (.blt .len (.cons (.var 7) .nil)) (.int 3)) (.cons (.cmp .ne (.ix (.var 7) (.int 0)) (.blt .str (.cons (.var 5) .nil))) .nil))) (.cons .brk
  .nil) .nil)
  (.cons (.asg (.name 8) (.call 21 (.cons (.var 5) (.cons (.var 3) (.cons (.ix (.var 7) (.int 2)) .nil)))))
  (.cons (.ifs (.cmp .ne (.ix (.var 7) (.int 1)) (.blt .str (.cons (.var 8) .nil))) (.cons .brk
  .nil) .nil)
  (.cons (.asg (.name 9) (.call 24 (.cons (.ix (.var 7) (.int 2)) (.cons (.cmp .eq (.var 5) (.int 0)) .nil))))
  (.cons (.ifs (.cmp .is (.var 9) .non) (.cons .brk
  .nil) .nil)
  (.cons (.ifs (.cmp .gt (.var 5) (.int 0)) (.cons (.ifs (.cmp .lt (.ix (.var 9) (.int 1)) (.var 4)) (.cons .brk
  .nil) .nil)
  (.cons (.asg (.name 4) (.ix (.var 9) (.int 1)))
  .nil)) .nil)
  (.cons (.expr (.mth .append (.var 1) (.cons (.var 9) .nil)))
  (.cons (.aug 2 true (.bin .add (.blt .len (.cons (.var 6) .nil)) (.int 1)))
  (.cons (.asg (.name 3) (.var 8))
  .nil)))))))))))
  (.cons (.ret (.tup (.cons (.blt .tuple (.cons (.var 1) .nil)) (.cons (.var 2) (.cons (.var 3) .nil)))))
  .nil))))

abbrev d_23 : Df := ⟨"read_lines", ["text", "entries", "length", "total", "day", "n", "line", "parts", "after", "entry"], ["text"], defArgs (top 95), defBody (top 95), defScope (top 95), a_read_lines⟩

/-- 24: _entry_of -/
def a_entry_of_u : Sms :=
  (.cons (.trys "BadPlain" none (.cons (.asg (.name 2) (.call 12 (.cons (.var 0) .nil)))
  .nil) (.cons (.ret .non)
  .nil))
  (.cons (.ifs (.or (.cons (.not (.isi (.var 2) "tuple")) (.cons (.not (.var 2)) (.cons (.not (.isi (.ix (.var 2) (.int 0)) "str")) .nil)))) (.cons (.ret .non)
  .nil) .nil)
  (.cons (.ifs (.or (.cons (.inD true (.ix (.var 2) (.int 0)) "PARTS") (.cons (.cmp .ne (.blt .len (.cons (.var 2) .nil)) (.ixD "PARTS" (.ix (.var 2) (.int 0)))) .nil))) (.cons (.ret .non)
  .nil) .nil)
  (.cons (.ifs (.cmp .ne (.var 1) (.cmp .in_ (.ix (.var 2) (.int 0)) (.tup (.cons (.str [111, 102, 102, 105, 99, 101]) (.cons (.str [115, 104, 111, 114, 116]) .nil))))) (.cons (.ret .non)
  .nil) .nil)
  (.cons (.ifs (.or (.cons (.var 1) (.cons (.and (.cons (.call 1 (.cons (.ix (.var 2) (.int 1)) .nil)) (.cons (.call 25 (.cons (.var 2) .nil)) .nil))) .nil))) (.cons (.ret (.var 2))
  .nil) .nil)
  (.cons (.ret .non)
  .nil))))))

abbrev d_24 : Df := ⟨"_entry_of", ["text", "is_first", "entry"], ["text", "is_first"], defArgs (top 96), defBody (top 96), defScope (top 96), a_entry_of_u⟩

/-- 25: _has_form -/
def a_has_form_u : Sms :=
  (.cons (.asg (.name 1) (.ix (.var 0) (.int 0)))
  (.cons (.ifs (.cmp .in_ (.var 1) (.tup (.cons (.str [109, 97, 100, 101]) (.cons (.str [104, 101, 97, 114, 100]) .nil)))) (.cons (.ret (.call 9 (.cons (.ix (.var 0) (.int 2)) .nil)))
  .nil) .nil)
  (.cons (.ifs (.cmp .eq (.var 1) (.str [116, 111, 108, 100])) (.cons (.ret (.and (.cons (.isi (.ix (.var 0) (.int 2)) "str") (.cons (.isi (.ix (.var 0) (.int 3)) "str") (.cons (.call 19 (.cons (.ix (.var 0) (.int 4)) .nil)) .nil)))))
  .nil) .nil)
  (.cons (.ifs (.cmp .eq (.var 1) (.str [114, 97, 110])) (.cons (.ret (.and (.cons (.call 27 (.cons (.ix (.var 0) (.int 2)) .nil)) (.cons (.isi (.ix (.var 0) (.int 3)) "tuple") .nil))))
  .nil) .nil)
  (.cons (.ifs (.cmp .eq (.var 1) (.str [112, 97, 105, 100])) (.cons (.ret (.and (.cons (.isi (.ix (.var 0) (.int 2)) "str") (.cons (.call 26 (.cons (.ix (.var 0) (.int 3)) .nil)) .nil))))
  .nil) .nil)
  (.cons (.ret (.and (.cons (.call 19 (.cons (.ix (.var 0) (.int 2)) .nil)) (.cons (.isi (.ix (.var 0) (.int 3)) "tuple") .nil))))
  .nil))))))

abbrev d_25 : Df := ⟨"_has_form", ["entry", "word"], ["entry"], defArgs (top 97), defBody (top 97), defScope (top 97), a_has_form_u⟩

/-- 26: _is_integer -/
def a_is_integer_u : Sms :=
  (.cons (.ret (.and (.cons (.isi (.var 0) "int") (.cons (.not (.isi (.var 0) "bool")) .nil))))
  .nil)

abbrev d_26 : Df := ⟨"_is_integer", ["thing"], ["thing"], defArgs (top 98), defBody (top 98), defScope (top 98), a_is_integer_u⟩

/-- 27: _is_pair -/
def a_is_pair_u : Sms :=
  (.cons (.ret (.and (.cons (.isi (.var 0) "tuple") (.cons (.cmp .eq (.blt .len (.cons (.var 0) .nil)) (.int 2)) (.cons (.call 26 (.cons (.ix (.var 0) (.int 0)) .nil)) (.cons (.call 26 (.cons (.ix (.var 0) (.int 1)) .nil)) .nil))))))
  .nil)

abbrev d_27 : Df := ⟨"_is_pair", ["thing"], ["thing"], defArgs (top 99), defBody (top 99), defScope (top 99), a_is_pair_u⟩

/-- 28: _law_cell -/
def a_law_cell_u : Sms :=
  (.cons (.ifs (.cmp .lt (.var 1) (.blt .len (.cons (.var 0) .nil))) (.cons (.ret (.ix (.var 0) (.var 1)))
  .nil) .nil)
  (.cons (.ret (.int 0))
  .nil))

abbrev d_28 : Df := ⟨"_law_cell", ["script", "k"], ["script", "k"], defArgs (top 101), defBody (top 101), defScope (top 101), a_law_cell_u⟩

/-- 29: _law_digits -/
def a_law_digits_u : Sms :=
  (.cons (.asg (.name 3) (.new .nil))
  (.cons (.forr (.name 4) (.range2 (.var 1) (.var 2)) (.cons (.asg (.name 5) (.call 28 (.cons (.var 0) (.cons (.var 4) .nil))))
  (.cons (.ifs (.cmp .lt (.var 5) (.int 0)) (.cons (.asg (.name 5) (.bin .sub (.int 1) (.bin .mul (.int 2) (.var 5))))
  .nil) .nil)
  (.cons (.ifs (.cmp .gt (.blt .len (.cons (.var 3) .nil)) (.int 1500)) (.cons .brk
  .nil) .nil)
  (.cons (.ifs (.cmp .ge (.var 5) (.bin .pow (.int 10) (.int 18))) (.cons (.forr (.name 6) (.range1 (.int 60)) (.cons (.ifs (.cmp .gt (.var 5) (.int 0)) (.cons (.expr (.mth .append (.var 3) (.cons (.bin .mod (.blt .int (.cons (.var 5) .nil)) (.int 1000)) .nil)))
  (.cons (.asg (.name 5) (.bin .div (.var 5) (.int 1000)))
  .nil)) .nil)
  .nil))
  .nil) (.cons (.asg (.name 7) (.bin .mod (.blt .int (.cons (.bin .add (.bin .add (.bin .mul (.var 5) (.int 48271)) (.bin .mul (.var 4) (.int 69621))) (.int 11)) .nil)) (.int 2147483647)))
  (.cons (.forr (.name 6) (.range1 (.int 12)) (.cons (.asg (.name 7) (.bin .mod (.blt .int (.cons (.bin .add (.bin .add (.bin .mul (.var 7) (.int 16807)) (.bin .mul (.int 7) (.var 6))) (.int 1)) .nil)) (.int 2147483647)))
  (.cons (.expr (.mth .append (.var 3) (.cons (.bin .mod (.blt .int (.cons (.bin .div (.var 7) (.int 997)) .nil)) (.int 1000)) .nil)))
  .nil)))
  .nil)))
  .nil)))))
  (.cons (.ret (.var 3))
  .nil)))

abbrev d_29 : Df := ⟨"_law_digits", ["script", "first", "last", "digits", "k", "cell", "turn", "seed"], ["script", "first", "last"], defArgs (top 102), defBody (top 102), defScope (top 102), a_law_digits_u⟩

/-- 30: _law_draw -/
def a_law_draw_u : Sms :=
  (.cons (.asg (.name 2) (.ix (.var 0) (.int 1)))
  (.cons (.set (.var 0) (.int 1) (.bin .add (.var 2) (.int 1)))
  (.cons (.ifs (.cmp .lt (.var 2) (.blt .len (.cons (.ix (.var 0) (.int 0)) .nil))) (.cons (.ret (.bin .mod (.blt .int (.cons (.ix (.ix (.var 0) (.int 0)) (.var 2)) .nil)) (.var 1)))
  .nil) .nil)
  (.cons (.ret (.bin .mod (.blt .int (.cons (.bin .mul (.var 2) (.int 7)) .nil)) (.var 1)))
  .nil))))

abbrev d_30 : Df := ⟨"_law_draw", ["box", "many", "at"], ["box", "many"], defArgs (top 103), defBody (top 103), defScope (top 103), a_law_draw_u⟩

/-- 31: _law_pick -/
def a_law_pick_u : Sms :=
  (.cons (.ret (.ix (.var 1) (.bin .mod (.blt .int (.cons (.call 30 (.cons (.var 0) (.cons (.int 900) .nil))) .nil)) (.blt .len (.cons (.var 1) .nil)))))
  .nil)

abbrev d_31 : Df := ⟨"_law_pick", ["box", "things"], ["box", "things"], defArgs (top 104), defBody (top 104), defScope (top 104), a_law_pick_u⟩

/-- 32: _law_like -/
def a_law_like_u : Sms :=
  (.cons (.ifs (.isi (.var 1) "tuple") (.cons (.ifs (.or (.cons (.not (.isi (.var 0) "tuple")) (.cons (.cmp .ne (.blt .len (.cons (.var 0) .nil)) (.blt .len (.cons (.var 1) .nil))) .nil))) (.cons (.ret (.bl false))
  .nil) .nil)
  (.cons (.ret (.cmp .eq (.comp false [2] (.int 1) (.name 2) (.range1 (.blt .len (.cons (.var 1) .nil))) (.some (.not (.call 32 (.cons (.ix (.var 0) (.var 2)) (.cons (.ix (.var 1) (.var 2)) .nil)))))) (.lst .nil)))
  .nil)) .nil)
  (.cons (.ifs (.cmp .is (.var 1) .non) (.cons (.ret (.cmp .is (.var 0) .non))
  .nil) .nil)
  (.cons (.ifs (.cmp .is (.var 1) (.bl true)) (.cons (.ret (.cmp .is (.var 0) (.bl true)))
  .nil) .nil)
  (.cons (.ifs (.cmp .is (.var 1) (.bl false)) (.cons (.ret (.cmp .is (.var 0) (.bl false)))
  .nil) .nil)
  (.cons (.ifs (.isi (.var 1) "str") (.cons (.ret (.and (.cons (.isi (.var 0) "str") (.cons (.cmp .eq (.mth .join (.str []) (.cons (.lst (.cons (.var 0) .nil)) .nil)) (.var 1)) .nil))))
  .nil) .nil)
  (.cons (.ret (.and (.cons (.isi (.var 0) "int") (.cons (.not (.isi (.var 0) "bool")) (.cons (.cmp .eq (.var 0) (.var 1)) .nil)))))
  .nil))))))

abbrev d_32 : Df := ⟨"_law_like", ["told", "due", "k"], ["told", "due"], defArgs (top 105), defBody (top 105), defScope (top 105), a_law_like_u⟩

/-- 33: _law_entry -/
def a_law_entry_u : Sms :=
  (.cons (.asg (.name 3) (.tup (.cons (.str [101, 110, 116, 114, 121]) (.cons (.var 2) (.cons (.bin .add (.var 1) (.int 1)) (.cons (.str [111, 97]) (.cons (.var 1) (.cons (.tup (.cons (.str [109, 97, 114, 107]) (.cons (.str [112, 97]) (.cons (.str [114, 101, 115]) (.cons (.int 0) (.cons (.bin .add (.int 5) (.call 30 (.cons (.var 0) (.cons (.int 9) .nil)))) .nil)))))) .nil))))))))
  (.cons (.asg (.name 4) (.tup (.cons (.str [111, 114, 100, 101, 114]) (.cons (.var 2) (.cons (.str [112, 97]) (.cons (.str [97, 105, 100]) (.cons (.tup (.cons (.int 2000) (.cons (.int 1) .nil))) (.cons (.int 5) .nil))))))))
  (.cons (.asg (.name 5) (.call 30 (.cons (.var 0) (.cons (.int 7) .nil))))
  (.cons (.ifs (.cmp .eq (.var 1) (.int 0)) (.cons (.ret (.ix (.lst (.cons (.tup (.cons (.str [111, 102, 102, 105, 99, 101]) (.cons (.str [111, 97]) (.cons (.tup (.cons (.str [111, 98]) .nil)) (.cons (.tup (.cons (.str [112, 97]) .nil)) (.cons (.tup (.cons (.str [97, 105, 100]) .nil)) (.cons .non (.cons (.str [108, 97, 119]) .nil)))))))) (.cons (.tup (.cons (.str [115, 104, 111, 114, 116]) (.cons (.tup (.cons (.int 1) (.cons (.tup (.cons (.str [97]) (.cons .non .nil))) .nil))) .nil))) .nil))) (.call 30 (.cons (.var 0) (.cons (.int 2) .nil)))))
  .nil) .nil)
  (.cons (.asg (.name 6) (.lst (.cons (.tup (.cons (.str [109, 97, 100, 101]) (.cons (.var 2) (.cons (.var 3) .nil)))) (.cons (.tup (.cons (.str [104, 101, 97, 114, 100]) (.cons (.var 2) (.cons (.var 3) .nil)))) (.cons (.tup (.cons (.str [116, 111, 108, 100]) (.cons (.var 2) (.cons (.str [108, 97, 119, 32, 111, 110, 32, 50, 48, 48, 48, 45, 48, 49, 45, 48, 54]) (.cons (.str [110, 111, 110, 101, 10]) (.cons (.tup (.cons (.tup (.cons (.str [111, 97]) (.cons (.int 3) .nil))) .nil)) .nil)))))) (.cons (.tup (.cons (.str [116, 111, 108, 100]) (.cons (.var 2) (.cons (.str [114, 111, 119, 32, 112, 97, 32, 97, 105, 100]) (.cons (.str []) (.cons (.tup .nil) .nil)))))) .nil))))))
  (.cons (.ret (.ix (.bin .add (.var 6) (.lst (.cons (.tup (.cons (.str [114, 97, 110]) (.cons (.var 2) (.cons (.tup (.cons (.int 2000) (.cons (.int 2) .nil))) (.cons (.tup (.cons (.var 4) .nil)) .nil))))) (.cons (.tup (.cons (.str [112, 97, 105, 100]) (.cons (.var 2) (.cons (.str [112, 97]) (.cons (.bin .add (.int 7) (.call 30 (.cons (.var 0) (.cons (.int 90) .nil)))) .nil))))) (.cons (.tup (.cons (.str [115, 101, 110, 116]) (.cons (.var 2) (.cons (.tup .nil) (.cons (.tup (.cons (.tup (.cons (.str [112, 97]) (.cons (.str [97, 105, 100]) (.cons (.tup (.cons (.tup (.cons (.int 0) (.cons (.int 5) (.cons (.str [103, 97, 112]) (.cons (.str [121, 101, 115]) .nil))))) .nil)) .nil)))) .nil)) .nil))))) .nil))))) (.var 5)))
  .nil))))))

abbrev d_33 : Df := ⟨"_law_entry", ["box", "at", "day", "entry", "row", "kind", "rows"], ["box", "at", "day"], defArgs (top 106), defBody (top 106), defScope (top 106), a_law_entry_u⟩

/-- 34: _law_wrong -/
def a_law_wrong_u : Sms :=
  (.cons (.asg (.name 3) (.tup (.cons (.str [101, 110, 116, 114, 121]) (.cons (.var 2) (.cons (.bin .add (.var 1) (.int 1)) (.cons (.str [111, 97]) (.cons (.var 1) (.cons (.tup (.cons (.str [109, 97, 114, 107]) (.cons (.str [112, 97]) (.cons (.str [114, 101, 115]) (.cons (.int 0) (.cons (.int 5) .nil)))))) .nil))))))))
  (.cons (.asg (.name 4) (.lst (.cons (.tup (.cons (.str [109, 97, 100, 101]) (.cons (.var 2) (.cons (.tup .nil) .nil)))) (.cons (.tup (.cons (.str [109, 97, 100, 101]) (.cons (.bl true) (.cons (.var 3) .nil)))) (.cons (.tup (.cons (.str [109, 97, 100, 101]) (.cons (.int 20000) (.cons (.var 3) .nil)))) (.cons (.tup (.cons (.str [104, 101, 97, 114, 100]) (.cons (.var 2) .nil))) (.cons (.tup (.cons (.str [116, 111, 108, 100]) (.cons (.var 2) (.cons (.int 5) (.cons (.str []) (.cons (.tup .nil) .nil)))))) (.cons (.tup (.cons (.str [116, 111, 108, 100]) (.cons (.var 2) (.cons (.str [97]) (.cons (.str [98]) (.cons (.tup (.cons (.tup (.cons (.int 0) (.cons (.int 1) .nil))) .nil)) .nil)))))) .nil))))))))
  (.cons (.asg (.name 4) (.bin .add (.var 4) (.lst (.cons (.tup (.cons (.str [114, 97, 110]) (.cons (.var 2) (.cons (.int 3) (.cons (.tup .nil) .nil))))) (.cons (.tup (.cons (.str [114, 97, 110]) (.cons (.var 2) (.cons (.tup (.cons (.int 2000) (.cons (.int 2) .nil))) (.cons (.int 5) .nil))))) .nil)))))
  (.cons (.asg (.name 4) (.bin .add (.var 4) (.lst (.cons (.tup (.cons (.str [112, 97, 105, 100]) (.cons (.var 2) (.cons (.int 5) (.cons (.int 7) .nil))))) (.cons (.tup (.cons (.str [112, 97, 105, 100]) (.cons (.var 2) (.cons (.str [112, 97]) (.cons (.str [55]) .nil))))) (.cons (.tup (.cons (.str [115, 101, 110, 116]) (.cons (.var 2) (.cons (.tup (.cons (.tup (.cons (.str [111, 97]) (.cons (.int 0) .nil))) .nil)) (.cons (.tup .nil) .nil))))) (.cons (.tup (.cons (.str [106, 117, 109, 112]) (.cons (.var 2) .nil))) (.cons (.tup .nil) (.cons (.int 7) (.cons (.tup (.cons (.str [111, 102, 102, 105, 99, 101]) (.cons (.str [111, 97]) (.cons (.tup .nil) (.cons (.tup .nil) (.cons (.tup .nil) (.cons .non (.cons (.str [108, 97, 119]) .nil)))))))) (.cons (.tup (.cons (.str [115, 104, 111, 114, 116]) (.cons (.int 3) .nil))) .nil)))))))))))
  (.cons (.ret (.call 31 (.cons (.var 0) (.cons (.var 4) .nil))))
  .nil)))))

abbrev d_34 : Df := ⟨"_law_wrong", ["box", "at", "day", "entry", "rows"], ["box", "at", "day"], defArgs (top 107), defBody (top 107), defScope (top 107), a_law_wrong_u⟩

/-- 35: _law_sum -/
def a_law_sum_u : Sms :=
  (.cons (.asg (.name 3) (.bin .add (.var 1) (.var 0)))
  (.cons (.forr (.name 4) (.range1 (.blt .len (.cons (.var 2) .nil))) (.cons (.asg (.name 3) (.bin .add (.var 3) (.bin .mul (.bin .add (.var 4) (.int 1)) (.blt .ord (.cons (.ix (.var 2) (.var 4)) .nil)))))
  .nil))
  (.cons (.ret (.bin .mod (.blt .int (.cons (.var 3) .nil)) (.int 99991)))
  .nil)))

abbrev d_35 : Df := ⟨"_law_sum", ["n", "before", "text", "total", "k"], ["n", "before", "text"], defArgs (top 108), defBody (top 108), defScope (top 108), a_law_sum_u⟩

/-- 36: _law_lines -/
def a_law_lines_u : Sms :=
  (.cons (.asg (.name 1) (.new .nil))
  (.cons (.asg (.name 2) (.int 0))
  (.cons (.forr (.name 3) (.range1 (.blt .len (.cons (.var 0) .nil))) (.cons (.asg (.name 4) (.call 11 (.cons (.ix (.var 0) (.var 3)) .nil)))
  (.cons (.asg (.name 2) (.call 35 (.cons (.var 3) (.cons (.var 2) (.cons (.var 4) .nil)))))
  (.cons (.expr (.mth .append (.var 1) (.cons (.bin .add (.bin .add (.bin .add (.bin .add (.blt .str (.cons (.var 3) .nil)) (.str [32])) (.blt .str (.cons (.var 2) .nil))) (.str [32])) (.var 4)) .nil)))
  .nil))))
  (.cons (.ret (.var 1))
  .nil))))

abbrev d_36 : Df := ⟨"_law_lines", ["entries", "lines", "before", "n", "text"], ["entries"], defArgs (top 109), defBody (top 109), defScope (top 109), a_law_lines_u⟩

/-- 37: _law_shifted -/
def a_law_shifted_u : Sms :=
  (.cons (.asg (.name 2) (.bin .mod (.blt .int (.cons (.call 30 (.cons (.var 0) (.cons (.int 900) .nil))) .nil)) (.blt .len (.cons (.var 1) .nil))))
  (.cons (.asg (.name 3) (.call 30 (.cons (.var 0) (.cons (.int 9) .nil))))
  (.cons (.asg (.name 4) (.mth .splitMax (.ix (.var 1) (.var 2)) (.cons (.str [32]) (.cons (.int 2) .nil))))
  (.cons (.ifs (.cmp .eq (.var 3) (.int 0)) (.cons (.asg (.name 1) (.bin .add (.sl (.var 1) .none (.some (.var 2))) (.sl (.var 1) (.some (.bin .add (.var 2) (.int 1))) .none)))
  .nil) (.cons (.ifs (.cmp .eq (.var 3) (.int 1)) (.cons (.asg (.name 1) (.bin .add (.sl (.var 1) .none (.some (.bin .add (.var 2) (.int 1)))) (.sl (.var 1) (.some (.var 2)) .none)))
  .nil) (.cons (.ifs (.and (.cons (.cmp .eq (.var 3) (.int 2)) (.cons (.cmp .lt (.bin .add (.var 2) (.int 1)) (.blt .len (.cons (.var 1) .nil))) .nil))) (.cons (.asg (.name 1) (.bin .add (.bin .add (.sl (.var 1) .none (.some (.var 2))) (.lst (.cons (.ix (.var 1) (.bin .add (.var 2) (.int 1))) (.cons (.ix (.var 1) (.var 2)) .nil)))) (.sl (.var 1) (.some (.bin .add (.var 2) (.int 2))) .none)))
  .nil) (.cons (.ifs (.cmp .eq (.var 3) (.int 3)) (.cons (.asg (.name 1) (.bin .add (.bin .add (.sl (.var 1) .none (.some (.var 2))) (.lst (.cons (.call 31 (.cons (.var 0) (.cons (.lst (.cons (.bin .add (.str [48]) (.ix (.var 1) (.var 2))) (.cons (.bin .add (.bin .add (.bin .add (.bin .add (.ix (.var 4) (.int 0)) (.str [32, 32])) (.ix (.var 4) (.int 1))) (.str [32])) (.ix (.var 4) (.int 2))) (.cons (.bin .add (.bin .add (.bin .add (.bin .add (.ix (.var 4) (.int 0)) (.str [32, 48])) (.ix (.var 4) (.int 1))) (.str [32])) (.ix (.var 4) (.int 2))) (.cons (.bin .add (.ix (.var 1) (.var 2)) (.str [32])) (.cons (.str []) .nil)))))) .nil))) .nil))) (.sl (.var 1) (.some (.bin .add (.var 2) (.int 1))) .none)))
  .nil) (.cons (.ifs (.cmp .eq (.var 3) (.int 4)) (.cons (.asg (.name 7) (.bin .mod (.blt .int (.cons (.call 30 (.cons (.var 0) (.cons (.int 900) .nil))) .nil)) (.blt .len (.cons (.ix (.var 1) (.var 2)) .nil))))
  (.cons (.asg (.name 8) (.call 31 (.cons (.var 0) (.cons (.lst (.cons (.str [48]) (.cons (.str [49]) (.cons (.str [55]) (.cons (.str [32]) (.cons (.str [112]) .nil)))))) .nil))))
  (.cons (.asg (.name 1) (.bin .add (.bin .add (.sl (.var 1) .none (.some (.var 2))) (.lst (.cons (.bin .add (.bin .add (.sl (.ix (.var 1) (.var 2)) .none (.some (.var 7))) (.var 8)) (.sl (.ix (.var 1) (.var 2)) (.some (.bin .add (.var 7) (.int 1))) .none)) .nil))) (.sl (.var 1) (.some (.bin .add (.var 2) (.int 1))) .none)))
  .nil))) .nil)
  .nil))
  .nil))
  .nil))
  .nil))
  (.cons (.asg (.name 5) (.mth .join (.str []) (.cons (.comp false [6] (.bin .add (.var 6) (.str [10])) (.name 6) (.plain (.var 1)) .none) .nil)))
  (.cons (.ifs (.cmp .eq (.var 3) (.int 5)) (.cons (.ret (.sl (.var 5) .none (.some (.bin .mod (.blt .int (.cons (.call 30 (.cons (.var 0) (.cons (.int 900) .nil))) .nil)) (.bin .add (.blt .len (.cons (.var 5) .nil)) (.int 1))))))
  .nil) .nil)
  (.cons (.ifs (.cmp .eq (.var 3) (.int 6)) (.cons (.ret (.sl (.var 5) .none (.some (.neg (.int 1)))))
  .nil) .nil)
  (.cons (.ret (.var 5))
  .nil))))))))

abbrev d_37 : Df := ⟨"_law_shifted", ["box", "lines", "at", "kind", "words", "text", "line", "place", "sign"], ["box", "lines"], defArgs (top 110), defBody (top 110), defScope (top 110), a_law_shifted_u⟩

/-- 38: _law_due -/
def a_law_due_u : Sms :=
  (.cons (.asg (.name 3) (.int 0))
  (.cons (.asg (.name 4) (.int 0))
  (.cons (.forr (.name 5) (.plain (.var 1)) (.cons (.ifs (.cmp .ne (.sl (.var 2) (.some (.var 4)) (.some (.bin .add (.bin .add (.var 4) (.blt .len (.cons (.var 5) .nil))) (.int 1)))) (.bin .add (.var 5) (.str [10]))) (.cons .brk
  .nil) .nil)
  (.cons (.asg (.name 3) (.bin .add (.var 3) (.int 1)))
  (.cons (.asg (.name 4) (.bin .add (.bin .add (.var 4) (.blt .len (.cons (.var 5) .nil))) (.int 1)))
  .nil))))
  (.cons (.ret (.tup (.cons (.blt .tuple (.cons (.sl (.var 0) .none (.some (.var 3))) .nil)) (.cons (.var 4) .nil))))
  .nil))))

abbrev d_38 : Df := ⟨"_law_due", ["entries", "lines", "text", "kept", "signs", "line"], ["entries", "lines", "text"], defArgs (top 111), defBody (top 111), defScope (top 111), a_law_due_u⟩

/-- 39: law -/
def a_law : Sms :=
  (.cons (.asg (.name 1) (.new (.cons (.call 29 (.cons (.var 0) (.cons (.int 0) (.cons (.int 63) .nil)))) (.cons (.int 0) .nil))))
  (.cons (.forr (.name 2) (.range1 (.int 4)) (.cons (.asg (.name 3) (.new .nil))
  (.cons (.asg (.name 4) (.call 30 (.cons (.var 1) (.cons (.int 9) .nil))))
  (.cons (.forr (.name 5) (.range1 (.bin .add (.int 1) (.call 30 (.cons (.var 1) (.cons (.int 7) .nil))))) (.cons (.asg (.name 4) (.bin .add (.var 4) (.call 30 (.cons (.var 1) (.cons (.int 3) .nil)))))
  (.cons (.expr (.mth .append (.var 3) (.cons (.call 33 (.cons (.var 1) (.cons (.var 5) (.cons (.var 4) .nil)))) .nil)))
  .nil)))
  (.cons (.asg (.name 6) (.call 36 (.cons (.var 3) .nil)))
  (.cons (.asg (.name 7) (.int 0))
  (.cons (.forr (.name 8) (.range1 (.blt .len (.cons (.var 3) .nil))) (.cons (.ifs (.not (.call 32 (.cons (.call 20 (.cons (.var 8) (.cons (.var 7) (.cons (.ix (.var 3) (.var 8)) .nil)))) (.cons (.bin .add (.ix (.var 6) (.var 8)) (.str [10])) .nil)))) (.cons (.ret (.bl false))
  .nil) .nil)
  (.cons (.asg (.name 7) (.blt .int (.cons (.ix (.mth .split (.ix (.var 6) (.var 8)) (.cons (.str [32]) .nil)) (.int 1)) .nil)))
  .nil)))
  (.cons (.asg (.name 9) (.call 37 (.cons (.var 1) (.cons (.var 6) .nil))))
  (.cons (.ifs (.not (.call 32 (.cons (.call 22 (.cons (.var 9) .nil)) (.cons (.call 38 (.cons (.var 3) (.cons (.var 6) (.cons (.var 9) .nil)))) .nil)))) (.cons (.ret (.bl false))
  .nil) .nil)
  (.cons (.asg (.name 10) (.bin .add (.var 3) (.lst (.cons (.call 34 (.cons (.var 1) (.cons (.blt .len (.cons (.var 3) .nil)) (.cons (.var 4) .nil)))) .nil))))
  (.cons (.ifs (.and (.cons (.cmp .eq (.call 30 (.cons (.var 1) (.cons (.int 3) .nil))) (.int 0)) (.cons (.cmp .gt (.var 4) (.int 0)) .nil))) (.cons (.asg (.name 10) (.bin .add (.var 3) (.lst (.cons (.tup (.cons (.str [112, 97, 105, 100]) (.cons (.bin .sub (.var 4) (.int 1)) (.cons (.str [112, 97]) (.cons (.int 7) .nil))))) .nil))))
  (.cons (.ifs (.cmp .eq (.blt .len (.cons (.var 3) .nil)) (.int 1)) (.cons (.asg (.name 10) (.bin .add (.var 3) (.lst (.cons (.tup (.cons (.str [112, 97, 105, 100]) (.cons (.neg (.int 1)) (.cons (.str [112, 97]) (.cons (.int 7) .nil))))) .nil))))
  .nil) .nil)
  .nil)) .nil)
  (.cons (.asg (.name 9) (.mth .join (.str []) (.cons (.comp false [11] (.bin .add (.var 11) (.str [10])) (.name 11) (.plain (.call 36 (.cons (.var 10) .nil))) .none) .nil)))
  (.cons (.ifs (.not (.call 32 (.cons (.call 22 (.cons (.var 9) .nil)) (.cons (.call 38 (.cons (.var 3) (.cons (.var 6) (.cons (.mth .join (.str []) (.cons (.comp false [11] (.bin .add (.var 11) (.str [10])) (.name 11) (.plain (.var 6)) .none) .nil)) .nil)))) .nil)))) (.cons (.ret (.bl false))
  .nil) .nil)
  (.cons (.asg (.name 9) (.bin .add (.bin .add (.ix (.call 36 (.cons (.lst (.cons (.tup (.cons (.str [115, 104, 111, 114, 116]) (.cons (.tup (.cons (.var 2) (.cons (.int 7) .nil))) .nil))) .nil)) .nil)) (.int 0)) (.str [10])) (.mth .join (.str []) (.cons (.comp false [11] (.bin .add (.var 11) (.str [10])) (.name 11) (.plain (.sl (.var 6) (.some (.int 1)) .none)) .none) .nil))))
  (.cons (.ifs (.and (.cons (.cmp .gt (.blt .len (.cons (.var 6) .nil)) (.int 1)) (.cons (.cmp .ne (.ix (.call 22 (.cons (.var 9) .nil)) (.int 1)) (.bin .add (.blt .len (.cons (.ix (.mth .split (.var 9) (.cons (.str [10]) .nil)) (.int 0)) .nil)) (.int 1))) (.cons (.cmp .ne (.ix (.mth .split (.ix (.call 36 (.cons (.lst (.cons (.tup (.cons (.str [115, 104, 111, 114, 116]) (.cons (.tup (.cons (.var 2) (.cons (.int 7) .nil))) .nil))) .nil)) .nil)) (.int 0)) (.cons (.str [32]) .nil)) (.int 1)) (.ix (.mth .split (.ix (.var 6) (.int 0)) (.cons (.str [32]) .nil)) (.int 1))) .nil)))) (.cons (.ret (.bl false))
  .nil) .nil)
  .nil)))))))))))))))
  (.cons (.ret (.bl true))
  .nil)))

abbrev d_39 : Df := ⟨"law", ["script", "box", "turn", "entries", "day", "at", "lines", "before", "n", "text", "wrong", "line"], ["script"], defArgs (top 112), defBody (top 112), defScope (top 112), a_law⟩


def defs : List Df := [d_0, d_1, d_2, d_3, d_4, d_5, d_6, d_7, d_8, d_9, d_10, d_11, d_12, d_13, d_14, d_15, d_16, d_17, d_18, d_19, d_20, d_21, d_22, d_23, d_24, d_25, d_26, d_27, d_28, d_29, d_30, d_31, d_32, d_33, d_34, d_35, d_36, d_37, d_38, d_39]
def tb (f : Nat) : Option Df := defs[f]?
def c_FIXED_cforms : List DL.D := [.str [97, 108, 108], .str [110, 111, 116], .str [97, 110, 100], .str [111, 114], .str [111, 102], .str [108, 101, 97, 115, 116], .str [112, 97, 115, 116], .str [121, 101, 97, 114, 115], .str [105, 115], .str [121, 101, 115], .str [110, 111], .str [103, 97, 112], .str [99, 108, 97, 115, 104], .str [105, 102], .str [100, 101, 102, 105, 110, 101], .str [97, 114, 116, 105, 99, 108, 101], .str [114, 97, 110, 107], .str [111, 110], .str [112, 97, 121, 115], .str [102, 108, 97, 116], .str [112, 108, 117, 115], .str [102, 114, 111, 109], .str [98, 97, 115, 101], .str [97, 116], .str [107, 110, 111, 119, 110], .str [110, 111, 110, 101]]
def T : Tb where
  dn := fun f => keys[f]?
  cn := fun x => if x = 0 then some "BadPlain" else none
  ix := []
  hn := ["BadPlain"]
  gd := ["ACTS", "FACTS", "OTHERS", "PARTS"]
def P : Par where
  fn := fun _ _ _ => .bad
  gc := fun y => if y = "EARLIEST" then some (.int (-73048)) else if y = "END" then some (.int 20000) else if y = "LAST_DAY" then some (.int 19999) else if y = "MODULUS" then some (.int 99991) else if y = "MOST_DEEP" then some (.int 20) else if y = "MOST_DIGITS" then some (.int 20) else if y = "MOST_ENTRIES" then some (.int 400) else if y = "MOST_HEIGHT" then some (.int 2000) else if y = "MOST_OFFICES" then some (.int 5) else if y = "FIXED_cforms" then some (.tup c_FIXED_cforms) else none
  fuel := 1000
  xf := fun x => if x = 0 then ["place"] else []
  mke := fun x => if x = 0 then mkD .p else fun _ => none
  exm := fun h x => if h = "BadPlain" ∧ x = 0 then some true else none
  isx := fun _ _ => none
  ex := none
  gd := fun y => if y = "ACTS" then some t_ACTS else if y = "FACTS" then some t_FACTS else if y = "OTHERS" then some t_OTHERS else if y = "PARTS" then some t_PARTS else none
theorem ok_0 : d_0.ok T = true := by decide +kernel
theorem ok_1 : d_1.ok T = true := by decide +kernel
theorem ok_2 : d_2.ok T = true := by decide +kernel
theorem ok_3 : d_3.ok T = true := by decide +kernel
theorem ok_4 : d_4.ok T = true := by decide +kernel
theorem ok_5 : d_5.ok T = true := by decide +kernel
theorem ok_6 : d_6.ok T = true := by decide +kernel
theorem ok_7 : d_7.ok T = true := by decide +kernel
theorem ok_8 : d_8.ok T = true := by decide +kernel
theorem ok_9 : d_9.ok T = true := by decide +kernel
theorem ok_10 : d_10.ok T = true := by decide +kernel
theorem ok_11 : d_11.ok T = true := by decide +kernel
theorem ok_12 : d_12.ok T = true := by decide +kernel
theorem ok_13 : d_13.ok T = true := by decide +kernel
theorem ok_14 : d_14.ok T = true := by decide +kernel
theorem ok_15 : d_15.ok T = true := by decide +kernel
theorem ok_16 : d_16.ok T = true := by decide +kernel
theorem ok_17 : d_17.ok T = true := by decide +kernel
theorem ok_18 : d_18.ok T = true := by decide +kernel
theorem ok_19 : d_19.ok T = true := by decide +kernel
theorem ok_20 : d_20.ok T = true := by decide +kernel
theorem ok_21 : d_21.ok T = true := by decide +kernel
theorem ok_22 : d_22.ok T = true := by decide +kernel
theorem ok_23 : d_23.ok T = true := by decide +kernel
theorem ok_24 : d_24.ok T = true := by decide +kernel
theorem ok_25 : d_25.ok T = true := by decide +kernel
theorem ok_26 : d_26.ok T = true := by decide +kernel
theorem ok_27 : d_27.ok T = true := by decide +kernel
theorem ok_28 : d_28.ok T = true := by decide +kernel
theorem ok_29 : d_29.ok T = true := by decide +kernel
theorem ok_30 : d_30.ok T = true := by decide +kernel
theorem ok_31 : d_31.ok T = true := by decide +kernel
theorem ok_32 : d_32.ok T = true := by decide +kernel
theorem ok_33 : d_33.ok T = true := by decide +kernel
theorem ok_34 : d_34.ok T = true := by decide +kernel
theorem ok_35 : d_35.ok T = true := by decide +kernel
theorem ok_36 : d_36.ok T = true := by decide +kernel
theorem ok_37 : d_37.ok T = true := by decide +kernel
theorem ok_38 : d_38.ok T = true := by decide +kernel
theorem ok_39 : d_39.ok T = true := by decide +kernel
end K37
set_option Elab.async false
set_option linter.all false
set_option maxRecDepth 100000
set_option maxHeartbeats 0
/-! K37H: the head of k37. -/
namespace K37
open PySem PySem.Spec PyProof.Rows L2 DL
theorem b_0 : d_0.B := fun _ _ _ _ _ _ us hl => match us, hl with | [_, _, _], _ => rfl
theorem b_1 : d_1.B := fun _ _ _ _ _ _ us hl => match us, hl with | [_], _ => rfl
theorem b_2 : d_2.B := fun _ _ _ _ _ _ us hl => match us, hl with | [_, _, _], _ => rfl
theorem b_3 : d_3.B := fun _ _ _ _ _ _ us hl => match us, hl with | [_], _ => rfl
theorem b_4 : d_4.B := fun _ _ _ _ _ _ us hl => match us, hl with | [_], _ => rfl
theorem b_5 : d_5.B := fun _ _ _ _ _ _ us hl => match us, hl with | [_], _ => rfl
theorem b_6 : d_6.B := fun _ _ _ _ _ _ us hl => match us, hl with | [_, _], _ => rfl
theorem b_7 : d_7.B := fun _ _ _ _ _ _ us hl => match us, hl with | [_, _], _ => rfl
theorem b_8 : d_8.B := fun _ _ _ _ _ _ us hl => match us, hl with | [_], _ => rfl
theorem b_9 : d_9.B := fun _ _ _ _ _ _ us hl => match us, hl with | [_], _ => rfl
theorem b_10 : d_10.B := fun _ _ _ _ _ _ us hl => match us, hl with | [_], _ => rfl
theorem b_11 : d_11.B := fun _ _ _ _ _ _ us hl => match us, hl with | [_], _ => rfl
theorem b_12 : d_12.B := fun _ _ _ _ _ _ us hl => match us, hl with | [_], _ => rfl
theorem b_13 : d_13.B := fun _ _ _ _ _ _ us hl => match us, hl with | [_, _, _], _ => rfl
theorem b_14 : d_14.B := fun _ _ _ _ _ _ us hl => match us, hl with | [_, _, _], _ => rfl
theorem b_15 : d_15.B := fun _ _ _ _ _ _ us hl => match us, hl with | [_, _], _ => rfl
theorem b_16 : d_16.B := fun _ _ _ _ _ _ us hl => match us, hl with | [_, _], _ => rfl
theorem b_17 : d_17.B := fun _ _ _ _ _ _ us hl => match us, hl with | [_, _, _], _ => rfl
theorem b_18 : d_18.B := fun _ _ _ _ _ _ us hl => match us, hl with | [_, _], _ => rfl
theorem b_19 : d_19.B := fun _ _ _ _ _ _ us hl => match us, hl with | [_], _ => rfl
theorem b_20 : d_20.B := fun _ _ _ _ _ _ us hl => match us, hl with | [_, _, _], _ => rfl
theorem b_21 : d_21.B := fun _ _ _ _ _ _ us hl => match us, hl with | [_, _, _], _ => rfl
theorem b_22 : d_22.B := fun _ _ _ _ _ _ us hl => match us, hl with | [_], _ => rfl
theorem b_23 : d_23.B := fun _ _ _ _ _ _ us hl => match us, hl with | [_], _ => rfl
theorem b_24 : d_24.B := fun _ _ _ _ _ _ us hl => match us, hl with | [_, _], _ => rfl
theorem b_25 : d_25.B := fun _ _ _ _ _ _ us hl => match us, hl with | [_], _ => rfl
theorem b_26 : d_26.B := fun _ _ _ _ _ _ us hl => match us, hl with | [_], _ => rfl
theorem b_27 : d_27.B := fun _ _ _ _ _ _ us hl => match us, hl with | [_], _ => rfl
theorem b_28 : d_28.B := fun _ _ _ _ _ _ us hl => match us, hl with | [_, _], _ => rfl
theorem b_29 : d_29.B := fun _ _ _ _ _ _ us hl => match us, hl with | [_, _, _], _ => rfl
theorem b_30 : d_30.B := fun _ _ _ _ _ _ us hl => match us, hl with | [_, _], _ => rfl
theorem b_31 : d_31.B := fun _ _ _ _ _ _ us hl => match us, hl with | [_, _], _ => rfl
theorem b_32 : d_32.B := fun _ _ _ _ _ _ us hl => match us, hl with | [_, _], _ => rfl
theorem b_33 : d_33.B := fun _ _ _ _ _ _ us hl => match us, hl with | [_, _, _], _ => rfl
theorem b_34 : d_34.B := fun _ _ _ _ _ _ us hl => match us, hl with | [_, _, _], _ => rfl
theorem b_35 : d_35.B := fun _ _ _ _ _ _ us hl => match us, hl with | [_, _, _], _ => rfl
theorem b_36 : d_36.B := fun _ _ _ _ _ _ us hl => match us, hl with | [_], _ => rfl
theorem b_37 : d_37.B := fun _ _ _ _ _ _ us hl => match us, hl with | [_, _], _ => rfl
theorem b_38 : d_38.B := fun _ _ _ _ _ _ us hl => match us, hl with | [_, _, _], _ => rfl
theorem b_39 : d_39.B := fun _ _ _ _ _ _ us hl => match us, hl with | [_], _ => rfl
theorem bs : ∀ d ∈ defs, d.B := List.forall_mem_cons.mpr ⟨b_0, List.forall_mem_cons.mpr ⟨b_1, List.forall_mem_cons.mpr ⟨b_2, List.forall_mem_cons.mpr ⟨b_3, List.forall_mem_cons.mpr ⟨b_4, List.forall_mem_cons.mpr ⟨b_5, List.forall_mem_cons.mpr ⟨b_6, List.forall_mem_cons.mpr ⟨b_7, List.forall_mem_cons.mpr ⟨b_8, List.forall_mem_cons.mpr ⟨b_9, List.forall_mem_cons.mpr ⟨b_10, List.forall_mem_cons.mpr ⟨b_11, List.forall_mem_cons.mpr ⟨b_12, List.forall_mem_cons.mpr ⟨b_13, List.forall_mem_cons.mpr ⟨b_14, List.forall_mem_cons.mpr ⟨b_15, List.forall_mem_cons.mpr ⟨b_16, List.forall_mem_cons.mpr ⟨b_17, List.forall_mem_cons.mpr ⟨b_18, List.forall_mem_cons.mpr ⟨b_19, List.forall_mem_cons.mpr ⟨b_20, List.forall_mem_cons.mpr ⟨b_21, List.forall_mem_cons.mpr ⟨b_22, List.forall_mem_cons.mpr ⟨b_23, List.forall_mem_cons.mpr ⟨b_24, List.forall_mem_cons.mpr ⟨b_25, List.forall_mem_cons.mpr ⟨b_26, List.forall_mem_cons.mpr ⟨b_27, List.forall_mem_cons.mpr ⟨b_28, List.forall_mem_cons.mpr ⟨b_29, List.forall_mem_cons.mpr ⟨b_30, List.forall_mem_cons.mpr ⟨b_31, List.forall_mem_cons.mpr ⟨b_32, List.forall_mem_cons.mpr ⟨b_33, List.forall_mem_cons.mpr ⟨b_34, List.forall_mem_cons.mpr ⟨b_35, List.forall_mem_cons.mpr ⟨b_36, List.forall_mem_cons.mpr ⟨b_37, List.forall_mem_cons.mpr ⟨b_38, List.forall_mem_cons.mpr ⟨b_39, List.forall_mem_nil _⟩⟩⟩⟩⟩⟩⟩⟩⟩⟩⟩⟩⟩⟩⟩⟩⟩⟩⟩⟩⟩⟩⟩⟩⟩⟩⟩⟩⟩⟩⟩⟩⟩⟩⟩⟩⟩⟩⟩⟩
theorem oks : ∀ d ∈ defs, d.ok T = true := List.forall_mem_cons.mpr ⟨ok_0, List.forall_mem_cons.mpr ⟨ok_1, List.forall_mem_cons.mpr ⟨ok_2, List.forall_mem_cons.mpr ⟨ok_3, List.forall_mem_cons.mpr ⟨ok_4, List.forall_mem_cons.mpr ⟨ok_5, List.forall_mem_cons.mpr ⟨ok_6, List.forall_mem_cons.mpr ⟨ok_7, List.forall_mem_cons.mpr ⟨ok_8, List.forall_mem_cons.mpr ⟨ok_9, List.forall_mem_cons.mpr ⟨ok_10, List.forall_mem_cons.mpr ⟨ok_11, List.forall_mem_cons.mpr ⟨ok_12, List.forall_mem_cons.mpr ⟨ok_13, List.forall_mem_cons.mpr ⟨ok_14, List.forall_mem_cons.mpr ⟨ok_15, List.forall_mem_cons.mpr ⟨ok_16, List.forall_mem_cons.mpr ⟨ok_17, List.forall_mem_cons.mpr ⟨ok_18, List.forall_mem_cons.mpr ⟨ok_19, List.forall_mem_cons.mpr ⟨ok_20, List.forall_mem_cons.mpr ⟨ok_21, List.forall_mem_cons.mpr ⟨ok_22, List.forall_mem_cons.mpr ⟨ok_23, List.forall_mem_cons.mpr ⟨ok_24, List.forall_mem_cons.mpr ⟨ok_25, List.forall_mem_cons.mpr ⟨ok_26, List.forall_mem_cons.mpr ⟨ok_27, List.forall_mem_cons.mpr ⟨ok_28, List.forall_mem_cons.mpr ⟨ok_29, List.forall_mem_cons.mpr ⟨ok_30, List.forall_mem_cons.mpr ⟨ok_31, List.forall_mem_cons.mpr ⟨ok_32, List.forall_mem_cons.mpr ⟨ok_33, List.forall_mem_cons.mpr ⟨ok_34, List.forall_mem_cons.mpr ⟨ok_35, List.forall_mem_cons.mpr ⟨ok_36, List.forall_mem_cons.mpr ⟨ok_37, List.forall_mem_cons.mpr ⟨ok_38, List.forall_mem_cons.mpr ⟨ok_39, List.forall_mem_nil _⟩⟩⟩⟩⟩⟩⟩⟩⟩⟩⟩⟩⟩⟩⟩⟩⟩⟩⟩⟩⟩⟩⟩⟩⟩⟩⟩⟩⟩⟩⟩⟩⟩⟩⟩⟩⟩⟩⟩⟩
theorem ibody : InitBody .p (defBody sInit) := InitBody.p rfl
theorem iscope : FnScope Ek.p.ps Ek.p.ps (defScope sInit) := C8.fnScope_by (by decide +kernel)
theorem ibind {kV doc pm : Value} {an : Option Addr} {cdv ct : Value} {us : List Value} (hl : us.length = Ek.p.ps.length) : bindArgs (PySem.W.fnOf "__init__" "BadPlain.__init__" (defArgs sInit) (defBody sInit) (defScope sInit) .none kV doc pm an cdv ct) ⟨us, []⟩ = pure (Ek.p.ps.zip us) :=
  match us, hl with | [_, _], _ => rfl
theorem dks_eq : dks = (defs.zip keys).map fun q => q.1.dk q.2 := rfl
end K37
set_option Elab.async false
set_option linter.all false
set_option maxRecDepth 100000
set_option maxHeartbeats 0
/-! K37B: the book of k37's head, and its end. -/
namespace K37
open PySem PySem.Spec PyProof.Rows L2 DL
theorem vals_of : ∀ {its : List Value} {ws : List (List Nat)}, its.map (fun v => match v with | .str x _ => some x | _ => none) = ws.map (fun w => some (strO w)) → Vals (ws.map fun w => V.str (strO w)) its
  | [], [], _ => .nil
  | [], _ :: _, h => by cases h
  | _ :: _, [], h => by cases h
  | v :: its, w :: ws, h => by
    simp only [List.map_cons, List.cons.injEq] at h
    refine .cons ?_ (vals_of h.2)
    have h1 := h.1
    split at h1
    · cases h1
      exact ⟨_, rfl⟩
    · cases h1
theorem rps_of {G : Gb} {W : Wd} {H : Hp} : ∀ ws : List (List Nat), Rps G W H (ws.map .str) (ws.map fun w => V.str (strO w))
  | [] => Rps.nil
  | w :: ws => Rps.cons mk_strO (rps_of ws)
theorem tupB_ok {G : Gb} {K : PySem.W.Frag} (hK : G.K = K) {h : Heap} {mg : Str → Option Value} (X : K.In h) (N : h.Ns mainGlobals mg) {y : Str} {ws : List (List Nat)} (e : tupB K y ws = true) : ∃ u v, mg y = some u ∧ L2.RelV v u ∧ ∀ W H, Rp G W H (.tup (ws.map .str)) v := by
  unfold tupB tupB.eqv at e
  simp only [Bool.and_eq_true, decide_eq_true_eq] at e
  obtain ⟨e1, e2⟩ := e
  refine ⟨.ref (He.ga K y), .ref (He.ga K y), PySem.W.mg_of X N e1, rfl, fun W H => ?_⟩
  split at e2
  · rename_i o ho
    simp only [Bool.and_eq_true, decide_eq_true_eq] at e2
    obtain ⟨h1, h2⟩ := e2
    split at h2
    · rename_i its n hd
      simp only [Bool.and_eq_true, decide_eq_true_eq, beq_iff_eq] at h2
      simp only [Rp]
      exact ⟨_, _, rfl, .inr ⟨o, its, n, by rw [hK]; exact ho, h1, hd, by rw [sizeLine_eq]; omega, vals_of h2.2⟩, rps_of ws⟩
    · cases h2
  · cases e2
theorem lookup_mem {s : List Nat} {i : Int} : ∀ {l : List (List Nat × Int)}, l.lookup s = some i → (s, i) ∈ l
  | [], h => by cases h
  | (a, b) :: l, h => by
    rw [List.lookup_cons] at h
    split at h
    · rename_i hb
      cases h
      rw [beq_iff_eq.mp hb]
      exact List.mem_cons_self
    · exact List.mem_cons_of_mem _ (lookup_mem h)
theorem tabB_ok {K : PySem.W.Frag} {w : World} {h : Heap} {mg : Str → Option Value} (X : K.In h) (N : h.Ns mainGlobals mg) {y : Str} {kv : List (List Nat × Int) × List (List Nat)} (e : tabB K y kv = true) (kd : ∃ es n, KDict K w (He.ga K y) es n) : DkX K w mg y kv (He.ga K y) := by
  unfold tabB at e
  simp only [Bool.and_eq_true, decide_eq_true_eq, List.all_eq_true] at e
  obtain ⟨⟨e1, e2⟩, e3⟩ := e
  refine ⟨PySem.W.mg_of X N e1, kd, fun s i hl => ?_, fun s hs => e3 s hs⟩
  have := e2 _ (lookup_mem hl)
  dsimp only at this
  split at this
  · rename_i j t hj
    rw [hj, of_decide_eq_true this]
    exact ⟨t, rfl⟩
  · cases this
def Gk (K : PySem.W.Frag) : Gb where
  K := K
  fa := fun f => (keys[f]?).map fun y => He.ga K y
  ca := fun x => if x = 0 then some (He.ga K "BadPlain") else none
  xf := fun x => if x = 0 then ["place"] else []
theorem glo_mem {y : Str} (h : y ∈ keys) : He.Fa.glo y ∈ fa := List.mem_append_left _ (List.mem_append_left _ (List.mem_map.mpr ⟨y, h, rfl⟩))
theorem free_mem {b : Str} (h : b ∈ bltNames) : He.Fa.free b ∈ fa := List.mem_append_left _ (List.mem_append_right _ (List.mem_map.mpr ⟨b, h, rfl⟩))
theorem ext_mem {f : He.Fa} (h : f ∈ [He.Fa.glo "BadPlain", .glo "LawError"] ++ ifa) : f ∈ fa := List.mem_append_right _ h
theorem same_len : defs.length = keys.length := rfl
theorem int_gc {G : Gb} {K : PySem.W.Frag} {h : Heap} {mg : Str → Option Value} (X : K.In h) (N : h.Ns mainGlobals mg) (c : He.SaysD fa fn K) {y : Str} {i : Int} (hm : He.Fa.int y i ∈ ifa) : ∃ u v, mg y = some u ∧ L2.RelV v u ∧ ∀ W H, Rp G W H (.int i) v := by
  obtain ⟨t, e⟩ := He.int_ok X N (c.facts (ext_mem (List.mem_append_right _ hm)))
  exact ⟨_, .int i, e, ⟨_, rfl⟩, fun _ _ => mk_int⟩
theorem bk {prog : Program} {w : World} {K : PySem.W.Frag} {h base : Heap} {mg : Str → Option Value} (X : K.In h) (G : h.Ns mainGlobals mg) (s : SaysX fa fn ex ts w K) : Bk tb T (Gk K) P prog w K mg base := by
  have c := s.1
  have e := s.2.1
  have gl : ∀ y ∈ keys, mg y = some (.ref (He.ga K y)) := fun y hy => He.glo_ok X G (c.facts (glo_mem hy))
  have gB : mg "BadPlain" = some (.ref (He.ga K "BadPlain")) := He.glo_ok X G (c.facts (ext_mem (List.mem_append_left _ (by simp))))
  have gL : mg "LawError" = some (.ref (He.ga K "LawError")) := He.glo_ok X G (c.facts (ext_mem (List.mem_append_left _ (by simp))))
  unfold ex at e
  simp only [Bool.and_eq_true, decide_eq_true_eq] at e
  obtain ⟨⟨⟨⟨⟨⟨⟨⟨⟨e1, e2⟩, e3⟩, e4⟩, e6⟩, e7⟩, e8⟩, e9⟩, eT⟩, eD⟩ := e
  have xf := xfB_ok e3
  obtain ⟨fdI, FI⟩ := c.defs (d := dI) (List.mem_cons_self)
  refine { eK := rfl, df := fun f a hf => ?_, dn := fun f x hf => ?_, gc := fun y d hy => ?_, gd := fun x hx => ?_, bl := fun b hb => He.free_ok X G (c.facts (free_mem hb)), xf := rfl, ix := fun ty hty => by simp [T] at hty, cl := ⟨fun x y hx => ?_, fun hh hhm => ?_, fun x C hC => ?_⟩ }
  · obtain ⟨y, hy, rfl⟩ := Option.map_eq_some_iff.mp hf
    have hlt : f < defs.length := by rw [same_len]; exact (List.getElem?_eq_some_iff.mp hy).1
    have hd : defs[f]? = some defs[f] := List.getElem?_eq_getElem hlt
    have hm : defs[f] ∈ defs := List.getElem_mem hlt
    have hz : (defs[f], y) ∈ defs.zip keys := List.mem_of_getElem? (i := f) (by rw [List.getElem?_zip_eq_some]; exact ⟨hd, hy⟩)
    obtain ⟨fd, F⟩ := c.defs (d := (defs[f]).dk y) (List.mem_cons_of_mem _ (by rw [K37.dks_eq]; exact List.mem_map.mpr ⟨_, hz, rfl⟩))
    exact ⟨defs[f], fd, hd, oks _ hm, F, FunD.bindsN F (bs _ hm)⟩
  · have hf : keys[f]? = some x := hf
    exact ⟨He.ga K x, gl x (List.mem_of_getElem? hf), by show (keys[f]?).map _ = _; rw [hf]; rfl⟩
  · have hy : (if y = "EARLIEST" then some (DL.D.int (-73048)) else if y = "END" then some (DL.D.int 20000) else if y = "LAST_DAY" then some (DL.D.int 19999) else if y = "MODULUS" then some (DL.D.int 99991) else if y = "MOST_DEEP" then some (DL.D.int 20) else if y = "MOST_DIGITS" then some (DL.D.int 20) else if y = "MOST_ENTRIES" then some (DL.D.int 400) else if y = "MOST_HEIGHT" then some (DL.D.int 2000) else if y = "MOST_OFFICES" then some (DL.D.int 5) else if y = "FIXED_cforms" then some (.tup c_FIXED_cforms) else none) = some d := hy
    by_cases z : y = "EARLIEST"
    · subst z
      rw [if_pos rfl] at hy
      cases hy
      exact int_gc X G c (by simp [ifa])
    rw [if_neg z] at hy
    by_cases z : y = "END"
    · subst z
      rw [if_pos rfl] at hy
      cases hy
      exact int_gc X G c (by simp [ifa])
    rw [if_neg z] at hy
    by_cases z : y = "LAST_DAY"
    · subst z
      rw [if_pos rfl] at hy
      cases hy
      exact int_gc X G c (by simp [ifa])
    rw [if_neg z] at hy
    by_cases z : y = "MODULUS"
    · subst z
      rw [if_pos rfl] at hy
      cases hy
      exact int_gc X G c (by simp [ifa])
    rw [if_neg z] at hy
    by_cases z : y = "MOST_DEEP"
    · subst z
      rw [if_pos rfl] at hy
      cases hy
      exact int_gc X G c (by simp [ifa])
    rw [if_neg z] at hy
    by_cases z : y = "MOST_DIGITS"
    · subst z
      rw [if_pos rfl] at hy
      cases hy
      exact int_gc X G c (by simp [ifa])
    rw [if_neg z] at hy
    by_cases z : y = "MOST_ENTRIES"
    · subst z
      rw [if_pos rfl] at hy
      cases hy
      exact int_gc X G c (by simp [ifa])
    rw [if_neg z] at hy
    by_cases z : y = "MOST_HEIGHT"
    · subst z
      rw [if_pos rfl] at hy
      cases hy
      exact int_gc X G c (by simp [ifa])
    rw [if_neg z] at hy
    by_cases z : y = "MOST_OFFICES"
    · subst z
      rw [if_pos rfl] at hy
      cases hy
      exact int_gc X G c (by simp [ifa])
    rw [if_neg z] at hy
    by_cases z : y = "FIXED_cforms"
    · subst z
      rw [if_pos rfl] at hy
      cases hy
      exact tupB_ok (G := Gk K) rfl X G eT
    rw [if_neg z] at hy
    cases hy
  · have hx : x = "ACTS" ∨ x = "FACTS" ∨ x = "OTHERS" ∨ x = "PARTS" := by simpa [T] using hx
    obtain ⟨⟨⟨d0, d1⟩, d2⟩, d3⟩ := eD
    rcases hx with rfl | rfl | rfl | rfl
    · exact ⟨t_ACTS, _, by decide +kernel, tabB_ok X G d0 (s.tab 0 rfl)⟩
    · exact ⟨t_FACTS, _, by decide +kernel, tabB_ok X G d1 (s.tab 1 rfl)⟩
    · exact ⟨t_OTHERS, _, by decide +kernel, tabB_ok X G d2 (s.tab 2 rfl)⟩
    · exact ⟨t_PARTS, _, by decide +kernel, tabB_ok X G d3 (s.tab 3 rfl)⟩
  · have hx : x = 0 ∧ y = "BadPlain" := by
      have hx : (if x = 0 then some ("BadPlain" : Str) else none) = some y := hx
      split at hx
      · cases hx
        exact ⟨by assumption, rfl⟩
      · cases hx
    obtain ⟨rfl, rfl⟩ := hx
    exact ⟨He.ga K "BadPlain", He.ma K (He.ga K "BadPlain") "__init__", fdI, .p, rfl, gB, rfl, rfl, oexB_ok e2, e7, e8, init_ok FI iscope ibody (by decide +kernel) gL (headB_ok e1), FunD.bindsN FI fun _ _ _ _ _ _ us hl => ibind hl⟩
  · have hh' : hh = "BadPlain" := by simpa [T] using hhm
    subst hh'
    refine ⟨.ref (He.ga K "BadPlain"), .inl gB, fun x C b hC hb => ?_⟩
    have hC : (if x = 0 then some (He.ga K "BadPlain") else none) = some C := hC
    split at hC
    · rename_i z
      subst z
      cases hC
      have hb' : P.exm "BadPlain" 0 = some true := by decide +kernel
      rw [hb'] at hb
      cases hb
      exact e9
    · cases hC
  · have hC : (if x = 0 then some (He.ga K "BadPlain") else none) = some C := hC
    split at hC
    · rename_i z
      subst z
      cases hC
      refine ⟨xf, excB_ok xf e4, fun n hn => ?_⟩
      have hn : n = "place" := by simpa [Gk] using hn
      subst hn
      exact e6
    · cases hC
end K37
section
open PySem PySem.W PySem.Calls PyProof.Rows
/-- the law, where the meaning tells True -/
theorem k37_of {D : Nat} (hD : D + 2 ≤ 60) (hF : ∀ ns : List Int, ns.length ≤ 63 → DL.run K37.tb K37.P D 39 [.scr ns] [] = .ok (.bl true) []) : PySem.Challenge.rw_bothdays_k37_journal_chained.Holds := by
  w_on; o_law
  refine HandSHeadRun.head_any (r := OpenLaw.row PySem.Challenge.rw_bothdays_k37_journal_chained) (q := view (OpenLaw.row PySem.Challenge.rw_bothdays_k37_journal_chained).prog [112]) (H := K37.hk) (ob := K37.ob) (M := 4000) (loose := K37.loose) (d := HandSHeadRun.topDef (OpenLaw.row PySem.Challenge.rw_bothdays_k37_journal_chained).prog 112) (kwd := []) K37.ob_eq
    (by kernel_rfl) (fun s => by kernel_rfl) K37.runs (by kernel_rfl) (by kernel_rfl) (by kernel_rfl) (by rfl) (by first | assumption | decide +kernel) (by decide +kernel) ⟨rfl, rfl, rfl, rfl, rfl, by decide +kernel⟩ ?hw ?hc
  case hw => w_witness2
  case hc =>
    refine DL.walk_dl (l := PySem.Challenge.rw_bothdays_k37_journal_chained) (n := 63) (k := D + 2) (x := "script") rfl (by decide) (by kernel_rfl) (L2.Room.mono ⟨rfl, by decide, by decide⟩ hD) ?F
    intro w mg fa h Y G hmg0
    obtain ⟨K, KX, s⟩ := Y
    have c := s.1
    have hmg : mg ("law" : PySem.Str) = some (.ref fa) := by
      have e : (HandSHeadRun.topDef (OpenLaw.row PySem.Challenge.rw_bothdays_k37_journal_chained).prog 112).name = ("law" : PySem.Str) := by kernel_rfl
      rw [← e]
      exact hmg0
    have hl : K37.d_39 ∈ K37.defs := List.mem_of_getElem? (i := 39) rfl
    have hk : ("law" : PySem.Str) ∈ K37.keys := List.mem_of_getElem? (i := 39) rfl
    have e0 : fa = He.ga K "law" := by
      have z := hmg.symm.trans (He.glo_ok KX G (c.facts (K37.glo_mem hk)))
      cases z
      rfl
    subst e0
    have hz : (K37.d_39, ("law" : PySem.Str)) ∈ K37.defs.zip K37.keys := List.mem_of_getElem? (i := 39) rfl
    obtain ⟨fd, F⟩ := c.defs (d := K37.d_39.dk "law") (List.mem_cons_of_mem _ (by rw [K37.dks_eq]; exact List.mem_map.mpr ⟨_, hz, rfl⟩))
    have b := L2.FunD.bindsA (ps := ["script"]) F (K37.b_39)
    refine ⟨K, fd, K37.Gk K, DL.run K37.tb K37.P D 39, KX, rfl, fun s v => b s [v] rfl, hF, fun base _ _ => ?_⟩
    have B := K37.bk (prog := PySem.Challenge.rw_bothdays_k37_journal_chained.prog) (w := w) (base := base) KX G s
    exact DL.run_fn B D (d := K37.d_39) rfl (K37.oks _ hl) F
end
set_option Elab.async false
set_option linter.all false
set_option maxRecDepth 100000
set_option maxHeartbeats 1000000
/-! M0: the meaning, step by step: rows for simp. -/
namespace DL
open PySem L2
section
variable {t : Tg} {b : MS} {r : DL.Loc} {S : Sto} {d : DL.D} {ds : List DL.D}
@[simp] theorem forG_nil : forG none t b [] r S = .nx r S := by simp [forG, gdOk]
@[simp] theorem forG_cons : forG none t b (d :: ds) r S = (asgS t d r S).seq fun r2 S2 => (b r2 S2).turn (forG none t b ds) := by simp [forG, gdOk]
theorem forG_nilg {i : Nat} {es : List DL.D} (h : S[i]? = some (.lst es)) : forG (some (i, es)) t b [] r S = .nx r S := by simp [forG, gdOk, h]
theorem forG_consg {i : Nat} {es : List DL.D} (h : S[i]? = some (.lst es)) : forG (some (i, es)) t b (d :: ds) r S = (asgS t d r S).seq fun r2 S2 => (b r2 S2).turn (forG (some (i, es)) t b ds) := by simp [forG, gdOk, h]
/-- a loop over an invariant: Inv i r S holds ahead of item i -/
theorem forG_inv {gd : Gd} {its : List DL.D} (Inv : Nat → DL.Loc → Sto → Prop) (h0 : Inv 0 r S) (hg : ∀ i r S, i ≤ its.length → Inv i r S → gdOk gd S)
    (hs : ∀ i r S d, its[i]? = some d → Inv i r S → ∃ r2, asg t d r = some r2 ∧ ∃ r3 S3, (b r2 S = .nx r3 S3 ∨ b r2 S = .ct r3 S3) ∧ Inv (i + 1) r3 S3) : ∃ r3 S3, forG gd t b its r S = .nx r3 S3 ∧ Inv its.length r3 S3 := by
  suffices H : ∀ (n i : Nat) (r : DL.Loc) (S : Sto), i + n = its.length → Inv i r S → ∃ r3 S3, forG gd t b (its.drop i) r S = .nx r3 S3 ∧ Inv its.length r3 S3 by
    exact H its.length 0 r S (by omega) h0
  intro n
  induction n with
  | zero =>
    intro i r S hi h
    have : i = its.length := by omega
    subst this
    rw [List.drop_length]
    refine ⟨r, S, ?_, h⟩
    have := hg _ r S (Nat.le_refl _) h
    simp [forG, this]
  | succ n ih =>
    intro i r S hi h
    have hl : i < its.length := by omega
    have hg' := hg i r S (by omega) h
    obtain ⟨r2, h1, r3, S3, h2, h3⟩ := hs i r S its[i] (by simp [hl]) h
    obtain ⟨r4, S4, h4, h5⟩ := ih (i + 1) r3 S3 (by omega) h3
    refine ⟨r4, S4, ?_, h5⟩
    rw [List.drop_eq_getElem_cons hl]
    simp only [forG, hg', if_true, asgS, h1, seq_nx]
    rcases h2 with h2 | h2
    · rw [h2, turn_nx, h4]
    · rw [h2, turn_ct, h4]
@[simp] theorem compG_nil0 {g : DL.D → Sto → Re (Option DL.D)} : compG none g [] S = .ok [] S := by simp [compG, gdOk]
@[simp] theorem compG_cons0 {g : DL.D → Sto → Re (Option DL.D)} : compG none g (d :: ds) S = (g d S).bind fun o S1 => (compG none g ds S1).bind fun r S2 => .ok (o.toList ++ r) S2 := by simp [compG, gdOk]
/-- a comprehension whose parts leave the store -/
theorem compG_map {gd : Gd} {g : DL.D → Sto → Re (Option DL.D)} {its : List DL.D} {f : DL.D → Option DL.D} (hg : gdOk gd S) (h : ∀ d ∈ its, g d S = .ok (f d) S) : compG gd g its S = .ok (its.filterMap f) S := by
  induction its with
  | nil => simp [compG, hg]
  | cons d ds ih =>
    have h1 := h d (List.mem_cons_self)
    have h2 := ih fun d hd => h d (List.mem_cons_of_mem _ hd)
    simp only [compG, hg, if_true, h1, bind_ok, h2, List.filterMap_cons]
    cases f d <;> rfl
end
@[simp] theorem quiet_ok' {α : Type} {a : α} {S : Sto} : (Re.ok a S).quiet = .ok a S := rfl
/-- a def at work: its body's end -/
theorem run_of {tb : Nat → Option Df} {P : Par} {k f : Nat} {d : Df} {ds : List DL.D} {S S2 : Sto} {e : DL.D} {x : Rs} (h : tb f = some d) (hl : ds.length = d.ps.length) (hx : semSs d.ast { P with fn := run tb P k } (startL d.N.length ds) S = x) (hf : finish S x = .ok e S2) : run tb P (k + 1) f ds S = .ok e S2 := by
  rw [run_succ h hl, hx, hf]
/-- nothing of the store changed -/
theorem okPre_refl (S : Sto) : okPre S S := ⟨Nat.le_refl _, fun _ _ _ h => .inl h⟩
theorem okPre_app (S T : Sto) : okPre S (S ++ T) := ⟨by simp, fun j o hj h => .inl (by rw [List.getElem?_append_left hj] at h; exact h)⟩
@[simp] theorem fin_ret {S : Sto} {d : DL.D} (h : thaw S.length S d = some d) : finish S (.ret d S) = .ok d S := by
  unfold finish
  simp only [h, okPre_refl, if_true]
  rw [List.take_length]
theorem fin_retT {S T : Sto} {d e : DL.D} (h : thaw S.length (S ++ T) d = some e) : finish S (.ret d (S ++ T)) = .ok e S := by
  unfold finish
  simp only [h, okPre_app, if_true]
  rw [List.take_left]
/-- a loop over an invariant, with a way out -/
theorem forG_inv2 {gd : Gd} {t : Tg} {b : MS} {r : DL.Loc} {S : Sto} {its : List DL.D} (Inv : Nat → DL.Loc → Sto → Prop) (Q : DL.Loc → Sto → Prop) (h0 : Inv 0 r S) (hg : ∀ i r S, i ≤ its.length → Inv i r S → gdOk gd S) (hq : ∀ r S, Inv its.length r S → Q r S)
    (hs : ∀ i r S d, its[i]? = some d → Inv i r S → ∃ r2, asg t d r = some r2 ∧ ∃ r3 S3, ((b r2 S = .nx r3 S3 ∨ b r2 S = .ct r3 S3) ∧ Inv (i + 1) r3 S3) ∨ (b r2 S = .brk r3 S3 ∧ Q r3 S3)) : ∃ r3 S3, forG gd t b its r S = .nx r3 S3 ∧ Q r3 S3 := by
  suffices H : ∀ (n i : Nat) (r : DL.Loc) (S : Sto), i + n = its.length → Inv i r S → ∃ r3 S3, forG gd t b (its.drop i) r S = .nx r3 S3 ∧ Q r3 S3 by
    exact H its.length 0 r S (by omega) h0
  intro n
  induction n with
  | zero =>
    intro i r S hi h
    have : i = its.length := by omega
    subst this
    rw [List.drop_length]
    refine ⟨r, S, ?_, hq r S h⟩
    have := hg _ r S (Nat.le_refl _) h
    simp [forG, this]
  | succ n ih =>
    intro i r S hi h
    have hl : i < its.length := by omega
    have hg' := hg i r S (by omega) h
    obtain ⟨r2, h1, r3, S3, h2⟩ := hs i r S its[i] (by simp [hl]) h
    rw [List.drop_eq_getElem_cons hl]
    simp only [forG, hg', if_true, asgS, h1, seq_nx]
    rcases h2 with ⟨h2, h3⟩ | ⟨h2, h3⟩
    · obtain ⟨r4, S4, h4, h5⟩ := ih (i + 1) r3 S3 (by omega) h3
      refine ⟨r4, S4, ?_, h5⟩
      rcases h2 with h2 | h2
      · rw [h2, turn_nx, h4]
      · rw [h2, turn_ct, h4]
    · rw [h2, turn_brk]
      exact ⟨r3, S3, rfl, h3⟩
mutual
theorem nr_mono {m n : Nat} (h : m ≤ n) : ∀ (d : DL.D), nr m d = true → nr n d = true
  | .non, _ => rfl
  | .bl _, _ => rfl
  | .int _, _ => rfl
  | .str _, _ => rfl
  | .tup ds, q => by simp only [nr] at q ⊢; exact nrs_mono h ds q
  | .lst ds, q => by simp only [nr] at q ⊢; exact nrs_mono h ds q
  | .ref i, q => by simp only [nr, decide_eq_true_eq] at q ⊢; omega
  | .fn _, _ => rfl
  | .scr _, _ => rfl
  | .exn _ _ _ fs, q => by simp only [nr] at q ⊢; exact nrs_mono h fs q
theorem nrs_mono {m n : Nat} (h : m ≤ n) : ∀ (ds : List DL.D), nrs m ds = true → nrs n ds = true
  | [], _ => rfl
  | d :: ds, q => by
    simp only [nrs, Bool.and_eq_true] at q ⊢
    exact ⟨nr_mono h d q.1, nrs_mono h ds q.2⟩
end
theorem nrs_all {n : Nat} {ds : List DL.D} : nrs n ds = true ↔ ∀ d ∈ ds, nr n d = true := by
  induction ds with
  | nil => simp [nrs]
  | cons d ds ih => simp [nrs, ih]
theorem thaw_pl {n : Nat} {S : Sto} {d : DL.D} (h : nr 0 d = true) : thaw n S d = some d := by
  have h2 := nr_mono (Nat.zero_le n) d h
  cases d with
  | ref i => simp [nr] at h
  | _ => simp [thaw, h2]
/-- a list of the store that a def made -/
theorem thaw_new {S : Sto} {ds : List DL.D} (h : nrs 0 ds = true) : thaw S.length (S ++ [.lst ds]) (.ref S.length) = some (.lst ds) := by
  have h2 := nrs_mono (Nat.zero_le S.length) ds h
  simp [thaw, h2]
theorem okPre_set {S : Sto} {b : Nat} {o : Ob} (h : nrO S.length o = true) : okPre S (S.set b o) := ⟨by simp, fun j u hj e => by
  by_cases z : b = j
  · subst z
    rw [List.getElem?_set_self hj] at e
    cases e
    exact .inr h
  · rw [List.getElem?_set_ne z] at e
    exact .inl e⟩
theorem fin_ret_set {S : Sto} {d : DL.D} {b : Nat} {o : Ob} (hd : nr 0 d = true) (h : nrO 0 o = true) : finish S (.ret d (S.set b o)) = .ok d (S.set b o) := by
  have h2 : nrO S.length o = true := by
    cases o with
    | lst ds => exact nrs_mono (Nat.zero_le _) ds h
    | ins c fs => exact nrs_mono (Nat.zero_le _) _ h
  unfold finish
  simp only [thaw_pl hd, okPre_set h2, if_true]
  rw [List.take_of_length_le (by simp)]
theorem fin_pl {S : Sto} {d : DL.D} (h : nr 0 d = true) : finish S (.ret d S) = .ok d S := fin_ret (thaw_pl h)
theorem fin_plT {S T : Sto} {d : DL.D} (h : nr 0 d = true) : finish S (.ret d (S ++ T)) = .ok d S := fin_retT (thaw_pl h)
@[simp] theorem at_nat {α : Type} {xs : List α} {i : Nat} : atI xs (i : Int) = xs[i]? := by
  unfold atI ixN
  by_cases h : i < xs.length
  · simp [h]
  · simp [h]
@[simp] theorem at_last {α : Type} {xs : List α} : atI xs (-1) = xs.getLast? := by
  unfold atI ixN
  cases xs with
  | nil => simp
  | cons x xs =>
    simp [List.getLast?_cons_cons, List.getLast?_eq_getElem?]
    rw [if_pos (by omega)]
    simp only [Option.bind_some]
    rw [show ((-1 : Int) + (xs.length + 1)).toNat = xs.length by omega]
    simp
theorem nrs_ints {n : Nat} (l : List Int) : nrs n (l.map DL.D.int) = true := by
  rw [nrs_all]
  intro d hd
  obtain ⟨i, _, rfl⟩ := List.mem_map.mp hd
  rfl
@[simp] theorem at_0 {α : Type} {xs : List α} : atI xs 0 = xs[0]? := at_nat (i := 0)
@[simp] theorem at_1 {α : Type} {xs : List α} : atI xs 1 = xs[1]? := at_nat (i := 1)
@[simp] theorem at_2 {α : Type} {xs : List α} : atI xs 2 = xs[2]? := at_nat (i := 2)
@[simp] theorem at_3 {α : Type} {xs : List α} : atI xs 3 = xs[3]? := at_nat (i := 3)
@[simp] theorem atS_r {S : Sto} {i : Nat} {ds : List DL.D} (h : S[i]? = some (.lst ds)) : atS S (.ref i) = some (i, ds) := atS_ref h
@[simp] theorem vw_r {S : Sto} {i : Nat} {ds : List DL.D} (h : S[i]? = some (.lst ds)) : vw S (.ref i) = .lst ds := vw_ref h
/-! ### the operations at plain values -/
def okO (o : Option DL.D) (S : Sto) : Re DL.D := match o with
  | some x => .ok x S
  | none => .bad
@[simp] theorem okO_some {x : DL.D} {S : Sto} : okO (some x) S = .ok x S := rfl
section
variable {S : Sto} {b : Nat} {ds es : List DL.D} {i j : Int} {x d : DL.D} {s t : List Nat}
@[simp] theorem fIx_tup : fIx (.tup ds) (.int i) S = okO (atI ds i) S := by unfold fIx okO; simp only [vw_tup] <;> cases atI ds i <;> rfl
@[simp] theorem fIx_lst : fIx (.lst ds) (.int i) S = okO (atI ds i) S := by unfold fIx okO; simp only [vw_lst] <;> cases atI ds i <;> rfl
@[simp] theorem fIx_scr {ns : List Int} : fIx (.scr ns) (.int i) S = okO ((atI ns i).map .int) S := by unfold fIx okO; simp only [vw_scr] <;> cases atI ns i <;> rfl
@[simp] theorem fIx_ref : fIx (.ref b) (.int i) S = (match S[b]? with
    | some (.lst ds) => okO (atI ds i) S
    | _ => .bad) := by
  cases h : S[b]? with
  | none => simp [fIx, vw, h]
  | some o => cases o with
    | lst ds => simp only [fIx, vw_ref h, okO] <;> cases atI ds i <;> rfl
    | ins c fs => simp [fIx, vw, h]
@[simp] theorem fIx_str (h : s.length ≤ 1000000) : fIx (.str s) (.int i) S = okO ((atI s i).map fun c => .str [c]) S := by unfold fIx okO; simp only [vw_str, h, if_true] <;> cases atI s i <;> rfl
@[simp] theorem fLen_tup : fLen [.tup ds] S = .ok (.int ds.length) S := rfl
@[simp] theorem fLen_lst : fLen [.lst ds] S = .ok (.int ds.length) S := rfl
@[simp] theorem fLen_scr {ns : List Int} : fLen [.scr ns] S = .ok (.int ns.length) S := rfl
@[simp] theorem fLen_ref : fLen [.ref b] S = (match S[b]? with
    | some (.lst ds) => .ok (.int ds.length) S
    | _ => .bad) := by
  cases h : S[b]? with
  | none => simp [fLen, vw, h]
  | some o => cases o with
    | lst ds => simp only [fLen, vw_ref h]
    | ins c fs => simp [fLen, vw, h]
@[simp] theorem fLen_str (h : s.length ≤ 1000000) : fLen [.str s] S = .ok (.int s.length) S := by unfold fLen; simp only [vw_str, h, if_true]
@[simp] theorem fInt_int : fInt [.int i] S = .ok (.int i) S := rfl
@[simp] theorem fInt_bl {c : Bool} : fInt [.bl c] S = .ok (.int (if c then 1 else 0)) S := rfl
@[simp] theorem fSet_ref : fSet (.ref b) (.int i) x S = (match S[b]? with
    | some (.lst ds) => (match ixN ds.length i with
      | some n => .ok .non (S.set b (.lst (ds.set n x)))
      | none => .bad)
    | _ => .bad) := by
  cases h : S[b]? with
  | none => simp [fSet, atS, h]
  | some o => cases o with
    | lst ds => simp only [fSet, atS_ref h] <;> cases ixN ds.length i <;> rfl
    | ins c fs => simp [fSet, atS, h]
@[simp] theorem fAppend_ref : fAppend (.ref b) [x] S = (match S[b]? with
    | some (.lst ds) => if ds.length < 1000000 then .ok .non (S.set b (.lst (ds ++ [x]))) else .bad
    | _ => .bad) := by
  cases h : S[b]? with
  | none => simp [fAppend, atS, h]
  | some o => cases o with
    | lst ds => simp only [fAppend, atS_ref h]
    | ins c fs => simp [fAppend, atS, h]
@[simp] theorem mtOk_ref {m : Mt} : mtOk m (.ref b) S = (match S[b]? with
    | some (.lst _) => mtT m == "list"
    | _ => false) := by
  cases h : S[b]? with
  | none => simp [mtOk, vw, h]
  | some o => cases o with
    | lst ds => simp only [mtOk, vw_ref h]
    | ins c fs => simp [mtOk, vw, h]
@[simp] theorem mtOk_str {m : Mt} : mtOk m (.str s) S = (mtT m == "str") := rfl
@[simp] theorem fAdd_int : fAdd (.int i) (.int j) S = .ok (.int (i + j)) S := rfl
@[simp] theorem fAdd_str (h : s.length + t.length ≤ 1000000) : fAdd (.str s) (.str t) S = .ok (.str (s ++ t)) S := by unfold fAdd; simp only [vw_str, h, if_true]
@[simp] theorem fAdd_tup (h : ds.length + es.length ≤ 1000000) : fAdd (.tup ds) (.tup es) S = .ok (.tup (ds ++ es)) S := by unfold fAdd; simp only [vw_tup, h, if_true]
@[simp] theorem fAdd_lst (h : ds.length + es.length ≤ 1000000) : fAdd (.lst ds) (.lst es) S = .ok (.lst (ds ++ es)) S := by unfold fAdd; simp only [vw_lst, h, if_true]
@[simp] theorem fSub_int : fSub (.int i) (.int j) S = .ok (.int (i - j)) S := rfl
theorem fMul_int (h : i.natAbs < 18446744073709551616 ∨ j.natAbs < 18446744073709551616) : fMul (.int i) (.int j) S = .ok (.int (i * j)) S := if_pos h
@[simp] theorem fMod_int (h : 0 < j) : fMod (.int i) (.int j) S = .ok (.int (i % j)) S := if_pos h
@[simp] theorem fDiv_int (h : 0 < j ∧ j < 1073741824) : fDiv (.int i) (.int j) S = .ok (.int (i / j)) S := if_pos h
@[simp] theorem fNeg_int : fNeg (.int i) S = .ok (.int (-i)) S := rfl
@[simp] theorem fLt_int : fLt (.int i) (.int j) S = .ok (.bl (decide (i < j))) S := rfl
@[simp] theorem fLe_int : fLe (.int i) (.int j) S = .ok (.bl (decide (i ≤ j))) S := rfl
@[simp] theorem fGt_int : fGt (.int i) (.int j) S = .ok (.bl (decide (j < i))) S := rfl
@[simp] theorem fGe_int : fGe (.int i) (.int j) S = .ok (.bl (decide (j ≤ i))) S := rfl
@[simp] theorem toB_bl {c : Bool} : toB (.bl c) S = .ok c S := rfl
@[simp] theorem truD_bl {c : Bool} : truD (.bl c) S = .ok c S := rfl
@[simp] theorem fIs_non : fIs d .non S = .ok (.bl (isNon d)) S := rfl
@[simp] theorem fIs_bl {c : Bool} : fIs d (.bl c) S = .ok (.bl (isBl c d)) S := rfl
@[simp] theorem fIsN_non : fIsN d .non S = .ok (.bl (!isNon d)) S := rfl
@[simp] theorem fEq_int : fEq (.int i) (.int j) S = .ok (.bl (i == j)) S := by unfold fEq; simp [okD, eqD]
@[simp] theorem fNe_int : fNe (.int i) (.int j) S = .ok (.bl (!(i == j))) S := by unfold fNe; simp [okD, eqD]
@[simp] theorem fEq_str (h : okS s = true) (h2 : okS t = true) : fEq (.str s) (.str t) S = .ok (.bl (s == t)) S := by unfold fEq; simp [okD, eqD, h, h2]
@[simp] theorem fNe_str (h : okS s = true) (h2 : okS t = true) : fNe (.str s) (.str t) S = .ok (.bl (!(s == t))) S := by unfold fNe; simp [okD, eqD, h, h2]
theorem fEq_pl {a c : DL.D} (h : okD 60 a = true) (h2 : okD 60 c = true) (ha : vw S a = a) (hc : vw S c = c) : fEq a c S = .ok (.bl (eqD a c)) S := by unfold fEq; simp [ha, hc, h, h2]
theorem fNe_pl {a c : DL.D} (h : okD 60 a = true) (h2 : okD 60 c = true) (ha : vw S a = a) (hc : vw S c = c) : fNe a c S = .ok (.bl (!eqD a c)) S := by unfold fNe; simp [ha, hc, h, h2]
end
theorem fMul_r {S : Sto} {i j : Int} (h : j.natAbs < 18446744073709551616) : fMul (.int i) (.int j) S = .ok (.int (i * j)) S := fMul_int (.inr h)
theorem fMul_l {S : Sto} {i j : Int} (h : i.natAbs < 18446744073709551616) : fMul (.int i) (.int j) S = .ok (.int (i * j)) S := fMul_int (.inl h)
@[simp] theorem get_self {S : Sto} {b : Nat} {o : Ob} (h : b < S.length) : (S.set b o)[b]? = some o := List.getElem?_set_self h
@[simp] theorem get_end {S : Sto} {o : Ob} : (S ++ [o])[S.length]? = some o := by simp
theorem ss1 {a : Sm} {b : Sms} {P : Par} {r : DL.Loc} {S : Sto} : semSs (.cons a b) P r S = (semS a P r S).seq (semSs b P) := by simp only [semSs]
theorem ss0 {P : Par} {r : DL.Loc} {S : Sto} : semSs .nil P r S = .nx r S := by simp only [semSs]
theorem ss_nx {a : Sm} {b : Sms} {P : Par} {r r2 : DL.Loc} {S S2 : Sto} {x : Rs} (h : semS a P r S = .nx r2 S2) (h2 : semSs b P r2 S2 = x) : semSs (.cons a b) P r S = x := by rw [ss1, h, seq_nx, h2]
theorem ss_ret {a : Sm} {b : Sms} {P : Par} {r : DL.Loc} {d : DL.D} {S S2 : Sto} (h : semS a P r S = .ret d S2) : semSs (.cons a b) P r S = .ret d S2 := by rw [ss1, h, seq_ret]
theorem ss_err {a : Sm} {b : Sms} {P : Par} {r : DL.Loc} {c : Nat} {fs : List DL.D} {S S2 : Sto} (h : semS a P r S = .err c fs S2) : semSs (.cons a b) P r S = .err c fs S2 := by rw [ss1, h, seq_err]
theorem ss_brk {a : Sm} {b : Sms} {P : Par} {r r2 : DL.Loc} {S S2 : Sto} (h : semS a P r S = .brk r2 S2) : semSs (.cons a b) P r S = .brk r2 S2 := by rw [ss1, h, seq_brk]
theorem ss_ct {a : Sm} {b : Sms} {P : Par} {r r2 : DL.Loc} {S S2 : Sto} (h : semS a P r S = .ct r2 S2) : semSs (.cons a b) P r S = .ct r2 S2 := by rw [ss1, h, seq_ct]
theorem s_if {c : Ex} {a b : Sms} {P : Par} {r : DL.Loc} {S S2 : Sto} {k : Bool} {x : Rs} (h : semB P c r S = .ok k S2) (h2 : (if k then semSs a P r S2 else semSs b P r S2) = x) : semS (.ifs c a b) P r S = x := by
  have e : semS (.ifs c a b) P r S = (semB P c r S).to fun k S1 => if k then semSs a P r S1 else semSs b P r S1 := by simp only [semS]
  rw [e, h, to_ok, h2]
theorem s_ret {e : Ex} {P : Par} {r : DL.Loc} {S S2 : Sto} {d : DL.D} (h : semE P e r S = .ok d S2) : semS (.ret e) P r S = .ret d S2 := by
  have e' : semS (.ret e) P r S = (semE P e r S).to fun d S1 => .ret d S1 := by simp only [semS]
  rw [e', h, to_ok]
theorem s_asg {t : Tg} {e : Ex} {P : Par} {r r2 : DL.Loc} {S S2 : Sto} {d : DL.D} (h : semE P e r S = .ok d S2) (h2 : asg t d r = some r2) : semS (.asg t e) P r S = .nx r2 S2 := by
  have e' : semS (.asg t e) P r S = (semE P e r S).to fun d S1 => asgS t d r S1 := by simp only [semS]
  rw [e', h, to_ok, asgS, h2]
theorem s_expr {e : Ex} {P : Par} {r : DL.Loc} {S S2 : Sto} {d : DL.D} (h : semE P e r S = .ok d S2) : semS (.expr e) P r S = .nx r S2 := by
  have e' : semS (.expr e) P r S = (semE P e r S).to fun _ S1 => .nx r S1 := by simp only [semS]
  rw [e', h, to_ok]
theorem s_if0 {c : Ex} {a b : Sms} {P : Par} {r : DL.Loc} {S : Sto} (k : Bool) {x : Rs} (h : semB P c r S = .ok k S) (h2 : (if k then semSs a P r S else semSs b P r S) = x) : semS (.ifs c a b) P r S = x := s_if h h2
theorem s_ret0 {e : Ex} {P : Par} {r : DL.Loc} {S : Sto} {d : DL.D} (h : semE P e r S = .ok d S) : semS (.ret e) P r S = .ret d S := s_ret h
theorem s_asg0 {t : Tg} {e : Ex} {P : Par} {r r2 : DL.Loc} {S : Sto} (d : DL.D) (h : semE P e r S = .ok d S) (h2 : asg t d r = some r2) : semS (.asg t e) P r S = .nx r2 S := s_asg h h2
theorem s_ifT {c : Ex} {a b : Sms} {P : Par} {r : DL.Loc} {S : Sto} {x : Rs} (h : semB P c r S = .ok true S) (h2 : semSs a P r S = x) : semS (.ifs c a b) P r S = x := s_if0 true h h2
theorem s_ifF {c : Ex} {a b : Sms} {P : Par} {r : DL.Loc} {S : Sto} {x : Rs} (h : semB P c r S = .ok false S) (h2 : semSs b P r S = x) : semS (.ifs c a b) P r S = x := s_if0 false h h2
theorem s_if1 {c : Ex} {a : Sms} {P : Par} {r : DL.Loc} {S : Sto} (h : semB P c r S = .ok false S) : semS (.ifs c a .nil) P r S = .nx r S := s_ifF h ss0
end DL
set_option Elab.async false
set_option linter.all false
set_option maxRecDepth 100000
set_option maxHeartbeats 1000000
/-! M1: the leaves of k25's law. -/
namespace K37
open PySem L2 DL
theorem cell_ok (k : Nat) (ns : List Int) (i : Nat) (S : Sto) : run tb P (k + 1) 28 [.scr ns, .int i] S = .ok (.int (ns.getD i 0)) S := by
  refine run_of (d := d_28) (x := .ret (.int (ns.getD i 0)) S) rfl rfl ?_ (fin_pl rfl)
  by_cases h : i < ns.length
  · simp [d_28, a_law_cell_u, semSs, semS, semB, semE, semEs, startL, biF, coF, h]
  · simp [d_28, a_law_cell_u, semSs, semS, semB, semE, semEs, startL, biF, coF, h]
theorem draw_at (k : Nat) {S : Sto} {b : Nat} {dg : List Int} {at_ : Nat} {many : Int} (hS : S[b]? = some (.lst [.lst (dg.map .int), .int at_])) (hm : 0 < many) :
    ∃ v, 0 ≤ v ∧ v < many ∧ run tb P (k + 1) 30 [.ref b, .int many] S = .ok (.int v) (S.set b (.lst [.lst (dg.map .int), .int ((at_ : Int) + 1)])) := by
  have hs : ∀ o, (S.set b o)[b]? = some o := fun o => List.getElem?_set_self (List.getElem?_eq_some_iff.mp hS).1
  refine ⟨(if at_ < dg.length then dg.getD at_ 0 else at_ * 7) % many, Int.emod_nonneg _ (by omega), Int.emod_lt_of_pos _ hm, ?_⟩
  refine run_of (d := d_30) (x := .ret (.int _) (S.set b (.lst [.lst (dg.map .int), .int ((at_ : Int) + 1)]))) rfl rfl ?_ (fin_ret_set rfl (by simp [nrO, nrs, nr, nrs_ints]))
  refine ss_nx (s_asg0 (.int at_) (by simp [startL, d_30, semE, hS]) rfl) ?_
  refine ss_nx (r2 := [some (.ref b), some (.int many), some (.int at_)]) (S2 := S.set b (.lst [.lst (dg.map .int), .int ((at_ : Int) + 1)])) (by simp [startL, d_30, semS, semE, asgS, asg, hS, ixN, boF]) ?_
  by_cases h : at_ < dg.length
  · refine ss_ret (s_ifT (by simp [semE, semB, semEs, hs, coF, biF, h]) (ss_ret (s_ret0 ?_)))
    simp [semE, semEs, boF, biF, hs, hm, h]
  · refine ss_nx (s_if1 (by simp [semE, semB, semEs, hs, coF, biF, h])) (ss_ret (s_ret0 ?_))
    have fm : ∀ S, fMul (.int at_) (.int 7) S = .ok (.int (at_ * 7)) S := fun S => fMul_r (by decide)
    simp [semE, semEs, boF, biF, fm, hm, h]
/-- the drawing box stands at b -/
def Bx (S : Sto) (b : Nat) : Prop := ∃ (dg : List Int) (at_ : Nat), S[b]? = some (.lst [.lst (dg.map .int), .int at_])
/-- S2 is S with another box at b -/
def Bs (S S2 : Sto) (b : Nat) : Prop := ∃ (dg : List Int) (at_ : Nat), S2 = S.set b (.lst [.lst (dg.map .int), .int at_])
theorem Bs.trans {S S2 S3 : Sto} {b : Nat} (h : Bs S S2 b) (h2 : Bs S2 S3 b) : Bs S S3 b := by
  obtain ⟨dg, a, rfl⟩ := h
  obtain ⟨dg2, a2, rfl⟩ := h2
  exact ⟨dg2, a2, by rw [List.set_set]⟩
theorem Bs.refl {S : Sto} {b : Nat} (h : Bx S b) : Bs S S b := by
  obtain ⟨dg, a, e⟩ := h
  obtain ⟨l, e1⟩ := List.getElem?_eq_some_iff.mp e
  exact ⟨dg, a, by rw [← e1, List.set_getElem_self]⟩
theorem Bs.bx {S S2 : Sto} {b : Nat} (h : Bs S S2 b) (hb : Bx S b) : Bx S2 b := by
  obtain ⟨dg, a, rfl⟩ := h
  obtain ⟨dg2, a2, e⟩ := hb
  exact ⟨dg, a, List.getElem?_set_self (List.getElem?_eq_some_iff.mp e).1⟩
theorem Bs.len {S S2 : Sto} {b : Nat} (h : Bs S S2 b) : S2.length = S.length := by
  obtain ⟨dg, a, rfl⟩ := h
  simp
theorem Bs.ne {S S2 : Sto} {b i : Nat} (h : Bs S S2 b) (n : i ≠ b) : S2[i]? = S[i]? := by
  obtain ⟨dg, a, rfl⟩ := h
  exact List.getElem?_set_ne (Ne.symm n)
theorem Bs.app {S S2 T : Sto} {b : Nat} (h : Bs (S ++ T) S2 b) (hb : b < S.length) : ∃ S3, S2 = S3 ++ T ∧ Bs S S3 b := by
  obtain ⟨dg, a, rfl⟩ := h
  exact ⟨_, List.set_append_left _ _ hb, dg, a, rfl⟩
theorem Bs.fin {S S2 : Sto} {b : Nat} {d : DL.D} (h : Bs S S2 b) (hd : nr 0 d = true) : finish S (.ret d S2) = .ok d S2 := by
  obtain ⟨dg, a, rfl⟩ := h
  exact fin_ret_set hd (by simp [nrO, nrs, nr, nrs_ints])
theorem draw_ok (k : Nat) {S : Sto} {b : Nat} {many : Int} (h : Bx S b) (hm : 0 < many) : ∃ v S2, 0 ≤ v ∧ v < many ∧ Bs S S2 b ∧ run tb P (k + 1) 30 [.ref b, .int many] S = .ok (.int v) S2 := by
  obtain ⟨dg, a, e⟩ := h
  obtain ⟨v, h1, h2, h3⟩ := draw_at k e hm
  exact ⟨v, _, h1, h2, ⟨dg, a + 1, by simp⟩, h3⟩
theorem pick_ok (k : Nat) {S : Sto} {b : Nat} {ds : List DL.D} (h : Bx S b) (hn : 0 < ds.length) (hp : nrs 0 ds = true) : ∃ x S2, x ∈ ds ∧ Bs S S2 b ∧ run tb P (k + 2) 31 [.ref b, .lst ds] S = .ok x S2 := by
  obtain ⟨v, S2, h1, h2, hb, hr⟩ := draw_ok k (many := 900) h (by decide)
  have hl : (0 : Int) < ds.length := by omega
  obtain ⟨n, hm, hlt⟩ : ∃ n : Nat, v % (ds.length : Int) = (n : Int) ∧ n < ds.length := by
    have a := Int.emod_nonneg v (b := (ds.length : Int)) (by omega)
    have b := Int.emod_lt_of_pos v hl
    exact ⟨(v % (ds.length : Int)).toNat, by omega, by omega⟩
  refine ⟨ds[n], S2, List.getElem_mem hlt, hb, ?_⟩
  refine run_of (d := d_31) (x := .ret _ S2) rfl rfl ?_ (hb.fin (nrs_all.mp hp _ (List.getElem_mem hlt)))
  refine ss_ret (s_ret ?_)
  simp [startL, d_31, semE, semEs, biF, boF, hr]
  rw [fMod_int hl, hm]
  simp [hlt]
end K37
set_option Elab.async false
set_option linter.all false
set_option maxRecDepth 100000
set_option maxHeartbeats 2000000
/-! M2: the digits. -/
namespace K37
open PySem L2 DL
theorem pw18 (S : Sto) : fPow (.int 10) (.int 18) S = .ok (.int 1000000000000000000) S := by simp [fPow]
theorem set_end {S : Sto} {o u : Ob} : (S ++ [o]).set S.length u = S ++ [u] := by rw [List.set_append_right _ _ (Nat.le_refl _)]; simp
/-- one more digit -/
theorem app1 {Q : Par} {r : DL.Loc} {S : Sto} {dg : List Int} {j : Nat} {e : Ex} {v : Int} (hr : r[j]? = some (some (.ref S.length))) (hl : dg.length < 100000) (he : semE Q e r (S ++ [.lst (dg.map .int)]) = .ok (.int v) (S ++ [.lst (dg.map .int)])) :
    semS (.expr (.mth .append (.var j) (.cons e .nil))) Q r (S ++ [.lst (dg.map .int)]) = .nx r (S ++ [.lst ((dg ++ [v]).map .int)]) := by
  have h1 : dg.length < 1000000 := by omega
  simp [semS, semE, semEs, hr, he, mtF, mtT, set_end, h1]
theorem turn60 {Q : Par} {S : Sto} {a0 a1 a2 a4 x6 x7 : Option DL.D} {dg : List Int} {c : Int} (hl : dg.length ≤ 60 * 63) :
    ∃ (dg2 : List Int) (c2 : Int) (x : Option DL.D), dg2.length ≤ dg.length + 60 ∧ semS (.forr (.name 6) (.range1 (.int 60)) (.cons (.ifs (.cmp .gt (.var 5) (.int 0)) (.cons (.expr (.mth .append (.var 3) (.cons (.bin .mod (.blt .int (.cons (.var 5) .nil)) (.int 1000)) .nil)))
      (.cons (.asg (.name 5) (.bin .div (.var 5) (.int 1000))) .nil)) .nil) .nil)) Q [a0, a1, a2, some (.ref S.length), a4, some (.int c), x6, x7] (S ++ [.lst (dg.map .int)])
      = .nx [a0, a1, a2, some (.ref S.length), a4, some (.int c2), x, x7] (S ++ [.lst (dg2.map .int)]) := by
  have key := forG_inv (gd := none) (t := .name 6) (its := rangeD 0 60) (b := semSs (.cons (.ifs (.cmp .gt (.var 5) (.int 0)) (.cons (.expr (.mth .append (.var 3) (.cons (.bin .mod (.blt .int (.cons (.var 5) .nil)) (.int 1000)) .nil)))
      (.cons (.asg (.name 5) (.bin .div (.var 5) (.int 1000))) .nil)) .nil) .nil) Q) (r := [a0, a1, a2, some (.ref S.length), a4, some (.int c), x6, x7]) (S := S ++ [.lst (dg.map .int)])
    (fun i r S' => ∃ (dg2 : List Int) (c2 : Int) (x : Option DL.D), dg2.length ≤ dg.length + i ∧ r = [a0, a1, a2, some (.ref S.length), a4, some (.int c2), x, x7] ∧ S' = S ++ [.lst (dg2.map .int)]) ⟨dg, c, x6, by omega, rfl, rfl⟩ (fun _ _ _ _ _ => trivial) ?_
  · obtain ⟨r3, S3, e, dg2, c2, x, h1, rfl, rfl⟩ := key
    refine ⟨dg2, c2, x, by rw [rangeD_length] at h1; exact h1, ?_⟩
    rw [← e]
    simp [semS, semI, semE]
  · rintro i r S' d hd ⟨dg2, c2, x, h1, rfl, rfl⟩
    have hi : i < 60 := by
      have := (List.getElem?_eq_some_iff.mp hd).1
      rw [rangeD_length] at this
      exact this
    refine ⟨_, rfl, ?_⟩
    by_cases hc : 0 < c2
    · refine ⟨_, S ++ [.lst ((dg2 ++ [c2 % 1000]).map .int)], .inl (ss_nx (s_ifT (by simp [semE, semB, coF, hc]) (ss_nx (app1 (v := c2 % 1000) rfl (by omega) (by simp [semE, semEs, biF, boF])) (ss_nx (s_asg0 (.int (c2 / 1000)) (by simp [semE, boF]) rfl) ss0))) ss0), dg2 ++ [c2 % 1000], c2 / 1000, some d, by simp; omega, rfl, rfl⟩
    · exact ⟨_, _, .inl (ss_nx (s_if1 (by simp [semE, semB, coF, hc])) ss0), dg2, c2, some d, by omega, rfl, rfl⟩
theorem range_item {n i : Nat} {d : DL.D} (h : (rangeD 0 n)[i]? = some d) : i < n ∧ d = .int (i : Nat) := by
  have hi : i < n := by
    have := (List.getElem?_eq_some_iff.mp h).1
    rw [rangeD_length] at this
    exact this
  rw [rangeD_get n 0 i hi] at h
  cases h
  exact ⟨hi, by simp⟩
theorem turn12 {Q : Par} {S : Sto} {a0 a1 a2 a4 a5 x6 : Option DL.D} {dg : List Int} {sd : Int} (hl : dg.length ≤ 60 * 63) :
    ∃ (dg2 : List Int) (c2 : Int) (x : Option DL.D), dg2.length ≤ dg.length + 12 ∧ semS (.forr (.name 6) (.range1 (.int 12)) (.cons (.asg (.name 7) (.bin .mod (.blt .int (.cons (.bin .add (.bin .add (.bin .mul (.var 7) (.int 16807)) (.bin .mul (.int 7) (.var 6))) (.int 1)) .nil)) (.int 2147483647)))
  (.cons (.expr (.mth .append (.var 3) (.cons (.bin .mod (.blt .int (.cons (.bin .div (.var 7) (.int 997)) .nil)) (.int 1000)) .nil))) .nil))) Q [a0, a1, a2, some (.ref S.length), a4, a5, x6, some (.int sd)] (S ++ [.lst (dg.map .int)])
      = .nx [a0, a1, a2, some (.ref S.length), a4, a5, x, some (.int c2)] (S ++ [.lst (dg2.map .int)]) := by
  have key := forG_inv (gd := none) (t := .name 6) (its := rangeD 0 12) (b := semSs (.cons (.asg (.name 7) (.bin .mod (.blt .int (.cons (.bin .add (.bin .add (.bin .mul (.var 7) (.int 16807)) (.bin .mul (.int 7) (.var 6))) (.int 1)) .nil)) (.int 2147483647)))
  (.cons (.expr (.mth .append (.var 3) (.cons (.bin .mod (.blt .int (.cons (.bin .div (.var 7) (.int 997)) .nil)) (.int 1000)) .nil))) .nil)) Q) (r := [a0, a1, a2, some (.ref S.length), a4, a5, x6, some (.int sd)]) (S := S ++ [.lst (dg.map .int)])
    (fun i r S' => ∃ (dg2 : List Int) (c2 : Int) (x : Option DL.D), dg2.length ≤ dg.length + i ∧ r = [a0, a1, a2, some (.ref S.length), a4, a5, x, some (.int c2)] ∧ S' = S ++ [.lst (dg2.map .int)]) ⟨dg, sd, x6, by omega, rfl, rfl⟩ (fun _ _ _ _ _ => trivial) ?_
  · obtain ⟨r3, S3, e, dg2, c2, x, h1, rfl, rfl⟩ := key
    refine ⟨dg2, c2, x, by rw [rangeD_length] at h1; exact h1, ?_⟩
    rw [← e]
    simp [semS, semI, semE]
  · rintro i r S' d hd ⟨dg2, c2, x, h1, rfl, rfl⟩
    obtain ⟨hi, rfl⟩ := range_item hd
    refine ⟨_, rfl, ?_⟩
    have f1 : ∀ S, fMul (.int c2) (.int 16807) S = .ok (.int (c2 * 16807)) S := fun S => fMul_r (by decide)
    have f2 : ∀ S, fMul (.int 7) (.int (i : Nat)) S = .ok (.int (7 * (i : Nat))) S := fun S => fMul_l (by decide)
    refine ⟨_, S ++ [.lst ((dg2 ++ [(c2 * 16807 + 7 * (i : Nat) + 1) % 2147483647 / 997 % 1000]).map .int)], .inl (ss_nx (s_asg0 (.int ((c2 * 16807 + 7 * (i : Nat) + 1) % 2147483647)) (by simp [semE, semEs, biF, boF, f1, f2]) rfl) (ss_nx (app1 (v := (c2 * 16807 + 7 * (i : Nat) + 1) % 2147483647 / 997 % 1000) rfl (by omega) (by simp [semE, semEs, biF, boF])) ss0)), _, _, some (.int (i : Nat)), by rw [List.length_append, List.length_singleton]; omega, rfl, rfl⟩
theorem digits_ok (k : Nat) (ns : List Int) (S : Sto) : ∃ dg : List Int, run tb P (k + 2) 29 [.scr ns, .int 0, .int 63] S = .ok (.lst (dg.map .int)) S := by
  have key := forG_inv2 (gd := none) (t := .name 4) (its := rangeD 0 63) (r := [some (.scr ns), some (.int 0), some (.int 63), some (.ref S.length), none, none, none, none]) (S := S ++ [.lst []])
    (b := semSs (match a_law_digits_u with
      | .cons _ (.cons (.forr _ _ b) _) => b
      | _ => .nil) { P with fn := run tb P (k + 1) })
    (fun i r S' => ∃ (dg : List Int) (x4 x5 x6 x7 : Option DL.D), dg.length ≤ 60 * i ∧ r = [some (.scr ns), some (.int 0), some (.int 63), some (.ref S.length), x4, x5, x6, x7] ∧ S' = S ++ [.lst (dg.map .int)])
    (fun r S' => ∃ (dg : List Int) (x4 x5 x6 x7 : Option DL.D), r = [some (.scr ns), some (.int 0), some (.int 63), some (.ref S.length), x4, x5, x6, x7] ∧ S' = S ++ [.lst (dg.map .int)])
    ⟨[], none, none, none, none, by simp, rfl, rfl⟩ (fun _ _ _ _ _ => trivial) (fun r S' ⟨dg, x4, x5, x6, x7, h1, h2, h3⟩ => ⟨dg, x4, x5, x6, x7, h2, h3⟩) ?_
  · obtain ⟨r3, S3, e, dg, x4, x5, x6, x7, rfl, rfl⟩ := key
    refine ⟨dg, ?_⟩
    refine run_of (d := d_29) (x := .ret (.ref S.length) (S ++ [.lst (dg.map .int)])) rfl rfl ?_ (fin_retT (thaw_new (nrs_ints dg)))
    refine ss_nx (s_asg (d := .ref S.length) (S2 := S ++ [.lst []]) (by simp [semE, semEs]) rfl) ?_
    refine ss_nx (r2 := _) (S2 := _) (Eq.trans ?_ e) (ss_ret (s_ret0 (by simp [semE])))
    simp [semS, semI, semE, startL, d_29]
    rfl
  · rintro i r S' d hd ⟨dg, x4, x5, x6, x7, h1, rfl, rfl⟩
    obtain ⟨hi, rfl⟩ := range_item hd
    refine ⟨_, rfl, ?_⟩
    have hc : ∀ S, run tb P (k + 1) 28 [.scr ns, .int (i : Nat)] S = .ok (.int (ns.getD i 0)) S := fun S => cell_ok k ns i S
    generalize ns.getD i 0 = c at hc
    have f0 : ∀ S c, fMul (.int 2) (.int c) S = .ok (.int (2 * c)) S := fun S c => fMul_l (by decide)
    have f1 : ∀ S c, fMul (.int c) (.int 48271) S = .ok (.int (c * 48271)) S := fun S c => fMul_r (by decide)
    have f2 : ∀ S c, fMul (.int c) (.int 69621) S = .ok (.int (c * 69621)) S := fun S c => fMul_r (by decide)
    have step : ∀ c : Int, ∃ r3 S3, ((semSs (match a_law_digits_u with
        | .cons _ (.cons (.forr _ _ (.cons _ (.cons _ b))) _) => b
        | _ => .nil) { P with fn := run tb P (k + 1) } [some (.scr ns), some (.int 0), some (.int 63), some (.ref S.length), some (.int (i : Nat)), some (.int c), x6, x7] (S ++ [.lst (dg.map .int)]) = .nx r3 S3) ∧
          ∃ (dg : List Int) (x4 x5 x6 x7 : Option DL.D), dg.length ≤ 60 * (i + 1) ∧ r3 = [some (.scr ns), some (.int 0), some (.int 63), some (.ref S.length), x4, x5, x6, x7] ∧ S3 = S ++ [.lst (dg.map .int)]) ∨
        (semSs (match a_law_digits_u with
        | .cons _ (.cons (.forr _ _ (.cons _ (.cons _ b))) _) => b
        | _ => .nil) { P with fn := run tb P (k + 1) } [some (.scr ns), some (.int 0), some (.int 63), some (.ref S.length), some (.int (i : Nat)), some (.int c), x6, x7] (S ++ [.lst (dg.map .int)]) = .brk r3 S3 ∧
          ∃ (dg : List Int) (x4 x5 x6 x7 : Option DL.D), r3 = [some (.scr ns), some (.int 0), some (.int 63), some (.ref S.length), x4, x5, x6, x7] ∧ S3 = S ++ [.lst (dg.map .int)]) := by
      intro c
      by_cases hb : (1500 : Int) < dg.length
      · exact ⟨_, _, .inr ⟨ss_brk (s_ifT (by simp [semE, semB, semEs, coF, biF, hb]) (ss_brk (by simp only [semS]))), dg, some (.int (i : Nat)), some (.int c), x6, x7, rfl, rfl⟩⟩
      · by_cases hc2 : (1000000000000000000 : Int) ≤ c
        · obtain ⟨dg2, c2, x, h2, e2⟩ := turn60 (Q := { P with fn := run tb P (k + 1) }) (S := S) (a0 := some (.scr ns)) (a1 := some (.int 0)) (a2 := some (.int 63)) (a4 := some (.int (i : Nat))) (x6 := x6) (x7 := x7) (dg := dg) (c := c) (by omega)
          exact ⟨_, _, .inl ⟨ss_nx (s_if1 (by simp [semE, semB, semEs, coF, biF, hb])) (ss_nx (s_ifT (by simp [semE, semB, coF, boF, pw18, hc2]) (ss_nx e2 ss0)) ss0), dg2, _, _, _, _, by omega, rfl, rfl⟩⟩
        · obtain ⟨dg2, c2, x, h2, e2⟩ := turn12 (Q := { P with fn := run tb P (k + 1) }) (S := S) (a0 := some (.scr ns)) (a1 := some (.int 0)) (a2 := some (.int 63)) (a4 := some (.int (i : Nat))) (a5 := some (.int c)) (x6 := x6) (sd := (c * 48271 + (i : Nat) * 69621 + 11) % 2147483647) (dg := dg) (by omega)
          exact ⟨_, _, .inl ⟨ss_nx (s_if1 (by simp [semE, semB, semEs, coF, biF, hb])) (ss_nx (s_ifF (by simp [semE, semB, coF, boF, pw18, hc2]) (ss_nx (s_asg0 (.int ((c * 48271 + (i : Nat) * 69621 + 11) % 2147483647)) (by simp [semE, semEs, biF, boF, f1, f2]) rfl) (ss_nx e2 ss0))) ss0), dg2, _, _, _, _, by omega, rfl, rfl⟩⟩
    by_cases hn : c < 0
    · obtain ⟨r3, S3, h⟩ := step (1 - 2 * c)
      refine ⟨r3, S3, ?_⟩
      have e1 : ∀ x, semSs (match a_law_digits_u with
        | .cons _ (.cons (.forr _ _ (.cons _ (.cons _ b))) _) => b
        | _ => .nil) { P with fn := run tb P (k + 1) } [some (.scr ns), some (.int 0), some (.int 63), some (.ref S.length), some (.int (i : Nat)), some (.int (1 - 2 * c)), x6, x7] (S ++ [.lst (dg.map .int)]) = x → semSs (match a_law_digits_u with
        | .cons _ (.cons (.forr _ _ b) _) => b
        | _ => .nil) { P with fn := run tb P (k + 1) } [some (.scr ns), some (.int 0), some (.int 63), some (.ref S.length), some (.int (i : Nat)), x5, x6, x7] (S ++ [.lst (dg.map .int)]) = x := fun x hx =>
          ss_nx (s_asg0 (.int c) (by simp [semE, semEs, hc]) rfl) (ss_nx (s_ifT (by simp [semE, semB, coF, hn]) (ss_nx (s_asg0 (.int (1 - 2 * c)) (by simp [semE, boF, f0]) rfl) ss0)) hx)
      rcases h with ⟨h1, h2⟩ | ⟨h1, h2⟩
      · exact .inl ⟨.inl (e1 _ h1), h2⟩
      · exact .inr ⟨e1 _ h1, h2⟩
    · obtain ⟨r3, S3, h⟩ := step c
      refine ⟨r3, S3, ?_⟩
      have e1 : ∀ x, semSs (match a_law_digits_u with
        | .cons _ (.cons (.forr _ _ (.cons _ (.cons _ b))) _) => b
        | _ => .nil) { P with fn := run tb P (k + 1) } [some (.scr ns), some (.int 0), some (.int 63), some (.ref S.length), some (.int (i : Nat)), some (.int c), x6, x7] (S ++ [.lst (dg.map .int)]) = x → semSs (match a_law_digits_u with
        | .cons _ (.cons (.forr _ _ b) _) => b
        | _ => .nil) { P with fn := run tb P (k + 1) } [some (.scr ns), some (.int 0), some (.int 63), some (.ref S.length), some (.int (i : Nat)), x5, x6, x7] (S ++ [.lst (dg.map .int)]) = x := fun x hx =>
          ss_nx (s_asg0 (.int c) (by simp [semE, semEs, hc]) rfl) (ss_nx (s_if1 (by simp [semE, semB, coF, hn])) hx)
      rcases h with ⟨h1, h2⟩ | ⟨h1, h2⟩
      · exact .inl ⟨.inl (e1 _ h1), h2⟩
      · exact .inr ⟨e1 _ h1, h2⟩
end K37
set_option Elab.async false
set_option linter.all false
set_option maxRecDepth 100000
set_option maxHeartbeats 2000000
/-! M3: a value is like itself. -/
namespace K37
open PySem L2 DL
mutual
/-- data n deep: ints, texts, truths, None, tuples -/
def pln : Nat → DL.D → Bool
  | _, .non => true
  | _, .bl _ => true
  | _, .int _ => true
  | _, .str s => decide (s.length ≤ 1000000) && okS s
  | n + 1, .tup ds => decide (ds.length ≤ 1000000) && plns n ds
  | _, _ => false
def plns : Nat → List DL.D → Bool
  | _, [] => true
  | n, d :: ds => pln n d && plns n ds
end
theorem plns_all {n : Nat} {ds : List DL.D} : plns n ds = true ↔ ∀ d ∈ ds, pln n d = true := by
  induction ds with
  | nil => simp [plns]
  | cons d ds ih => simp [plns, ih]
theorem isi_tup {T : String} (h : T ∈ tys) {ds : List DL.D} {S : Sto} : fIsi T (.tup ds) S = .ok (.bl (isT "tuple" T)) S := by simp [fIsi, tyD, h]
theorem isi_int {T : String} (h : T ∈ tys) {i : Int} {S : Sto} : fIsi T (.int i) S = .ok (.bl (isT "int" T)) S := by simp [fIsi, tyD, h]
theorem isi_str {T : String} (h : T ∈ tys) {s : List Nat} {S : Sto} : fIsi T (.str s) S = .ok (.bl (isT "str" T)) S := by simp [fIsi, tyD, h]
theorem isi_lst {T : String} (h : T ∈ tys) {ds : List DL.D} {S : Sto} : fIsi T (.lst ds) S = .ok (.bl (isT "list" T)) S := by simp [fIsi, tyD, h]
theorem isi_non {T : String} (h : T ∈ tys) {S : Sto} : fIsi T .non S = .ok (.bl (isT "NoneType" T)) S := by simp [fIsi, tyD, h]
theorem isi_bl {T : String} (h : T ∈ tys) {c : Bool} {S : Sto} : fIsi T (.bl c) S = .ok (.bl (isT "bool" T)) S := by simp [fIsi, tyD, h]
@[simp] theorem i_tup_int {ds : List DL.D} {S : Sto} : fIsi "int" (.tup ds) S = .ok (.bl false) S := isi_tup (by decide)
@[simp] theorem i_tup_str {ds : List DL.D} {S : Sto} : fIsi "str" (.tup ds) S = .ok (.bl false) S := isi_tup (by decide)
@[simp] theorem i_tup_tuple {ds : List DL.D} {S : Sto} : fIsi "tuple" (.tup ds) S = .ok (.bl true) S := isi_tup (by decide)
@[simp] theorem i_tup_bool {ds : List DL.D} {S : Sto} : fIsi "bool" (.tup ds) S = .ok (.bl false) S := isi_tup (by decide)
@[simp] theorem i_tup_list {ds : List DL.D} {S : Sto} : fIsi "list" (.tup ds) S = .ok (.bl false) S := isi_tup (by decide)
@[simp] theorem i_int_int {i : Int} {S : Sto} : fIsi "int" (.int i) S = .ok (.bl true) S := isi_int (by decide)
@[simp] theorem i_int_str {i : Int} {S : Sto} : fIsi "str" (.int i) S = .ok (.bl false) S := isi_int (by decide)
@[simp] theorem i_int_tuple {i : Int} {S : Sto} : fIsi "tuple" (.int i) S = .ok (.bl false) S := isi_int (by decide)
@[simp] theorem i_int_bool {i : Int} {S : Sto} : fIsi "bool" (.int i) S = .ok (.bl false) S := isi_int (by decide)
@[simp] theorem i_int_list {i : Int} {S : Sto} : fIsi "list" (.int i) S = .ok (.bl false) S := isi_int (by decide)
@[simp] theorem i_str_int {s : List Nat} {S : Sto} : fIsi "int" (.str s) S = .ok (.bl false) S := isi_str (by decide)
@[simp] theorem i_str_str {s : List Nat} {S : Sto} : fIsi "str" (.str s) S = .ok (.bl true) S := isi_str (by decide)
@[simp] theorem i_str_tuple {s : List Nat} {S : Sto} : fIsi "tuple" (.str s) S = .ok (.bl false) S := isi_str (by decide)
@[simp] theorem i_str_bool {s : List Nat} {S : Sto} : fIsi "bool" (.str s) S = .ok (.bl false) S := isi_str (by decide)
@[simp] theorem i_str_list {s : List Nat} {S : Sto} : fIsi "list" (.str s) S = .ok (.bl false) S := isi_str (by decide)
@[simp] theorem i_lst_int {ds : List DL.D} {S : Sto} : fIsi "int" (.lst ds) S = .ok (.bl false) S := isi_lst (by decide)
@[simp] theorem i_lst_str {ds : List DL.D} {S : Sto} : fIsi "str" (.lst ds) S = .ok (.bl false) S := isi_lst (by decide)
@[simp] theorem i_lst_tuple {ds : List DL.D} {S : Sto} : fIsi "tuple" (.lst ds) S = .ok (.bl false) S := isi_lst (by decide)
@[simp] theorem i_lst_bool {ds : List DL.D} {S : Sto} : fIsi "bool" (.lst ds) S = .ok (.bl false) S := isi_lst (by decide)
@[simp] theorem i_lst_list {ds : List DL.D} {S : Sto} : fIsi "list" (.lst ds) S = .ok (.bl true) S := isi_lst (by decide)
@[simp] theorem i_non_int  {S : Sto} : fIsi "int" (.non) S = .ok (.bl false) S := isi_non (by decide)
@[simp] theorem i_non_str  {S : Sto} : fIsi "str" (.non) S = .ok (.bl false) S := isi_non (by decide)
@[simp] theorem i_non_tuple  {S : Sto} : fIsi "tuple" (.non) S = .ok (.bl false) S := isi_non (by decide)
@[simp] theorem i_non_bool  {S : Sto} : fIsi "bool" (.non) S = .ok (.bl false) S := isi_non (by decide)
@[simp] theorem i_non_list  {S : Sto} : fIsi "list" (.non) S = .ok (.bl false) S := isi_non (by decide)
@[simp] theorem i_bl_int {c : Bool} {S : Sto} : fIsi "int" (.bl c) S = .ok (.bl true) S := isi_bl (by decide)
@[simp] theorem i_bl_str {c : Bool} {S : Sto} : fIsi "str" (.bl c) S = .ok (.bl false) S := isi_bl (by decide)
@[simp] theorem i_bl_tuple {c : Bool} {S : Sto} : fIsi "tuple" (.bl c) S = .ok (.bl false) S := isi_bl (by decide)
@[simp] theorem i_bl_bool {c : Bool} {S : Sto} : fIsi "bool" (.bl c) S = .ok (.bl true) S := isi_bl (by decide)
@[simp] theorem i_bl_list {c : Bool} {S : Sto} : fIsi "list" (.bl c) S = .ok (.bl false) S := isi_bl (by decide)
theorem like_self (S : Sto) : ∀ (n : Nat) (d : DL.D), pln n d = true → run tb P (n + 1) 32 [d, d] S = .ok (.bl true) S := by
  intro n
  induction n with
  | zero =>
    intro d h
    cases d with
    | non =>
      refine run_of (d := d_32) (x := .ret (.bl true) S) rfl rfl ?_ (fin_pl rfl)
      refine ss_nx (s_if1 (by simp [startL, d_32, semB, semE])) ?_
      exact ss_ret (s_ifT (by simp [startL, d_32, semB, semE, coF, DL.isNon]) (ss_ret (s_ret0 (by simp [startL, d_32, semE, coF, DL.isNon]))))
    | bl c =>
      refine run_of (d := d_32) (x := .ret (.bl true) S) rfl rfl ?_ (fin_pl rfl)
      refine ss_nx (s_if1 (by simp [startL, d_32, semB, semE])) ?_
      refine ss_nx (s_if1 (by simp [startL, d_32, semB, semE, coF, DL.isNon])) ?_
      cases c with
      | true => exact ss_ret (s_ifT (by simp [startL, d_32, semB, semE, coF, isBl]) (ss_ret (s_ret0 (by simp [startL, d_32, semE, coF, isBl]))))
      | false =>
        refine ss_nx (s_if1 (by simp [startL, d_32, semB, semE, coF, isBl])) ?_
        exact ss_ret (s_ifT (by simp [startL, d_32, semB, semE, coF, isBl]) (ss_ret (s_ret0 (by simp [startL, d_32, semE, coF, isBl]))))
    | int i =>
      refine run_of (d := d_32) (x := .ret (.bl true) S) rfl rfl ?_ (fin_pl rfl)
      refine ss_nx (s_if1 (by simp [startL, d_32, semB, semE])) ?_
      refine ss_nx (s_if1 (by simp [startL, d_32, semB, semE, coF, DL.isNon])) ?_
      refine ss_nx (s_if1 (by simp [startL, d_32, semB, semE, coF, isBl])) ?_
      refine ss_nx (s_if1 (by simp [startL, d_32, semB, semE, coF, isBl])) ?_
      refine ss_nx (s_if1 (by simp [startL, d_32, semB, semE])) ?_
      exact ss_ret (s_ret0 (by simp [startL, d_32, semE, semAnd, coF]))
    | str s =>
      simp only [pln, Bool.and_eq_true, decide_eq_true_eq] at h
      refine run_of (d := d_32) (x := .ret (.bl true) S) rfl rfl ?_ (fin_pl rfl)
      refine ss_nx (s_if1 (by simp [startL, d_32, semB, semE])) ?_
      refine ss_nx (s_if1 (by simp [startL, d_32, semB, semE, coF, DL.isNon])) ?_
      refine ss_nx (s_if1 (by simp [startL, d_32, semB, semE, coF, isBl])) ?_
      refine ss_nx (s_if1 (by simp [startL, d_32, semB, semE, coF, isBl])) ?_
      refine ss_ret (s_ifT (by simp [startL, d_32, semB, semE]) (ss_ret (s_ret0 ?_)))
      simp [startL, d_32, semE, semEs, semAnd, coF, mtF, mtT, fJoin, strsD, joinS, h.1, h.2]
    | _ => simp [pln] at h
  | succ n ih =>
    intro d h
    cases d with
    | non =>
      refine run_of (d := d_32) (x := .ret (.bl true) S) rfl rfl ?_ (fin_pl rfl)
      refine ss_nx (s_if1 (by simp [startL, d_32, semB, semE])) ?_
      exact ss_ret (s_ifT (by simp [startL, d_32, semB, semE, coF, DL.isNon]) (ss_ret (s_ret0 (by simp [startL, d_32, semE, coF, DL.isNon]))))
    | bl c =>
      refine run_of (d := d_32) (x := .ret (.bl true) S) rfl rfl ?_ (fin_pl rfl)
      refine ss_nx (s_if1 (by simp [startL, d_32, semB, semE])) ?_
      refine ss_nx (s_if1 (by simp [startL, d_32, semB, semE, coF, DL.isNon])) ?_
      cases c with
      | true => exact ss_ret (s_ifT (by simp [startL, d_32, semB, semE, coF, isBl]) (ss_ret (s_ret0 (by simp [startL, d_32, semE, coF, isBl]))))
      | false =>
        refine ss_nx (s_if1 (by simp [startL, d_32, semB, semE, coF, isBl])) ?_
        exact ss_ret (s_ifT (by simp [startL, d_32, semB, semE, coF, isBl]) (ss_ret (s_ret0 (by simp [startL, d_32, semE, coF, isBl]))))
    | int i =>
      refine run_of (d := d_32) (x := .ret (.bl true) S) rfl rfl ?_ (fin_pl rfl)
      refine ss_nx (s_if1 (by simp [startL, d_32, semB, semE])) ?_
      refine ss_nx (s_if1 (by simp [startL, d_32, semB, semE, coF, DL.isNon])) ?_
      refine ss_nx (s_if1 (by simp [startL, d_32, semB, semE, coF, isBl])) ?_
      refine ss_nx (s_if1 (by simp [startL, d_32, semB, semE, coF, isBl])) ?_
      refine ss_nx (s_if1 (by simp [startL, d_32, semB, semE])) ?_
      exact ss_ret (s_ret0 (by simp [startL, d_32, semE, semAnd, coF]))
    | str s =>
      simp only [pln, Bool.and_eq_true, decide_eq_true_eq] at h
      refine run_of (d := d_32) (x := .ret (.bl true) S) rfl rfl ?_ (fin_pl rfl)
      refine ss_nx (s_if1 (by simp [startL, d_32, semB, semE])) ?_
      refine ss_nx (s_if1 (by simp [startL, d_32, semB, semE, coF, DL.isNon])) ?_
      refine ss_nx (s_if1 (by simp [startL, d_32, semB, semE, coF, isBl])) ?_
      refine ss_nx (s_if1 (by simp [startL, d_32, semB, semE, coF, isBl])) ?_
      refine ss_ret (s_ifT (by simp [startL, d_32, semB, semE]) (ss_ret (s_ret0 ?_)))
      simp [startL, d_32, semE, semEs, semAnd, coF, mtF, mtT, fJoin, strsD, joinS, h.1, h.2]
    | tup ds =>
      simp only [pln, Bool.and_eq_true, decide_eq_true_eq] at h
      have hp := plns_all.mp h.2
      refine run_of (d := d_32) (x := .ret (.bl true) S) rfl rfl ?_ (fin_pl rfl)
      refine ss_ret (s_ifT (by simp [startL, d_32, semB, semE]) ?_)
      refine ss_nx (s_if1 (by simp [startL, d_32, semB, semAny, semE, semEs, coF, biF])) (ss_ret (s_ret0 ?_))
      have hl : ds.length ≤ 1000000 := h.1
      have hn : ds.length < 4611686018427387904 := by omega
      have g : ∀ d ∈ rangeD 0 ds.length, (match asg (.name 2) d (wipeL (startL d_32.N.length [.tup ds, .tup ds]) [2]) with
          | some r2 => ((semC { P with fn := run tb P (n + 1) } (.some (.not (.call 32 (.cons (.ix (.var 0) (.var 2)) (.cons (.ix (.var 1) (.var 2)) .nil))))) r2 S).bind fun k S3 => if k then (semE { P with fn := run tb P (n + 1) } (.int 1) r2 S3).bind fun y S4 => .ok (some y) S4 else .ok none S3).quiet
          | none => .bad) = .ok none S := by
        intro d hd
        obtain ⟨i, hi⟩ := List.getElem?_of_mem hd
        obtain ⟨hi2, rfl⟩ := range_item hi
        have := ih ds[i] (hp _ (List.getElem_mem hi2))
        simp [asg, startL, d_32, wipeL, semC, semB, semE, semEs, hi2, this]
      have e : ∀ g' : DL.D → Sto → Re (Option DL.D), (∀ d ∈ rangeD 0 ds.length, g' d S = .ok none S) → compG none g' (rangeD 0 ds.length) S = .ok [] S := fun g' hg => by
        rw [compG_map (gd := none) (f := fun _ => none) trivial hg]
        simp
      have e2 : semE { P with fn := run tb P (n + 1) } (.comp false [2] (.int 1) (.name 2) (.range1 (.blt .len (.cons (.var 1) .nil))) (.some (.not (.call 32 (.cons (.ix (.var 0) (.var 2)) (.cons (.ix (.var 1) (.var 2)) .nil)))))) (startL d_32.N.length [.tup ds, .tup ds]) S = .ok (.lst []) S := by
        have hI : semI { P with fn := run tb P (n + 1) } (.range1 (.blt .len (.cons (.var 1) .nil))) (startL d_32.N.length [.tup ds, .tup ds]) S = .ok (rangeD 0 ds.length, none) S := by
          simp [semI, startL, d_32, semE, semEs, biF, hn]
        simp only [semE, hI, bind_ok, rangeD_length, hl, if_true]
        rw [e _ g]
        simp [pushD]
      have e3 : semE { P with fn := run tb P (n + 1) } (.lst .nil) (startL d_32.N.length [.tup ds, .tup ds]) S = .ok (.lst []) S := by simp [semE, semEs]
      have e4 : fEq (.lst []) (.lst []) S = .ok (.bl true) S := by rw [fEq_pl (by simp [okD, okDs]) (by simp [okD, okDs]) rfl rfl]; simp [eqD, eqDs]
      show semE _ (.cmp .eq _ _) _ _ = _
      rw [semE]
      dsimp only
      rw [e2]
      simp only [bind_ok]
      rw [e3]
      simp only [bind_ok, coF, e4]
    | _ => simp [pln] at h
end K37
set_option Elab.async false
set_option linter.all false
set_option maxRecDepth 100000
set_option maxHeartbeats 4000000
/-! N4: the sum of a line. -/
namespace K37
open PySem L2 DL
theorem gM : P.gc "MODULUS" = some (.int 99991) := by simp [P]
/-- the signs' sum, from the place k on -/
def sgs : Int → List Nat → Int
  | _, [] => 0
  | k, c :: r => k * (c : Int) + sgs (k + 1) r
def lsum (n before : Int) (text : List Nat) : Int := (before + n + sgs 1 text) % 99991
def sgl : Int → List Nat → List Int
  | _, [] => []
  | k, c :: r => k * (c : Int) :: sgl (k + 1) r
theorem sgl_sum : ∀ (l : List Nat) (k : Int), (sgl k l).sum = sgs k l
  | [], _ => rfl
  | c :: r, k => by simp [sgl, sgs, sgl_sum r]
theorem sgl_fm : ∀ (l : List Nat) (k : Int), (enumD k (l.map fun c => DL.D.str [c])).filterMap (fun d => match d with
    | .tup [.int i, .str [c]] => some (DL.D.int (i * (c : Int)))
    | _ => none) = (sgl k l).map .int
  | [], _ => rfl
  | c :: r, k => by
    simp only [List.map_cons, enumD, List.filterMap_cons]
    rw [sgl_fm r]
    rfl
theorem enum_mem : ∀ {ds : List DL.D} {k : Int} {d : DL.D}, d ∈ enumD k ds → ∃ i e, d = .tup [.int i, e] ∧ e ∈ ds ∧ k ≤ i ∧ i < k + ds.length
  | [], k, d, h => by simp [enumD] at h
  | x :: ds, k, d, h => by
    rcases List.mem_cons.mp h with rfl | h
    · exact ⟨k, x, rfl, by simp, by omega, by simp; omega⟩
    · obtain ⟨i, e, h1, h2, h3, h4⟩ := enum_mem h
      exact ⟨i, e, h1, List.mem_cons_of_mem _ h2, by omega, by simp; omega⟩
theorem linesum_ok (k : Nat) {text : List Nat} (hl : text.length ≤ 1000000) (n before : Int) {S : Sto} : run tb P (k + 1) 21 [.int n, .int before, .str text] S = .ok (.int (lsum n before text)) S := by
  refine run_of (d := d_21) (x := .ret (.int (lsum n before text)) S) rfl rfl ?_ (fin_pl rfl)
  have hI : semI { P with fn := run tb P k } (.enumS 1 (.var 2)) [some (.int n), some (.int before), some (.str text), none, none, none] S = .ok (enumD 1 (text.map fun c => DL.D.str [c]), none) S := by simp [semI, semE]
  have hen : (enumD 1 (text.map fun c => DL.D.str [c])).length ≤ 1000000 := by rw [enumD_length]; simpa using hl
  have eC : ∀ (g' : DL.D → Sto → Re (Option DL.D)) (f : DL.D → Option DL.D), (∀ d ∈ enumD 1 (text.map fun c => DL.D.str [c]), g' d S = .ok (f d) S) → compG none g' (enumD 1 (text.map fun c => DL.D.str [c])) S = .ok ((enumD 1 (text.map fun c => DL.D.str [c])).filterMap f) S := fun g' f hg => compG_map (gd := none) trivial hg
  have ec : semE { P with fn := run tb P k } (.comp false [4, 5] (.bin .mul (.var 4) (.blt .ord (.cons (.var 5) .nil))) (.tup (.cons (.name 4) (.cons (.name 5) .nil))) (.enumS 1 (.var 2)) .none) [some (.int n), some (.int before), some (.str text), none, none, none] S = .ok (.lst ((sgl 1 text).map .int)) S := by
    simp only [semE, hI, bind_ok, hen, if_true]
    rw [eC _ (fun d => match d with
      | .tup [.int i, .str [c]] => some (DL.D.int (i * (c : Int)))
      | _ => none), sgl_fm]
    · rfl
    · intro d hd
      obtain ⟨i, e, rfl, he, h1, h2⟩ := enum_mem hd
      obtain ⟨c, hc, rfl⟩ := List.mem_map.mp he
      have hm : fMul (.int i) (.int (c : Nat)) S = .ok (.int (i * (c : Int))) S := fMul_l (by simp at h2; omega)
      have ho : fOrd [.str [c]] S = .ok (.int (c : Nat)) S := rfl
      simp only [asg, asgs, wipeL, List.set_cons_succ, List.set_cons_zero, Option.bind_some, semC, bind_ok, if_true, semEs, semE, List.getElem?_cons_succ, List.getElem?_cons_zero, biF, boF, ho, hm]
      rfl
  refine ss_nx (s_asg0 (.int (sgs 1 text)) ?_ rfl) (ss_ret (s_ret0 ?_))
  · show semE _ _ [some (.int n), some (.int before), some (.str text), none, none, none] S = _
    rw [semE]
    simp only [semEs]
    rw [ec]
    have hs : fSum [.lst ((sgl 1 text).map .int)] S = .ok (.int (sgs 1 text)) S := by
      unfold fSum
      simp only [vw_lst, intsD_map, sgl_sum]
    simp only [bind_ok, biF, hs]
  · simp [startL, d_21, semE, boF, gM, lsum]
theorem sgs_app : ∀ (a b : List Nat) (k : Int), sgs k (a ++ b) = sgs k a + sgs (k + a.length) b
  | [], b, k => by simp [sgs]
  | c :: a, b, k => by
    rw [List.cons_append, sgs, sgs, sgs_app a b (k + 1), List.length_cons]
    rw [show k + 1 + (a.length : Int) = k + ((a.length + 1 : Nat) : Int) by omega]
    omega
theorem sgs_snoc {a : List Nat} {c : Nat} {k : Int} : sgs k (a ++ [c]) = sgs k a + (k + a.length) * (c : Int) := by
  rw [sgs_app]
  simp [sgs]
theorem range_it {n i : Nat} {d : DL.D} (h : (rangeD 0 n)[i]? = some d) : i < n ∧ d = .int (i : Nat) := range_item h
theorem lawsum_ok (k : Nat) {text : List Nat} (hl : text.length ≤ 1000000) (n before : Int) {S : Sto} : run tb P (k + 1) 35 [.int n, .int before, .str text] S = .ok (.int (lsum n before text)) S := by
  have hn : text.length < 4611686018427387904 := by omega
  have key := forG_inv (gd := none) (t := .name 4) (its := rangeD 0 text.length) (r := [some (.int n), some (.int before), some (.str text), some (.int (before + n)), none]) (S := S)
    (b := semSs (match a_law_sum_u with
      | .cons _ (.cons (.forr _ _ b) _) => b
      | _ => .nil) { P with fn := run tb P k })
    (fun i rr SS => ∃ x4, rr = [some (.int n), some (.int before), some (.str text), some (.int (before + n + sgs 1 (text.take i))), x4] ∧ SS = S)
    ⟨none, by simp [sgs], rfl⟩ (fun _ _ _ _ _ => trivial) ?_
  · obtain ⟨r3, S3, e, x4, rfl, rfl⟩ := key
    refine run_of (d := d_35) (x := .ret (.int (lsum n before text)) S3) rfl rfl ?_ (fin_pl rfl)
    refine ss_nx (s_asg0 (.int (before + n)) (by simp [startL, d_35, semE, boF]) rfl) ?_
    refine ss_nx (r2 := _) (S2 := _) (Eq.trans ?_ e) (ss_ret (s_ret0 ?_))
    · have hI : semI { P with fn := run tb P k } (.range1 (.blt .len (.cons (.var 2) .nil))) [some (.int n), some (.int before), some (.str text), some (.int (before + n)), none] S3 = .ok (rangeD 0 text.length, none) S3 := by
        simp [semI, semE, semEs, biF, fLen_str hl, hn]
      have e2 : ∀ (t : Tg) (it : DL.Itr) (b : Sms) (r : DL.Loc) (w : List DL.D × Gd), semI { P with fn := run tb P k } it r S3 = .ok w S3 → semS (.forr t it b) { P with fn := run tb P k } r S3 = forG w.2 t (semSs b { P with fn := run tb P k }) w.1 r S3 := fun t it b r w h => by
        have e : semS (.forr t it b) { P with fn := run tb P k } r S3 = (semI { P with fn := run tb P k } it r S3).to fun w S1 => forG w.2 t (semSs b { P with fn := run tb P k }) w.1 r S1 := by simp only [semS]
        rw [e, h, to_ok]
      exact e2 _ _ _ _ _ hI
    · rw [rangeD_length]
      simp [semE, semEs, biF, boF, lsum]
  · rintro i rr SS d hd ⟨x4, rfl, rfl⟩
    obtain ⟨hi, rfl⟩ := range_item hd
    refine ⟨_, rfl, _, _, .inl (ss_nx (s_asg0 (.int (before + n + sgs 1 (text.take (i + 1)))) ?_ rfl) ss0), some (.int (i : Nat)), rfl, rfl⟩
    have hx : fIx (.str text) (.int (i : Nat)) SS = .ok (.str [text[i]]) SS := by rw [fIx_str hl, at_nat, List.getElem?_eq_getElem hi]; rfl
    have ho : fOrd [.str [text[i]]] SS = .ok (.int (text[i] : Nat)) SS := rfl
    have hm : fMul (.int ((i : Int) + 1)) (.int (text[i] : Nat)) SS = .ok (.int (((i : Int) + 1) * (text[i] : Int))) SS := fMul_l (by omega)
    have ht : sgs 1 (text.take (i + 1)) = sgs 1 (text.take i) + ((i : Int) + 1) * (text[i] : Int) := by
      rw [List.take_succ_eq_append_getElem hi, sgs_snoc]
      congr 2
      simp
      omega
    rw [ht]
    show semE _ _ [some (.int n), some (.int before), some (.str text), some (.int (before + n + sgs 1 (text.take i))), some (.int (i : Nat))] SS = _
    simp only [semE, semEs, List.getElem?_cons_zero, List.getElem?_cons_succ, bind_ok, boF, biF, fAdd_int, hx, ho, hm]
    congr 2
    omega
end K37
set_option Elab.async false
set_option linter.all false
set_option maxRecDepth 100000
set_option maxHeartbeats 4000000
/-! N5: plain values shown. -/
namespace K37
open PySem L2 DL
theorem s_for {t : Tg} {it : DL.Itr} {b : Sms} {P : Par} {r : DL.Loc} {S S2 : Sto} {w : List DL.D × Gd} {x : Rs} (h : semI P it r S = .ok w S2) (h2 : forG w.2 t (semSs b P) w.1 r S2 = x) : semS (.forr t it b) P r S = x := by
  have e : semS (.forr t it b) P r S = (semI P it r S).to fun w S1 => forG w.2 t (semSs b P) w.1 r S1 := by simp only [semS]
  rw [e, h, to_ok, h2]
theorem strs_map : ∀ ls : List (List Nat), strsD (ls.map .str) = some ls
  | [] => rfl
  | l :: ls => by simp [strsD, strs_map ls]
def esc (s : List Nat) : List Nat := repC 10 [92, 110] s
mutual
/-- the text of a plain value -/
def showD : DL.D → List Nat
  | .non => [78]
  | .bl b => if b then [84] else [70]
  | .int i => digS i
  | .str s => 34 :: (esc s ++ [34])
  | .tup ds => 40 :: (shows ds ++ [41])
  | .lst _ => []
  | .ref _ => []
  | .fn _ => []
  | .scr _ => []
  | .exn _ _ _ _ => []
def shows : List DL.D → List Nat
  | [] => []
  | d :: ds => showD d ++ showt ds
/-- behind the first -/
def showt : List DL.D → List Nat
  | [] => []
  | d :: ds => 32 :: (showD d ++ showt ds)
end
/-- signs of a text that are shown as they are, and the line feed -/
def okc (c : Nat) : Bool := c == 10 || (decide (32 ≤ c) && decide (c ≤ 126) && c != 37 && c != 34 && c != 92)
mutual
/-- plain values, n deep -/
def pvD : Nat → DL.D → Bool
  | _, .non => true
  | _, .bl _ => true
  | _, .int i => decide (i.natAbs ≤ 1000000000000)
  | _, .str s => s.all okc && decide (s.length ≤ 200)
  | n + 1, .tup ds => pvs n ds && decide (ds.length ≤ 100)
  | _, _ => false
def pvs : Nat → List DL.D → Bool
  | _, [] => true
  | n, d :: ds => pvD n d && pvs n ds
end
theorem pvs_all {n : Nat} {ds : List DL.D} : pvs n ds = true ↔ ∀ d ∈ ds, pvD n d = true := by
  induction ds with
  | nil => simp [pvs]
  | cons d ds ih => simp [pvs, ih]
theorem showt_mem : ∀ {ds : List DL.D} {d : DL.D}, d ∈ ds → (showD d).length ≤ (showt ds).length
  | x :: ds, d, h => by
    rw [showt, List.length_cons, List.length_append]
    rcases List.mem_cons.mp h with rfl | h
    · omega
    · have := showt_mem h
      omega
theorem shows_mem {ds : List DL.D} {d : DL.D} (h : d ∈ ds) : (showD d).length ≤ (shows ds).length := by
  cases ds with
  | nil => simp at h
  | cons x ds =>
    rw [shows, List.length_append]
    rcases List.mem_cons.mp h with rfl | h
    · omega
    · have := showt_mem h
      omega
theorem joint : ∀ (ds : List DL.D) (a : List Nat), joinS [32] (a :: ds.map showD) = a ++ showt ds
  | [], a => by simp [joinS, showt]
  | d :: ds, a => by
    rw [List.map_cons, joinS, joint ds, showt]
    simp
theorem joins (ds : List DL.D) : joinS [32] (ds.map showD) = shows ds := by
  cases ds with
  | nil => rfl
  | cons d ds => rw [List.map_cons, joint, shows]
theorem sumt : ∀ ds : List DL.D, ((ds.map showD).map (·.length)).sum ≤ (showt ds).length
  | [] => by simp
  | d :: ds => by
    have := sumt ds
    simp only [List.map_cons, List.sum_cons, showt, List.length_cons, List.length_append]
    omega
theorem sums (ds : List DL.D) : ((ds.map showD).map (·.length)).sum ≤ (shows ds).length := by
  cases ds with
  | nil => simp
  | cons d ds =>
    have := sumt ds
    simp only [List.map_cons, List.sum_cons, shows, List.length_append]
    omega
theorem log_s {n : Nat} (h : n ≤ 1000000000000) : n.log2 < 1920 := by
  by_cases h0 : n = 0
  · subst h0
    decide
  · have : n.log2 < 40 := (Nat.log2_lt h0).mpr (by omega)
    omega
theorem fStr_i {i : Int} (h : i.natAbs ≤ 1000000000000) {S : Sto} : fStr [.int i] S = .ok (.str (digS i)) S := by
  unfold fStr
  dsimp only
  rw [if_pos (log_s h)]
theorem fFmt_i {i : Int} (h : i.natAbs ≤ 1000000000000) {S : Sto} : fFmt (.int i) S = .ok (.str (digS i)) S := by
  unfold fFmt
  dsimp only
  rw [if_pos (log_s h)]
theorem show_ok (S : Sto) : ∀ (k : Nat) (d : DL.D), pvD k d = true → (showD d).length ≤ 100000 → run tb P (k + 1) 11 [d] S = .ok (.str (showD d)) S := by
  intro k
  induction k using Nat.strongRecOn with
  | _ k ih =>
    intro d h hl
    refine run_of (d := d_11) (x := .ret (.str (showD d)) S) rfl rfl ?_ (fin_pl rfl)
    cases d with
    | non => exact ss_ret (s_ifT (by simp [startL, d_11, semB, semE, coF, DL.isNon]) (ss_ret (s_ret0 (by simp [semE, showD]))))
    | bl b =>
      refine ss_nx (s_if1 (by simp [startL, d_11, semB, semE, coF, DL.isNon])) ?_
      cases b with
      | true => exact ss_ret (s_ifT (by simp [startL, d_11, semB, semE, coF, isBl]) (ss_ret (s_ret0 (by simp [semE, showD]))))
      | false =>
        refine ss_nx (s_if1 (by simp [startL, d_11, semB, semE, coF, isBl])) ?_
        exact ss_ret (s_ifT (by simp [startL, d_11, semB, semE, coF, isBl]) (ss_ret (s_ret0 (by simp [semE, showD]))))
    | int i =>
      have hi : i.natAbs ≤ 1000000000000 := by cases k <;> simpa [pvD] using h
      refine ss_nx (s_if1 (by simp [startL, d_11, semB, semE, coF, DL.isNon])) ?_
      refine ss_nx (s_if1 (by simp [startL, d_11, semB, semE, coF, isBl])) ?_
      refine ss_nx (s_if1 (by simp [startL, d_11, semB, semE, coF, isBl])) ?_
      have e := fStr_i hi (S := S)
      exact ss_ret (s_ifT (by simp [startL, d_11, semB, semE]) (ss_ret (s_ret0 (by simp [startL, d_11, semE, semEs, biF, e, showD]))))
    | str s =>
      have hs : s.all okc = true ∧ s.length ≤ 200 := by cases k <;> simpa [pvD] using h
      have hm : ∀ c, okc c = false → c ∉ s := fun c hc hm => by
        have := List.all_eq_true.mp hs.1 c hm
        rw [hc] at this
        cases this
      refine ss_nx (s_if1 (by simp [startL, d_11, semB, semE, coF, DL.isNon])) ?_
      refine ss_nx (s_if1 (by simp [startL, d_11, semB, semE, coF, isBl])) ?_
      refine ss_nx (s_if1 (by simp [startL, d_11, semB, semE, coF, isBl])) ?_
      refine ss_nx (s_if1 (by simp [startL, d_11, semB, semE])) ?_
      have e : fRep3 92 34 10 [92, 110] (.str s) S = .ok (.str (esc s)) S := by
        unfold fRep3
        dsimp only
        rw [if_pos ⟨hm 92 (by decide), hm 34 (by decide), by omega, by decide⟩]
        rfl
      simp only [showD, List.length_cons, List.length_append] at hl
      have a1 : fAdd (.str [34]) (.str (esc s)) S = .ok (.str ([34] ++ esc s)) S := fAdd_str (by simp at hl ⊢; omega)
      have a2 : fAdd (.str ([34] ++ esc s)) (.str [34]) S = .ok (.str (34 :: (esc s ++ [34]))) S := by rw [fAdd_str (by simp at hl ⊢; omega)]; simp
      refine ss_ret (s_ifT (by simp [startL, d_11, semB, semE]) (ss_nx (s_asg0 (.str (esc s)) (by simp [startL, d_11, semE, e]) rfl) (ss_ret (s_ret0 ?_))))
      show semE _ _ [some (.str s), some (.str (esc s)), none] S = _
      simp only [semE, List.getElem?_cons_zero, List.getElem?_cons_succ, bind_ok, boF, a1, a2, showD]
    | tup ds =>
      cases k with
      | zero => simp [pvD] at h
      | succ k =>
        simp only [pvD, Bool.and_eq_true, decide_eq_true_eq] at h
        have hp := pvs_all.mp h.1
        simp only [showD, List.length_cons, List.length_append] at hl
        refine ss_nx (s_if1 (by simp [startL, d_11, semB, semE, coF, DL.isNon])) ?_
        refine ss_nx (s_if1 (by simp [startL, d_11, semB, semE, coF, isBl])) ?_
        refine ss_nx (s_if1 (by simp [startL, d_11, semB, semE, coF, isBl])) ?_
        refine ss_nx (s_if1 (by simp [startL, d_11, semB, semE])) ?_
        refine ss_nx (s_if1 (by simp [startL, d_11, semB, semE])) (ss_ret (s_ret0 ?_))
        have hI : semI { P with fn := run tb P (k + 1) } (.plain (.var 0)) [some (.tup ds), none, none] S = .ok (ds, none) S := by simp [semI, semE, walk]
        have hlen : ds.length ≤ 1000000 := by omega
        have eC : ∀ (g' : DL.D → Sto → Re (Option DL.D)) (f : DL.D → Option DL.D), (∀ d ∈ ds, g' d S = .ok (f d) S) → compG none g' ds S = .ok (ds.filterMap f) S := fun g' f hg => compG_map (gd := none) trivial hg
        have ec : semE { P with fn := run tb P (k + 1) } (.comp false [2] (.call 11 (.cons (.var 2) .nil)) (.name 2) (.plain (.var 0)) .none) [some (.tup ds), none, none] S = .ok (.lst ((ds.map showD).map .str)) S := by
          simp only [semE, hI, bind_ok, hlen, if_true]
          rw [eC _ (fun d => some (.str (showD d)))]
          · simp [pushD]
          · intro d hd
            have := ih k (Nat.lt_succ_self k) d (hp d hd) (by have := shows_mem hd; omega)
            simp only [asg, wipeL, List.set_cons_succ, List.set_cons_zero, semC, bind_ok, if_true, semEs, semE, List.getElem?_cons_succ, List.getElem?_cons_zero, this]
            rfl
        have hj : fJoin (.str [32]) [.lst ((ds.map showD).map .str)] S = .ok (.str (shows ds)) S := by
          unfold fJoin
          dsimp only
          rw [vw_lst]
          dsimp only
          rw [strs_map]
          dsimp only
          have := sums ds
          rw [if_pos (by simp only [List.length_map, List.length_singleton]; omega), joins]
        have a1 : fAdd (.str [40]) (.str (shows ds)) S = .ok (.str ([40] ++ shows ds)) S := fAdd_str (by simp at hl ⊢; omega)
        have a2 : fAdd (.str ([40] ++ shows ds)) (.str [41]) S = .ok (.str (showD (.tup ds))) S := by rw [fAdd_str (by simp at hl ⊢; omega)]; simp [showD]
        have ej : semE { P with fn := run tb P (k + 1) } (.mth .join (.str [32]) (.cons (.comp false [2] (.call 11 (.cons (.var 2) .nil)) (.name 2) (.plain (.var 0)) .none) .nil)) [some (.tup ds), none, none] S = .ok (.str (shows ds)) S := by
          rw [semE]
          simp only [semEs]
          have e0 : semE { P with fn := run tb P (k + 1) } (.str [32]) [some (.tup ds), none, none] S = .ok (.str [32]) S := by simp only [semE]
          have e1 : mtOk .join (.str [32]) S = true := rfl
          rw [e0]
          simp only [bind_ok, e1, if_true]
          rw [ec]
          simp only [bind_ok, mtF, hj]
        have eb : semE { P with fn := run tb P (k + 1) } (.bin .add (.str [40]) (.mth .join (.str [32]) (.cons (.comp false [2] (.call 11 (.cons (.var 2) .nil)) (.name 2) (.plain (.var 0)) .none) .nil))) [some (.tup ds), none, none] S = .ok (.str ([40] ++ shows ds)) S := by
          rw [semE]
          dsimp only
          rw [show semE { P with fn := run tb P (k + 1) } (.str [40]) [some (.tup ds), none, none] S = .ok (.str [40]) S by simp only [semE]]
          simp only [bind_ok]
          rw [ej]
          simp only [bind_ok, boF, a1]
        show semE _ _ [some (.tup ds), none, none] S = _
        rw [semE]
        dsimp only
        rw [eb]
        simp only [bind_ok, semE, boF, a2]
    | lst ds => cases k <;> simp [pvD] at h
    | ref i => cases k <;> simp [pvD] at h
    | fn f => cases k <;> simp [pvD] at h
    | scr ns => cases k <;> simp [pvD] at h
    | exn a b c fs => cases k <;> simp [pvD] at h
end K37
set_option Elab.async false
set_option linter.all false
set_option maxRecDepth 100000
set_option maxHeartbeats 4000000
/-! N6: signs looked for in a text; clean texts. -/
namespace K37
open PySem L2 DL
open PySem.StrLaws PySem.Builtin PySem.Builtin.Str in
theorem at_one {t : List Nat} {c hi i : Nat} : At (strO t) (strO [c]) hi i ↔ i + 1 ≤ hi ∧ t[i]? = some c := by
  unfold At
  rw [subAt_eq]
  show (i + 1 ≤ hi ∧ ((t.drop i).take 1 == [c]) = true) ↔ _
  rw [take1_drop]
theorem range_pre {lo n a : Nat} {pre post : List Nat} (h : List.range' lo n = pre ++ a :: post) : lo ≤ a ∧ a < lo + n ∧ ∀ k, lo ≤ k → k < a → k ∈ pre := by
  have hL : n = pre.length + (post.length + 1) := by
    have := congrArg List.length h
    simpa using this
  have hg : ∀ j, j < n → (List.range' lo n)[j]? = some (lo + j) := fun j hj => by
    rw [List.getElem?_range' hj]
    simp
  have ha : a = lo + pre.length := by
    have h1 := hg pre.length (by omega)
    rw [h] at h1
    simpa using h1
  refine ⟨by omega, by omega, fun k h1 h2 => ?_⟩
  have h3 := hg (k - lo) (by omega)
  rw [h, List.getElem?_append_left (by omega), show lo + (k - lo) = k by omega] at h3
  exact List.mem_of_getElem? h3
open PySem.StrLaws PySem.Builtin PySem.Builtin.Str in
/-- the first sign c between lo and hi -/
theorem occ_in (t : List Nat) (c lo hi : Nat) (hh : hi ≤ t.length) :
    (occurrences (strO t) (strO [c]) lo hi 1 = [] ∧ ∀ i, lo ≤ i → i < hi → t[i]? ≠ some c) ∨ ∃ i r, occurrences (strO t) (strO [c]) lo hi 1 = i :: r ∧ lo ≤ i ∧ i < hi ∧ t[i]? = some c ∧ ∀ k, lo ≤ k → k < i → t[k]? ≠ some c := by
  rw [occ_eq]
  rcases occ_first (strO t) (strO [c]) hi 1 (Nat.le_refl 1) (List.range' lo (hi + 1 - lo)) lo (fun i hi => (List.mem_range'_1.mp hi).1) with ⟨h0, hn⟩ | ⟨pre, a, post, e, h0, ha, hn⟩
  · refine .inl ⟨by rw [h0], fun i h1 h2 h3 => ?_⟩
    exact hn i (List.mem_range'_1.mpr ⟨h1, by omega⟩) (at_one.mpr ⟨by omega, h3⟩)
  · obtain ⟨p1, p2, p3⟩ := range_pre e
    have ha2 := at_one.mp ha
    refine .inr ⟨a, ((forIn (List.range' lo (hi + 1 - lo)) ((#[] : Array Nat), lo) (occBody (strO t) (strO [c]) hi 1)).run.fst.toList).tail, ?_, p1, by omega, ha2.2, fun k h1 h2 h3 => ?_⟩
    · generalize (forIn (List.range' lo (hi + 1 - lo)) ((#[] : Array Nat), lo) (occBody (strO t) (strO [c]) hi 1)).run.fst = arr at h0
      have h1 : arr.toList[0]? = some a := by simpa using h0
      cases hL : arr.toList with
      | nil => rw [hL] at h1; cases h1
      | cons b t => rw [hL] at h1; simp at h1; rw [h1]; rfl
    · exact hn k (p3 k h1 h2) (at_one.mpr ⟨by omega, h3⟩)
theorem from_i {n i : Nat} : fromIndex n (i : Int) = i := by
  unfold fromIndex
  rw [if_neg (by omega)]
  omega
theorem to_i {n i : Nat} (h : i ≤ n) : toIndexW n (i : Int) = i := by
  unfold toIndexW
  rw [if_neg (by omega)]
  omega
theorem findIn_none {t : List Nat} {c lo hi : Nat} (hh : hi ≤ t.length) (h : ∀ i, lo ≤ i → i < hi → t[i]? ≠ some c) : Txt.findIn (strO t) (strO [c]) (lo : Int) (hi : Int) = -1 := by
  unfold Txt.findIn
  rw [from_i, show (strO t).length = t.length from st_len t, to_i hh]
  rcases occ_in t c lo hi hh with ⟨e, _⟩ | ⟨i, r, e, h1, h2, h3, _⟩
  · rw [e]
  · exact absurd h3 (h i h1 h2)
theorem findIn_some {t : List Nat} {c lo hi i : Nat} (hh : hi ≤ t.length) (h1 : lo ≤ i) (h2 : i < hi) (h3 : t[i]? = some c) (h : ∀ k, lo ≤ k → k < i → t[k]? ≠ some c) : Txt.findIn (strO t) (strO [c]) (lo : Int) (hi : Int) = (i : Int) := by
  unfold Txt.findIn
  rw [from_i, show (strO t).length = t.length from st_len t, to_i hh]
  rcases occ_in t c lo hi hh with ⟨e, g⟩ | ⟨j, r, e, g1, g2, g3, g4⟩
  · exact absurd h3 (g i h1 h2)
  · rw [e]
    have : i = j := by
      by_cases hlt : i < j
      · exact absurd h3 (g4 i h1 hlt)
      · by_cases hgt : j < i
        · exact absurd g3 (h j g1 hgt)
        · omega
    rw [this]
theorem find3_some {t : List Nat} {c lo i : Nat} (h1 : lo ≤ i) (h3 : t[i]? = some c) (h : ∀ k, lo ≤ k → k < i → t[k]? ≠ some c) : Txt.find3 (strO t) (strO [c]) (lo : Int) = (i : Int) := by
  have hi : i < t.length := (List.getElem?_eq_some_iff.mp h3).1
  unfold Txt.find3
  rw [from_i, show (strO t).length = t.length from st_len t]
  rcases occ_in t c lo t.length (Nat.le_refl _) with ⟨e, g⟩ | ⟨j, r, e, g1, g2, g3, g4⟩
  · exact absurd h3 (g i h1 hi)
  · rw [e]
    have : i = j := by
      by_cases hlt : i < j
      · exact absurd h3 (g4 i h1 hlt)
      · by_cases hgt : j < i
        · exact absurd g3 (h j g1 hgt)
        · omega
    rw [this]
/-- the place of the first c from lo on, or -1 -/
def fstC (c : Nat) : Nat → List Nat → Option Nat
  | _, [] => none
  | k, d :: r => if d = c then some k else fstC c (k + 1) r
theorem fst_none {c : Nat} : ∀ {l : List Nat} {k : Nat}, c ∉ l → fstC c k l = none
  | [], _, _ => rfl
  | d :: l, k, h => by
    simp only [List.mem_cons, not_or] at h
    rw [fstC, if_neg (Ne.symm h.1), fst_none h.2]
theorem fst_some {c : Nat} : ∀ {a b : List Nat} {k : Nat}, c ∉ a → fstC c k (a ++ c :: b) = some (k + a.length)
  | [], _, k, _ => by simp [fstC]
  | d :: a, b, k, h => by
    simp only [List.mem_cons, not_or] at h
    rw [List.cons_append, fstC, if_neg (Ne.symm h.1), fst_some h.2, List.length_cons]
    congr 1
    omega
def okc1 (c : Nat) : Bool := decide (32 ≤ c) && decide (c ≤ 126) && c != 37
theorem print128 : ∀ c, c < 128 → Unicode.isPrintable c = (decide (32 ≤ c) && decide (c ≤ 126)) := by decide +kernel
theorem clean_ok (k : Nat) {s : List Nat} (hl : s.length ≤ 1000000) {S : Sto} : run tb P (k + 1) 3 [.str s] S = .ok (.bl (s.all okc1)) S := by
  refine run_of (d := d_3) (x := .ret (.bl (s.all okc1)) S) rfl rfl ?_ (fin_pl rfl)
  have a1 : fTx0 Txt.isascii (.str s) [] S = .ok (.bl (s.all fun c => decide (c < 128))) S := by
    show Re.ok (DL.D.bl (Txt.isascii (strO s))) S = _
    congr 2
    simp [Txt.isascii, strO]
  have a2 : fTx0 Txt.isprintable (.str s) [] S = .ok (.bl (s.all Unicode.isPrintable)) S := by
    show Re.ok (DL.D.bl (Txt.isprintable (strO s))) S = _
    congr 2
    simp [Txt.isprintable, strO]
  refine ss_ret (s_ret0 ?_)
  cases h1 : s.all fun c => decide (c < 128) with
  | false =>
    have e : s.all okc1 = false := by
      rw [← Bool.not_eq_true] at h1 ⊢
      intro h
      apply h1
      rw [List.all_eq_true] at h ⊢
      intro c hc
      have := h c hc
      simp only [okc1, Bool.and_eq_true, decide_eq_true_eq] at this
      simp
      omega
    rw [h1] at a1
    simp [startL, d_3, semE, semEs, semAnd, mtF, mtT, a1, e]
  | true =>
    rw [h1] at a1
    have hb : ∀ c ∈ s, c < 128 := fun c hc => by simpa using List.all_eq_true.mp h1 c hc
    cases h2 : s.all Unicode.isPrintable with
    | false =>
      have e : s.all okc1 = false := by
        rw [← Bool.not_eq_true] at h2 ⊢
        intro h
        apply h2
        rw [List.all_eq_true] at h ⊢
        intro c hc
        rw [print128 c (hb c hc)]
        have := h c hc
        simp only [okc1, Bool.and_eq_true] at this ⊢
        exact this.1
      rw [h2] at a2
      simp [startL, d_3, semE, semEs, semAnd, mtF, mtT, a1, a2, e]
    | true =>
      rw [h2] at a2
      have a3 : fNope 37 (.str s) S = .ok (.bl (!decide (37 ∈ s))) S := by
        unfold fNope
        dsimp only
        rw [if_pos ⟨h1, hl, by decide⟩]
      have e : s.all okc1 = !decide (37 ∈ s) := by
        rw [Bool.eq_iff_iff, List.all_eq_true]
        simp only [Bool.not_eq_true', decide_eq_false_iff_not]
        constructor
        · intro h hm
          exact absurd (h 37 hm) (by decide)
        · intro h c hc
          have hp := List.all_eq_true.mp h2 c hc
          rw [print128 c (hb c hc)] at hp
          simp only [okc1, hp, Bool.true_and, bne_iff_ne, ne_eq]
          rintro rfl
          exact h hc
      simp [startL, d_3, semE, semEs, semAnd, mtF, mtT, a1, a2, a3, e]
end K37
set_option Elab.async false
set_option linter.all false
set_option maxRecDepth 100000
set_option maxHeartbeats 4000000
/-! N7: a quoted text, read. -/
namespace K37
open PySem L2 DL
theorem s_whl0 {c : Ex} {b : Sms} {Q : Par} {r : DL.Loc} {S : Sto} {n : Nat} (hf : Q.fuel = n + 1) (h : semB Q c r S = .ok false S) : semS (.whl c b) Q r S = .nx r S := by
  have e : semS (.whl c b) Q r S = whileG (semB Q c) (semSs b Q) Q.fuel r S := by simp only [semS]
  rw [e, hf, whileG]
  dsimp only
  rw [h]
  rfl
theorem whl_one {c : Ex} {b : Sms} {Q : Par} {r r2 : DL.Loc} {S S2 : Sto} {n : Nat} (h : semB Q c r S = .ok true S) (h2 : semSs b Q r S = .nx r2 S2) : whileG (semB Q c) (semSs b Q) (n + 1) r S = whileG (semB Q c) (semSs b Q) n r2 S2 := by
  rw [whileG]
  dsimp only
  rw [h]
  simp only [to_ok, if_true, h2]
  rfl
theorem whl_end {c : Ex} {b : Sms} {Q : Par} {r : DL.Loc} {S : Sto} {n : Nat} (h : semB Q c r S = .ok false S) : whileG (semB Q c) (semSs b Q) (n + 1) r S = .nx r S := by
  rw [whileG]
  dsimp only
  rw [h]
  rfl
theorem s_whl {c : Ex} {b : Sms} {Q : Par} {r : DL.Loc} {S : Sto} {x : Rs} (h : whileG (semB Q c) (semSs b Q) Q.fuel r S = x) : semS (.whl c b) Q r S = x := by
  rw [← h]
  simp only [semS]
theorem cut_mid {α : Type} {a b c : List α} : cut (a ++ (b ++ c)) (some (a.length : Int)) (some ((a.length + b.length : Nat) : Int)) = b := by
  unfold cut
  rw [HT.sIx_nat, HT.sIx_nat]
  have e1 : min a.length (a ++ (b ++ c)).length = a.length := by simp
  have e2 : min (a.length + b.length) (a ++ (b ++ c)).length = a.length + b.length := by
    rw [List.length_append, List.length_append]
    omega
  rw [e1, e2, List.drop_left, show a.length + b.length - a.length = b.length by omega, List.take_left]
theorem sl_mid {a b c : List Nat} {lo hi : Int} {S : Sto} (hl : (a ++ (b ++ c)).length ≤ 1000000) (h1 : lo = a.length) (h2 : hi = (a.length + b.length : Nat)) : fSl (.str (a ++ (b ++ c))) (some lo) (some hi) S = .ok (.str b) S := by
  subst h1 h2
  unfold fSl
  simp only [vw_str]
  rw [if_pos hl, cut_mid]
theorem quote_ok (k : Nat) {a b c : List Nat} (hl : (a ++ (b ++ 34 :: c)).length ≤ 1000000) (hb : 34 ∉ b) {S : Sto} {at_ : Int} (h : at_ = a.length) :
    run tb P (k + 1) 16 [.str (a ++ (b ++ 34 :: c)), .int at_] S = .ok (.int (a.length + b.length : Nat)) S := by
  subst h
  refine run_of (d := d_16) (x := .ret (.int (a.length + b.length : Nat)) S) rfl rfl ?_ (fin_pl rfl)
  have e : fFind2 (.str (a ++ (b ++ 34 :: c))) [.str [34], .int (a.length : Nat)] S = .ok (.int ((a.length + b.length : Nat) : Int)) S := by
    unfold fFind2
    dsimp only
    rw [find3_some (i := a.length + b.length) (by omega)]
    · rw [List.getElem?_append_right (by omega), show a.length + b.length - a.length = b.length by omega, List.getElem?_append_right (Nat.le_refl _)]
      simp
    · intro j h1 h2 h3
      rw [List.getElem?_append_right h1, List.getElem?_append_left (by omega)] at h3
      exact hb (List.mem_of_getElem? h3)
  refine ss_nx (s_asg0 (.int (a.length + b.length : Nat)) (by simp only [startL, d_16, semE, semEs, List.map_cons, List.map_nil, List.cons_append, List.getElem?_cons_zero, List.getElem?_cons_succ, bind_ok, mtOk_str, mtT, mtF, beq_self_eq_true, if_true, e]) rfl) (ss_ret (s_ret0 ?_))
  have hneg : ¬ ((a.length + b.length : Nat) : Int) < 0 := by omega
  show semE _ _ [some (.str (a ++ (b ++ 34 :: c))), some (.int (a.length : Nat)), some (.int (a.length + b.length : Nat))] S = _
  simp only [semE, semB, List.getElem?_cons_zero, List.getElem?_cons_succ, bind_ok, coF, fLt_int, hneg, decide_false, toB_bl, Bool.false_eq_true, if_false]
theorem look_ok (k : Nat) {a b c : List Nat} (hl : (a ++ (b ++ c)).length ≤ 1000000) (hb : b.all okc1 = true) {S : Sto} {lo hi : Int} (h1 : lo = a.length) (h2 : hi = (a.length + b.length : Nat)) :
    run tb P (k + 2) 17 [.str (a ++ (b ++ c)), .int lo, .int hi] S = .ok .non S := by
  refine run_of (d := d_17) (x := .ret .non S) rfl rfl ?_ (fin_pl rfl)
  have e1 := sl_mid hl h1 h2 (S := S)
  have e2 := clean_ok k (s := b) (by simp at hl; omega) (S := S)
  rw [hb] at e2
  refine ss_ret (s_ifT ?_ (ss_ret (by simp only [semS])))
  show semB _ _ [some (.str (a ++ (b ++ c))), some (.int lo), some (.int hi), none] S = _
  simp only [semB, semE, semEs, semO, List.getElem?_cons_zero, List.getElem?_cons_succ, bind_ok, e1, e2, truD_bl]
end K37
set_option Elab.async false
set_option linter.all false
set_option maxRecDepth 100000
set_option maxHeartbeats 4000000
/-! N8: a quoted text, read: the whole. -/
namespace K37
open PySem L2 DL
theorem esc_free {s : List Nat} (h : 10 ∉ s) : esc s = s := by
  unfold esc repC
  induction s with
  | nil => rfl
  | cons c s ih =>
    simp only [List.mem_cons, not_or] at h
    rw [List.flatMap_cons, ih h.2, if_neg (Ne.symm h.1)]
    rfl
theorem esc_end {s : List Nat} (h : 10 ∉ s) : esc (s ++ [10]) = s ++ [92, 110] := by
  have := esc_free h
  unfold esc repC at this ⊢
  rw [List.flatMap_append, this]
  rfl
theorem okc_1 {s : List Nat} (h : s.all okc = true) (h10 : 10 ∉ s) : s.all okc1 = true ∧ 34 ∉ s ∧ 92 ∉ s := by
  refine ⟨?_, ?_, ?_⟩
  · rw [List.all_eq_true] at h ⊢
    intro c hc
    have := h c hc
    simp only [okc, Bool.or_eq_true, beq_iff_eq, Bool.and_eq_true, decide_eq_true_eq, bne_iff_ne, ne_eq] at this
    rcases this with rfl | this
    · exact absurd hc h10
    · simp [okc1]
      omega
  · intro hc
    exact absurd (List.all_eq_true.mp h 34 hc) (by decide)
  · intro hc
    exact absurd (List.all_eq_true.mp h 92 hc) (by decide)
/-- one more part -/
theorem app_part {Q : Par} {S : Sto} {r : DL.Loc} {L : List (List Nat)} {e : Ex} {l : List Nat} (hr : r[2]? = some (some (.ref S.length))) (hl : L.length < 100) (he : semE Q e r (S ++ [.lst (L.map .str)]) = .ok (.str l) (S ++ [.lst (L.map .str)])) :
    semS (.expr (.mth .append (.var 2) (.cons e .nil))) Q r (S ++ [.lst (L.map .str)]) = .nx r (S ++ [.lst ((L ++ [l]).map .str)]) := by
  have hat : (S ++ [Ob.lst (L.map .str)])[S.length]? = some (.lst (L.map .str)) := by simp
  have ap : fAppend (.ref S.length) [.str l] (S ++ [.lst (L.map .str)]) = .ok .non (S ++ [.lst ((L ++ [l]).map .str)]) := by
    rw [fAppend_ref, hat]
    dsimp only
    rw [if_pos (by simp; omega), set_end]
    simp
  have mo : mtOk .append (.ref S.length) (S ++ [.lst (L.map .str)]) = true := by rw [mtOk_ref, hat]; rfl
  refine s_expr (d := .non) ?_
  rw [semE]
  dsimp only
  rw [semE]
  dsimp only
  rw [hr]
  simp only [bind_ok, mo, if_true, semEs]
  rw [he]
  simp only [bind_ok, mtF, ap]
theorem join_nil : ∀ ls : List (List Nat), joinS [] ls = ls.flatten
  | [] => rfl
  | [x] => by simp [joinS]
  | x :: y :: r => by
    rw [joinS, join_nil (y :: r)]
    simp
theorem join_parts {S : Sto} {L : List (List Nat)} (h : (L.map (·.length)).sum ≤ 1000000) : fJoin (.str []) [.ref S.length] (S ++ [.lst (L.map .str)]) = .ok (.str L.flatten) (S ++ [.lst (L.map .str)]) := by
  have hat : (S ++ [Ob.lst (L.map .str)])[S.length]? = some (.lst (L.map .str)) := by simp
  unfold fJoin
  dsimp only
  rw [vw_ref hat]
  dsimp only
  rw [strs_map]
  dsimp only
  rw [if_pos (by simpa using h), join_nil]
def qrest : Sms := match a_quoted_u with
  | .cons _ (.cons _ (.cons _ (.cons _ r))) => r
  | _ => .nil
/-- behind the loop: the last part, the quote -/
theorem quoted_end (k : Nat) {a b c : List Nat} {L : List (List Nat)} {S : Sto} (hl : (a ++ (b ++ 34 :: c)).length ≤ 1000000) (hb : b.all okc1 = true) (hL : L.length < 50) (hs : (L.map (·.length)).sum ≤ 500000) (hb2 : b.length ≤ 400000) (x4 x5 : Option DL.D) :
    semSs qrest { P with fn := run tb P (k + 2) } [some (.str (a ++ (b ++ 34 :: c))), some (.int (a.length : Nat)), some (.ref S.length), some (.int ((a.length + b.length : Nat) : Int)), x4, x5] (S ++ [.lst (L.map .str)])
      = .ret (.tup [.str (L.flatten ++ b), .int (((a.length + b.length : Nat) : Int) + 1)]) (S ++ [.lst ((L ++ [b]).map .str)]) := by
  have e1 := look_ok k hl hb (S := S ++ [.lst (L.map .str)]) (lo := (a.length : Nat)) (hi := ((a.length + b.length : Nat) : Int)) rfl rfl
  have e2 := sl_mid hl (S := S ++ [.lst (L.map .str)]) (lo := (a.length : Nat)) (hi := ((a.length + b.length : Nat) : Int)) rfl rfl
  have hlen : (((a.length + b.length : Nat) : Int) == ((a ++ (b ++ 34 :: c)).length : Int)) = false := by
    rw [beq_eq_false_iff_ne]
    simp
    omega
  refine ss_nx (s_expr (d := .non) (S2 := S ++ [.lst (L.map .str)]) ?_) ?_
  · simp only [semE, semEs, List.getElem?_cons_zero, List.getElem?_cons_succ, bind_ok, e1]
  refine ss_nx (s_if1 ?_) ?_
  · simp only [semB, semE, semEs, List.getElem?_cons_zero, List.getElem?_cons_succ, bind_ok, biF, fLen_str hl, coF, fEq_int, hlen, toB_bl]
  refine ss_nx (app_part (l := b) rfl (by omega) ?_) (ss_ret (s_ret0 ?_))
  · simp only [semE, semO, List.getElem?_cons_zero, List.getElem?_cons_succ, bind_ok, e2]
  · have ej := join_parts (S := S) (L := L ++ [b]) (by simp; omega)
    simp only [semE, semEs, List.getElem?_cons_zero, List.getElem?_cons_succ, bind_ok, mtOk_str, mtT, mtF, beq_self_eq_true, if_true, ej, boF, fAdd_int, List.flatten_append, List.flatten_cons, List.flatten_nil, List.append_nil]
theorem quoted_ok (k : Nat) {a s c : List Nat} (hl : (a ++ (esc s ++ 34 :: c)).length ≤ 900000) (hs : s.all okc = true) (hs2 : s.length ≤ 200) (h10 : 10 ∉ s ∨ ∃ s', s = s' ++ [10] ∧ 10 ∉ s') {S : Sto} {at_ : Int} (h : at_ = a.length) :
    run tb P (k + 3) 15 [.str (a ++ (esc s ++ 34 :: c)), .int at_] S = .ok (.tup [.str s, .int (at_ + (esc s).length + 1)]) S := by
  subst h
  rcases h10 with h10 | ⟨s', rfl, h10⟩
  · rw [esc_free h10] at *
    obtain ⟨o1, o2, o3⟩ := okc_1 hs h10
    have hl2 : (a ++ (s ++ 34 :: c)).length ≤ 1000000 := by omega
    have eq := quote_ok (k + 1) hl2 o2 (S := S ++ [.lst []]) (at_ := (a.length : Nat)) rfl
    have ef : fFind3 (.str (a ++ (s ++ 34 :: c))) [.str [92], .int (a.length : Nat), .int ((a.length + s.length : Nat) : Int)] (S ++ [.lst []]) = .ok (.int (-1)) (S ++ [.lst []]) := by
      unfold fFind3
      dsimp only
      rw [findIn_none (by simp) (fun i h1 h2 h3 => by
        rw [List.getElem?_append_right h1, List.getElem?_append_left (by omega)] at h3
        exact o3 (List.mem_of_getElem? h3))]
    have ee := quoted_end k (S := S) (L := []) hl2 o1 (by simp) (by simp) (by omega) (some (.int (-1))) none
    refine run_of (d := d_15) (x := .ret (.tup [.str s, .int ((a.length : Nat) + (s.length : Nat) + 1)]) (S ++ [.lst ([s].map .str)])) rfl rfl ?_ (fin_plT (by simp [nr, nrs]))
    refine ss_nx (s_asg (d := .ref S.length) (S2 := S ++ [.lst []]) (by simp [semE, semEs]) rfl) ?_
    refine ss_nx (s_asg0 (.int ((a.length + s.length : Nat) : Int)) (by
      show semE _ _ [some (.str (a ++ (s ++ 34 :: c))), some (.int (a.length : Nat)), some (.ref S.length), none, none, none] _ = _
      simp only [semE, semEs, List.getElem?_cons_zero, List.getElem?_cons_succ, bind_ok, eq]) rfl) ?_
    refine ss_nx (s_asg0 (.int (-1)) (by
      show semE _ _ [some (.str (a ++ (s ++ 34 :: c))), some (.int (a.length : Nat)), some (.ref S.length), some (.int ((a.length + s.length : Nat) : Int)), none, none] _ = _
      simp only [semE, semEs, List.getElem?_cons_zero, List.getElem?_cons_succ, bind_ok, mtOk_str, mtT, mtF, beq_self_eq_true, if_true, ef]) rfl) ?_
    refine ss_nx (s_whl0 (n := 999) rfl (by
      show semB _ _ [some (.str (a ++ (s ++ 34 :: c))), some (.int (a.length : Nat)), some (.ref S.length), some (.int ((a.length + s.length : Nat) : Int)), some (.int (-1)), none] _ = _
      simp [semB, semE, coF])) ?_
    exact Eq.trans ee (by simp)
  · rw [esc_end h10] at *
    have hs' : s'.all okc = true := by
      rw [List.all_append, Bool.and_eq_true] at hs
      exact hs.1
    obtain ⟨o1, o2, o3⟩ := okc_1 hs' h10
    have hlen : s'.length ≤ 200 := by simp at hs2; omega
    -- the text, cut at four places
    have t1 : a ++ (s' ++ [92, 110] ++ 34 :: c) = a ++ (s' ++ (92 :: 110 :: 34 :: c)) := by simp
    have t2 : a ++ (s' ++ [92, 110] ++ 34 :: c) = (a ++ s' ++ [92]) ++ ([110] ++ (34 :: c)) := by simp
    have t3 : a ++ (s' ++ [92, 110] ++ 34 :: c) = (a ++ s' ++ [92, 110]) ++ ([] ++ 34 :: c) := by simp
    generalize hT : a ++ (s' ++ [92, 110] ++ 34 :: c) = T at *
    have hl2 : T.length ≤ 1000000 := by omega
    have n34 : 34 ∉ s' ++ [92, 110] := by simp [o2]
    have eq : run tb P (k + 2) 16 [.str T, .int (a.length : Nat)] (S ++ [.lst []]) = .ok (.int ((a.length + (s' ++ [92, 110]).length : Nat) : Int)) (S ++ [.lst []]) := by
      rw [← hT] at hl2 ⊢
      exact quote_ok (k + 1) hl2 n34 rfl
    have eE : ((a.length + (s' ++ [92, 110]).length : Nat) : Int) = ((a.length + s'.length + 2 : Nat) : Int) := by simp; omega
    rw [eE] at eq
    have hTl : T.length = a.length + s'.length + 3 + c.length := by rw [← hT]; simp; omega
    have ef : fFind3 (.str T) [.str [92], .int (a.length : Nat), .int ((a.length + s'.length + 2 : Nat) : Int)] (S ++ [.lst []]) = .ok (.int ((a.length + s'.length : Nat) : Int)) (S ++ [.lst []]) := by
      unfold fFind3
      dsimp only
      rw [findIn_some (i := a.length + s'.length) (by omega) (by omega) (by omega)]
      · rw [t1, List.getElem?_append_right (by omega), show a.length + s'.length - a.length = s'.length by omega, List.getElem?_append_right (Nat.le_refl _)]
        simp
      · intro j h1 h2 h3
        rw [t1, List.getElem?_append_right h1, List.getElem?_append_left (by omega)] at h3
        exact o3 (List.mem_of_getElem? h3)
    have look : ∀ S, run tb P (k + 2) 17 [.str T, .int (a.length : Nat), .int ((a.length + s'.length : Nat) : Int)] S = .ok .non S := fun S => by
      rw [t1]
      exact look_ok k (by rw [← t1]; exact hl2) o1 rfl rfl
    have sgn : ∀ S, fSl (.str T) (some (((a.length + s'.length : Nat) : Int) + 1)) (some (((a.length + s'.length : Nat) : Int) + 2)) S = .ok (.str [110]) S := fun S => by
      rw [t2]
      exact sl_mid (by rw [← t2]; exact hl2) (by simp; omega) (by simp; omega)
    have sl1 : ∀ S, fSl (.str T) (some (a.length : Nat)) (some ((a.length + s'.length : Nat) : Int)) S = .ok (.str s') S := fun S => by
      rw [t1]
      exact sl_mid (by rw [← t1]; exact hl2) rfl rfl
    have q2 : ∀ S, run tb P (k + 2) 16 [.str T, .int (((a.length + s'.length : Nat) : Int) + 2)] S = .ok (.int ((a.length + s'.length + 2 : Nat) : Int)) S := fun S => by
      rw [t3]
      have := quote_ok (k + 1) (a := a ++ s' ++ [92, 110]) (b := []) (c := c) (by rw [← t3]; exact hl2) (by simp) (S := S) (at_ := ((a.length + s'.length : Nat) : Int) + 2) (by simp; omega)
      have i1 : (a ++ s' ++ [92, 110]).length + ([] : List Nat).length = a.length + s'.length + 2 := by
        simp
        omega
      rw [this, i1]
    have f2 : ∀ S, fFind3 (.str T) [.str [92], .int (((a.length + s'.length : Nat) : Int) + 2), .int ((a.length + s'.length + 2 : Nat) : Int)] S = .ok (.int (-1)) S := fun S => by
      unfold fFind3
      dsimp only
      rw [show ((a.length + s'.length : Nat) : Int) + 2 = ((a.length + s'.length + 2 : Nat) : Int) by omega, findIn_none (by omega) (fun i h1 h2 _ => by omega)]
    have nin : ∀ S, fNotIn (.str [110]) (.tup [.str [92], .str [34], .str [110]]) S = .ok (.bl false) S := fun S => rfl
    have en : ∀ S, fEq (.str [110]) (.str [110]) S = .ok (.bl true) S := fun S => by rw [fEq_str (by decide) (by decide)]; rfl
    have ee := quoted_end k (S := S) (a := a ++ s' ++ [92, 110]) (b := []) (c := c) (L := [s', [10]]) (by rw [← t3]; exact hl2) rfl (by simp) (by simp; omega) (by simp) (some (.int (-1))) (some (.str [110]))
    rw [← t3] at ee
    refine run_of (d := d_15) (x := .ret (.tup [.str (s' ++ [10]), .int ((a.length : Nat) + ((s' ++ [92, 110]).length : Nat) + 1)]) (S ++ [.lst ([s', [10], []].map .str)])) rfl rfl ?_ (fin_plT (by simp [nr, nrs]))
    refine ss_nx (s_asg (d := .ref S.length) (S2 := S ++ [.lst []]) (by simp [semE, semEs]) rfl) ?_
    refine ss_nx (s_asg0 (.int ((a.length + s'.length + 2 : Nat) : Int)) (by
      show semE _ _ [some (.str T), some (.int (a.length : Nat)), some (.ref S.length), none, none, none] _ = _
      simp only [semE, semEs, List.getElem?_cons_zero, List.getElem?_cons_succ, bind_ok, eq]) rfl) ?_
    refine ss_nx (s_asg0 (.int ((a.length + s'.length : Nat) : Int)) (by
      show semE _ _ [some (.str T), some (.int (a.length : Nat)), some (.ref S.length), some (.int ((a.length + s'.length + 2 : Nat) : Int)), none, none] _ = _
      simp only [semE, semEs, List.getElem?_cons_zero, List.getElem?_cons_succ, bind_ok, mtOk_str, mtT, mtF, beq_self_eq_true, if_true, ef]) rfl) ?_
    have hge : (0 : Int) ≤ ((a.length + s'.length : Nat) : Int) := by omega
    refine ss_nx (s_whl (x := .nx [some (.str T), some (.int (((a.length + s'.length : Nat) : Int) + 2)), some (.ref S.length), some (.int ((a.length + s'.length + 2 : Nat) : Int)), some (.int (-1)), some (.str [110])] (S ++ [.lst ([s', [10]].map .str)])) ?_) ?_
    · show whileG _ _ (998 + 1 + 1) [some (.str T), some (.int (a.length : Nat)), some (.ref S.length), some (.int ((a.length + s'.length + 2 : Nat) : Int)), some (.int ((a.length + s'.length : Nat) : Int)), none] _ = _
      refine (whl_one (S2 := S ++ [.lst ([s', [10]].map .str)]) (by simp only [semB, semE, List.getElem?_cons_zero, List.getElem?_cons_succ, bind_ok, coF, fGe_int, hge, decide_true, toB_bl]) ?_).trans (whl_end (by simp [semB, semE, coF]))
      refine ss_nx (s_expr (d := .non) (S2 := S ++ [.lst []]) (by simp only [semE, semEs, List.getElem?_cons_zero, List.getElem?_cons_succ, bind_ok, look])) ?_
      refine ss_nx (s_asg0 (.str [110]) (by simp only [semE, semO, List.getElem?_cons_zero, List.getElem?_cons_succ, bind_ok, boF, fAdd_int, sgn]) rfl) ?_
      refine ss_nx (s_if1 (by
        show semB _ _ [some (.str T), some (.int (a.length : Nat)), some (.ref S.length), some (.int ((a.length + s'.length + 2 : Nat) : Int)), some (.int ((a.length + s'.length : Nat) : Int)), some (.str [110])] _ = _
        simp only [semB, semE, semEs, List.getElem?_cons_zero, List.getElem?_cons_succ, bind_ok, coF, nin, toB_bl])) ?_
      refine ss_nx (app_part (L := []) (l := s') rfl (by simp) (by
        show semE _ _ [some (.str T), some (.int (a.length : Nat)), some (.ref S.length), some (.int ((a.length + s'.length + 2 : Nat) : Int)), some (.int ((a.length + s'.length : Nat) : Int)), some (.str [110])] _ = _
        simp only [semE, semO, List.getElem?_cons_zero, List.getElem?_cons_succ, bind_ok, sl1])) ?_
      refine ss_nx (app_part (L := [s']) (l := [10]) rfl (by simp) (by
        show semE _ _ [some (.str T), some (.int (a.length : Nat)), some (.ref S.length), some (.int ((a.length + s'.length + 2 : Nat) : Int)), some (.int ((a.length + s'.length : Nat) : Int)), some (.str [110])] _ = _
        simp only [semE, semB, List.getElem?_cons_zero, List.getElem?_cons_succ, bind_ok, coF, en, toB_bl, if_true])) ?_
      refine ss_nx (s_asg0 (.int (((a.length + s'.length : Nat) : Int) + 2)) (by
        show semE _ _ [some (.str T), some (.int (a.length : Nat)), some (.ref S.length), some (.int ((a.length + s'.length + 2 : Nat) : Int)), some (.int ((a.length + s'.length : Nat) : Int)), some (.str [110])] _ = _
        simp only [semE, List.getElem?_cons_zero, List.getElem?_cons_succ, bind_ok, boF, fAdd_int]) rfl) ?_
      refine ss_nx (s_asg0 (.int ((a.length + s'.length + 2 : Nat) : Int)) (by
        show semE _ _ [some (.str T), some (.int (((a.length + s'.length : Nat) : Int) + 2)), some (.ref S.length), some (.int ((a.length + s'.length + 2 : Nat) : Int)), some (.int ((a.length + s'.length : Nat) : Int)), some (.str [110])] _ = _
        simp only [semE, semEs, List.getElem?_cons_zero, List.getElem?_cons_succ, bind_ok, q2]) rfl) ?_
      exact ss_nx (s_asg0 (.int (-1)) (by
        show semE _ _ [some (.str T), some (.int (((a.length + s'.length : Nat) : Int) + 2)), some (.ref S.length), some (.int ((a.length + s'.length + 2 : Nat) : Int)), some (.int ((a.length + s'.length : Nat) : Int)), some (.str [110])] _ = _
        simp only [semE, semEs, List.getElem?_cons_zero, List.getElem?_cons_succ, bind_ok, mtOk_str, mtT, mtF, beq_self_eq_true, if_true, f2]) rfl) ss0
    · have i1 : ((a ++ s' ++ [92, 110]).length : Nat) = a.length + s'.length + 2 := by simp; omega
      rw [i1] at ee
      have i2 : ((a.length + s'.length + 2 : Nat) : Int) = ((a.length + s'.length : Nat) : Int) + 2 := by omega
      have i3 : (((a.length : Nat) : Int) + (((s' ++ [92, 110]).length : Nat) : Int) + 1) = (((a.length + s'.length + 2 + ([] : List Nat).length : Nat) : Int) + 1) := by simp; omega
      rw [i3]
      rw [i2] at ee ⊢
      exact Eq.trans ee (by simp)
end K37
set_option Elab.async false
set_option linter.all false
set_option maxRecDepth 100000
set_option maxHeartbeats 2000000
/-! NA: numbers. -/
namespace K37
open PySem L2 DL
def dgs (w : List Nat) : Bool := w.all fun c => decide (48 ≤ c) && decide (c ≤ 57)
def asc (w : List Nat) : Bool := w.all fun c => decide (c < 128)
theorem tx_ascii (w : List Nat) : Txt.isascii (strO w) = asc w := by simp [Txt.isascii, strO, asc]
theorem digit128 : ∀ c, c < 128 → Unicode.isDigit c = (decide (48 ≤ c) && decide (c ≤ 57)) := by decide +kernel
theorem tx_digit {w : List Nat} (h : asc w = true) : Txt.isdigit (strO w) = (!w.isEmpty && dgs w) := by
  have hl : (strO w).length = w.length := st_len w
  unfold Txt.isdigit
  rw [hl]
  have e : (strO w).cps.all Unicode.isDigit = w.all Unicode.isDigit := by simp [strO]
  rw [e]
  have e2 : w.all Unicode.isDigit = dgs w := by
    unfold dgs
    unfold asc at h
    rw [List.all_eq_true] at h
    rw [Bool.eq_iff_iff, List.all_eq_true, List.all_eq_true]
    exact ⟨fun q c hc => by rw [← digit128 c (by simpa using h c hc)]; exact q c hc, fun q c hc => by rw [digit128 c (by simpa using h c hc)]; exact q c hc⟩
  rw [e2]
  cases w <;> simp
theorem dgs_asc {w : List Nat} (h : dgs w = true) : asc w = true := by
  unfold dgs at h
  unfold asc
  rw [List.all_eq_true] at h ⊢
  intro c hc
  have := h c hc
  simp only [Bool.and_eq_true, decide_eq_true_eq] at this ⊢
  omega
theorem dgs_all {w : List Nat} (h : dgs w = true) : NumText.AllDigits w := by
  unfold dgs at h
  rw [List.all_eq_true] at h
  intro c hc
  have := h c hc
  simpa using this
theorem cut_from {α : Type} (w : List α) (k : Nat) : cut w (some (k : Int)) none = w.drop k := by
  unfold cut
  rw [HT.sIx_nat, HT.sIx_none]
  by_cases h : k ≤ w.length
  · rw [Nat.min_eq_left h, List.take_of_length_le (by simp)]
  · rw [Nat.min_eq_right (by omega), List.drop_of_length_le (Nat.le_refl _), List.drop_of_length_le (by omega)]
    simp
theorem cut_to {α : Type} (w : List α) (k : Nat) : cut w none (some (k : Int)) = w.take k := by
  unfold cut
  rw [HT.sIx_nat, HT.sIx_none]
  simp
theorem sl_from {S : Sto} {w : List Nat} (h : w.length ≤ 1000000) (k : Nat) : fSl (.str w) (some (k : Int)) none S = .ok (.str (w.drop k)) S := by
  unfold fSl
  simp only [vw_str, h, if_true, cut_from]
theorem tx_minus (w : List Nat) : Txt.startswith (strO w) (strO [45]) = (w.head? == some 45) := by
  unfold Txt.startswith Builtin.Str.subAt
  cases w with
  | nil => rfl
  | cons c w =>
    simp [strO, Str.length]
/-- the number that a word tells, of at most 8 figures -/
def bare (w : List Nat) : List Nat := if w.head? = some 45 then w.drop 1 else w
def valS (w : List Nat) : Int := if w.head? = some 45 then -(NumText.digitsVal (w.drop 1) : Int) else (NumText.digitsVal w : Int)
def numS (w : List Nat) : Option Int := if (bare w).isEmpty || !dgs (bare w) || decide (8 < (bare w).length) then none else if (bare w).head? = some 48 ∧ w ≠ [48] then none else some (valS w)
theorem int_of {w : List Nat} (h : dgs (bare w) = true) (h1 : bare w ≠ []) (h2 : (bare w).length ≤ 100) {S : Sto} : fInt [.str w] S = .ok (.int (valS w)) S := by
  have hx : (⟨w.toArray⟩ : Str).cps.toList = w := by simp
  have hl : (⟨w.toArray⟩ : Str).length = w.length := str_len w
  unfold fInt
  by_cases hm : w.head? = some 45
  · cases w with
    | nil => cases hm
    | cons c cs =>
      simp at hm
      subst hm
      have hb : bare (45 :: cs) = cs := by simp [bare]
      rw [hb] at h h1 h2
      have e := PySem.intText_neg (x := ⟨(45 :: cs).toArray⟩) (cs := cs) (by simp) (dgs_all h) h1 (by rw [str_len]; simp; omega)
      dsimp only
      rw [e]
      simp [valS]
      omega
  · have hb : bare w = w := by simp [bare, hm]
    rw [hb] at h h1 h2
    have e := PySem.intText_digits (x := ⟨w.toArray⟩) (by rw [hx]; exact dgs_all h) (by rw [hx]; exact h1) (by rw [hl]; omega)
    rw [hx] at e
    dsimp only
    rw [e]
    simp [valS, hm]
    omega
end K37
set_option Elab.async false
set_option linter.all false
set_option maxRecDepth 100000
set_option maxHeartbeats 4000000
/-! N9: a number, read. -/
namespace K37
open PySem L2 DL
def isF (c : Nat) : Bool := decide (48 ≤ c) && decide (c ≤ 57)
theorem figs_has : ∀ c : Nat, (strO [48, 49, 50, 51, 52, 53, 54, 55, 56, 57]).cps.contains c = isF c := by
  intro c
  rw [Bool.eq_iff_iff]
  simp [strO, isF]
  omega
theorem lstrip_ok {w : List Nat} (hl : w.length ≤ 1000000) {S : Sto} : fTx1 Txt.lstripChars (.str w) [.str [48, 49, 50, 51, 52, 53, 54, 55, 56, 57]] S = .ok (.str (w.drop (w.takeWhile isF).length)) S := by
  unfold fTx1
  dsimp only
  rw [if_pos hl]
  congr 1
  unfold strL
  congr 1
  unfold Txt.lstripChars
  rw [PyProof.Rows.stripBy_eq]
  have e : stripLo (strO [48, 49, 50, 51, 52, 53, 54, 55, 56, 57]).cps.contains true (strO w) = (w.takeWhile isF).length := by
    unfold stripLo
    rw [if_pos rfl]
    have : (strO [48, 49, 50, 51, 52, 53, 54, 55, 56, 57]).cps.contains = isF := funext figs_has
    rw [this]
    rfl
  rw [e]
  have e2 : ∀ lo, stripHi (strO [48, 49, 50, 51, 52, 53, 54, 55, 56, 57]).cps.contains false (strO w) lo = (strO w).length := fun lo => rfl
  rw [e2]
  exact TL.tl_strSub_end (strO w) _
theorem take_figs {w p : List Nat} (hw : ∀ c ∈ w, isF c = true) (hp : p = [] ∨ ∃ c r, p = c :: r ∧ isF c = false) : ((w ++ p).takeWhile isF) = w := by
  induction w with
  | nil =>
    rcases hp with rfl | ⟨c, r, rfl, hc⟩
    · rfl
    · simp [List.takeWhile_cons, hc]
  | cons c w ih =>
    rw [List.cons_append, List.takeWhile_cons, hw c (by simp), if_pos rfl, ih fun d hd => hw d (by simp [hd])]
theorem ix_mid {a b : List Nat} {c : Nat} {lo : Int} {S : Sto} (hl : (a ++ c :: b).length ≤ 1000000) (h : lo = a.length) : fIx (.str (a ++ c :: b)) (.int lo) S = .ok (.str [c]) S := by
  subst h
  rw [fIx_str hl, at_nat, List.getElem?_append_right (Nat.le_refl _)]
  simp
theorem cut_take {α : Type} {a b : List α} {n : Nat} : cut (a ++ b) (some (a.length : Int)) (some ((a.length + n : Nat) : Int)) = b.take n := by
  unfold cut
  rw [HT.sIx_nat, HT.sIx_nat]
  have e1 : min a.length (a ++ b).length = a.length := by simp
  rw [e1, List.drop_left, List.length_append]
  by_cases h : n ≤ b.length
  · rw [show min (a.length + n) (a.length + b.length) - a.length = n by omega]
  · rw [show min (a.length + n) (a.length + b.length) - a.length = b.length by omega, List.take_of_length_le (Nat.le_refl _), List.take_of_length_le (by omega)]
theorem sl_take {a b : List Nat} {n : Nat} {lo hi : Int} {S : Sto} (hl : (a ++ b).length ≤ 1000000) (h1 : lo = a.length) (h2 : hi = (a.length + n : Nat)) : fSl (.str (a ++ b)) (some lo) (some hi) S = .ok (.str (b.take n)) S := by
  subst h1 h2
  unfold fSl
  simp only [vw_str]
  rw [if_pos hl, cut_take]
theorem gD : P.gc "MOST_DIGITS" = some (.int 20) := by simp [P]
/-- a number without a sign -/
theorem integer_ok (k : Nat) {a w p : List Nat} (hl : (a ++ (w ++ p)).length ≤ 900000) (hw : dgs w = true) (hne : w ≠ []) (hw2 : w.length ≤ 20) (h0 : w.head? = some 48 → w = [48]) (hp : p = [] ∨ ∃ c r, p = c :: r ∧ isF c = false) {S : Sto} {at_ : Int} (h : at_ = a.length) :
    run tb P (k + 1) 18 [.str (a ++ (w ++ p)), .int at_] S = .ok (.tup [.int (valS w), .int (at_ + w.length)]) S := by
  subst h
  obtain ⟨c, cs, rfl⟩ := List.exists_cons_of_ne_nil hne
  have hc : isF c = true := by
    have := dgs_all hw c (by simp)
    simp [isF]
    omega
  have hall : ∀ d ∈ c :: cs, isF d = true := fun d hd => by
    have := dgs_all hw d hd
    simp [isF]
    omega
  have hn45 : ¬ c = 45 := by
    rintro rfl
    exact absurd hc (by decide)
  have hl2 : (a ++ (c :: cs ++ p)).length ≤ 1000000 := by omega
  have oc : okS [c] = true := by
    simp [okS]
    simp [isF] at hc
    omega
  have e1 : fIx (.str (a ++ (c :: cs ++ p))) (.int (a.length : Nat)) S = .ok (.str [c]) S := ix_mid (b := cs ++ p) hl2 rfl
  have e2 : fEq (.str [c]) (.str [45]) S = .ok (.bl false) S := by rw [fEq_str oc (by decide)]; simp [hn45]
  have e3 : fSl (.str (a ++ (c :: cs ++ p))) (some (a.length : Nat)) (some (((a.length : Nat) : Int) + 20 + 1)) S = .ok (.str ((c :: cs ++ p).take 21)) S := sl_take (n := 21) hl2 rfl (by omega)
  have et : (c :: cs ++ p).take 21 = c :: cs ++ p.take (21 - (c :: cs).length) := by
    rw [List.take_append, List.take_of_length_le (by omega)]
  have hp2 : p.take (21 - (c :: cs).length) = [] ∨ ∃ d r, p.take (21 - (c :: cs).length) = d :: r ∧ isF d = false := by
    rcases hp with rfl | ⟨d, r, rfl, hd⟩
    · exact .inl (by simp)
    · obtain ⟨m, hm⟩ : ∃ m, 21 - (c :: cs).length = m + 1 := ⟨20 - (c :: cs).length, by omega⟩
      exact .inr ⟨d, r.take m, by rw [hm]; rfl, hd⟩
  generalize p.take (21 - (c :: cs).length) = p2 at *
  rw [et] at e3
  have hlen2 : (c :: cs ++ p2).length ≤ 1000000 := by
    have := congrArg List.length et
    rw [List.length_take] at this
    omega
  have e4 := lstrip_ok hlen2 (S := S)
  rw [take_figs hall hp2] at e4
  rw [List.drop_left] at e4
  have hl3 : p2.length ≤ 1000000 := by simp at hlen2; omega
  have e5 : fIx (.str (c :: cs ++ p2)) (.int 0) S = .ok (.str [c]) S := by rw [fIx_str hlen2]; simp
  have e6 : fEq (.str [c]) (.str [48]) S = .ok (.bl (c == 48)) S := by rw [fEq_str oc (by decide)]; simp
  have e7 : fSl (.str (a ++ (c :: cs ++ p))) (some (a.length : Nat)) (some (((a.length : Nat) : Int) + ((c :: cs).length : Nat))) S = .ok (.str (c :: cs)) S := sl_mid hl2 rfl (by omega)
  have hbare : bare (c :: cs) = c :: cs := by simp [bare, hn45]
  have e8 : fInt [.str (c :: cs)] S = .ok (.int (valS (c :: cs))) S := int_of (by rw [hbare]; exact hw) (by rw [hbare]; simp) (by rw [hbare]; omega)
  have hmany : ((c :: cs ++ p2).length : Int) - (p2.length : Int) = ((c :: cs).length : Nat) := by simp; omega
  have hz : (c == 48 && decide (1 < (c :: cs).length)) = false := by
    cases hq : (c == 48) with
    | false => rfl
    | true =>
      have hq : c = 48 := by simpa using hq
      have := h0 (by simp [hq])
      simp [this]
  refine run_of (d := d_18) (x := .ret (.tup [.int (valS (c :: cs)), .int (((a.length : Nat) : Int) + ((c :: cs).length : Nat))]) S) rfl rfl ?_ (fin_pl rfl)
  generalize hW : c :: cs = W at *
  generalize hT : a ++ (W ++ p) = T at *
  refine ss_nx (s_asg0 (.int (a.length : Nat)) (by
    show semE _ _ [some (.str T), some (.int (a.length : Nat)), none, none, none] S = _
    simp only [semE, semB, List.getElem?_cons_zero, List.getElem?_cons_succ, bind_ok, e1, coF, e2, toB_bl, Bool.false_eq_true, if_false]) rfl) ?_
  refine ss_nx (s_asg0 (.str (W ++ p2)) (by
    show semE _ _ [some (.str T), some (.int (a.length : Nat)), some (.int (a.length : Nat)), none, none] S = _
    simp only [semE, semO, List.getElem?_cons_zero, List.getElem?_cons_succ, bind_ok, boF, gD, fAdd_int, e3]) rfl) ?_
  refine ss_nx (s_asg0 (.int (W.length : Nat)) (by
    show semE _ _ [some (.str T), some (.int (a.length : Nat)), some (.int (a.length : Nat)), some (.str (W ++ p2)), none] S = _
    simp only [semE, semEs, List.getElem?_cons_zero, List.getElem?_cons_succ, bind_ok, boF, biF, fLen_str hlen2, mtOk_str, mtT, mtF, beq_self_eq_true, if_true, e4, fLen_str hl3, fSub_int, hmany]) rfl) ?_
  have hWl : 0 < W.length := by rw [← hW]; simp
  have q0 : (((W.length : Nat) : Int) == 0) = false := by rw [beq_eq_false_iff_ne]; omega
  refine ss_nx (s_if1 (by
    show semB _ _ [some (.str T), some (.int (a.length : Nat)), some (.int (a.length : Nat)), some (.str (W ++ p2)), some (.int (W.length : Nat))] S = _
    simp only [semB, semE, List.getElem?_cons_zero, List.getElem?_cons_succ, bind_ok, coF, fEq_int, q0, toB_bl])) ?_
  refine ss_nx (s_if1 (by
    show semB _ _ [some (.str T), some (.int (a.length : Nat)), some (.int (a.length : Nat)), some (.str (W ++ p2)), some (.int (W.length : Nat))] S = _
    simp only [semB, semAll, semE, List.getElem?_cons_zero, List.getElem?_cons_succ, bind_ok, coF, e5, e6, toB_bl, fGt_int]
    cases (c == 48) <;> simp)) ?_
  refine ss_nx (s_if1 (by
    show semB _ _ [some (.str T), some (.int (a.length : Nat)), some (.int (a.length : Nat)), some (.str (W ++ p2)), some (.int (W.length : Nat))] S = _
    simp only [semB, semAll, semE, List.getElem?_cons_zero, List.getElem?_cons_succ, bind_ok, coF, e5, e6, toB_bl, fGt_int]
    cases hq : (c == 48) with
    | false => rfl
    | true =>
      rw [hq] at hz
      have h1 : ¬ (1 : Int) < (W.length : Nat) := by
        intro hh
        have : 1 < W.length := by omega
        simp [this] at hz
      simp only [if_true, h1, decide_false, bind_ok]
      rfl)) ?_
  have q20 : ¬ (20 : Int) < (W.length : Nat) := by omega
  refine ss_nx (s_if1 (by
    show semB _ _ [some (.str T), some (.int (a.length : Nat)), some (.int (a.length : Nat)), some (.str (W ++ p2)), some (.int (W.length : Nat))] S = _
    simp only [semB, semE, List.getElem?_cons_zero, List.getElem?_cons_succ, bind_ok, coF, gD, fGt_int, q20, decide_false, toB_bl])) (ss_ret (s_ret0 ?_))
  show semE _ _ [some (.str T), some (.int (a.length : Nat)), some (.int (a.length : Nat)), some (.str (W ++ p2)), some (.int (W.length : Nat))] S = _
  simp only [semE, semEs, semO, List.getElem?_cons_zero, List.getElem?_cons_succ, bind_ok, boF, biF, fAdd_int, e7, e8]
end K37
set_option Elab.async false
set_option linter.all false
set_option maxRecDepth 100000
set_option maxHeartbeats 4000000
/-! NB: numbers told. -/
namespace K37
open PySem L2 DL
theorem digS_nat (n : Nat) : digS (n : Int) = TL.numL n := TL.tl_num n
theorem numL_head : ∀ (n : Nat), 0 < n → (TL.numL n).head? ≠ some 48 := by
  intro n
  induction n using Nat.strongRecOn with
  | _ n ih =>
    intro hp
    by_cases h : n < 10
    · rw [TL.numL_lt h]
      simp
      omega
    · rw [TL.numL_step (by omega)]
      have := ih (n / 10) (by omega) (by omega)
      have hne := TL.numL_ne (n / 10)
      cases hq : TL.numL (n / 10) with
      | nil => exact absurd hq hne
      | cons c cs => rw [hq] at this; simpa using this
structure DF (i : Int) : Prop where
  dg : dgs (digS i) = true
  ne : digS i ≠ []
  len : (digS i).length ≤ 20
  head : (digS i).head? = some 48 → digS i = [48]
  val : valS (digS i) = i
theorem num_f {i : Int} (h0 : 0 ≤ i) (h1 : i.natAbs ≤ 1000000000000) : DF i := by
  obtain ⟨n, rfl⟩ : ∃ n : Nat, i = n := ⟨i.toNat, by omega⟩
  have hd := TL.numL_digits n
  have hne := TL.numL_ne n
  have hl : (TL.numL n).length ≤ 13 := TL.numL_len (by decide) (by simp at h1; omega)
  have hdg : dgs (TL.numL n) = true := by
    unfold dgs
    rw [List.all_eq_true]
    intro c hc
    have := hd c hc
    simp
    omega
  have hh : (TL.numL n).head? ≠ some 45 := by
    intro z
    have := hd 45 (by cases hq : TL.numL n with
      | nil => exact absurd hq hne
      | cons c cs => rw [hq] at z; simp at z; simp [z])
    omega
  refine ⟨by rw [digS_nat]; exact hdg, by rw [digS_nat]; exact hne, by rw [digS_nat]; omega, ?_, ?_⟩
  · rw [digS_nat]
    intro h
    by_cases hn : n = 0
    · subst hn
      rw [TL.numL_lt (by omega)]
    · exact absurd h (numL_head n (by omega))
  · rw [digS_nat]
    unfold valS
    rw [if_neg hh, TL.numL_val]
theorem dig_fig {i : Int} (h : 0 ≤ i) {c : Nat} (hc : c ∈ digS i) : 48 ≤ c ∧ c ≤ 57 := by
  obtain ⟨n, rfl⟩ : ∃ n : Nat, i = n := ⟨i.toNat, by omega⟩
  rw [digS_nat] at hc
  exact TL.numL_digits n c hc
theorem dig_inj {i j : Int} (h : 0 ≤ i) (h2 : 0 ≤ j) (e : digS i = digS j) : i = j := by
  obtain ⟨n, rfl⟩ : ∃ n : Nat, i = n := ⟨i.toNat, by omega⟩
  obtain ⟨m, rfl⟩ : ∃ n : Nat, j = n := ⟨j.toNat, by omega⟩
  rw [digS_nat, digS_nat] at e
  rw [TL.numL_inj e]
theorem dig_10 {n : Nat} (h : n < 10) : digS (n : Int) = [48 + n] := by rw [digS_nat, TL.numL_lt h]
theorem dig_m1 : digS (-1) = [45, 49] := by decide +kernel
theorem digS_m : P.gc "MOST_DIGITS" = some (.int 20) := gD
/-- minus one, read -/
theorem integer_m1 (k : Nat) {a p : List Nat} (hl : (a ++ ([45, 49] ++ p)).length ≤ 900000) (hp : p = [] ∨ ∃ c r, p = c :: r ∧ isF c = false) {S : Sto} {at_ : Int} (h : at_ = a.length) :
    run tb P (k + 1) 18 [.str (a ++ ([45, 49] ++ p)), .int at_] S = .ok (.tup [.int (-1), .int (at_ + 2)]) S := by
  subst h
  have hl2 : (a ++ ([45, 49] ++ p)).length ≤ 1000000 := by omega
  have t2 : a ++ ([45, 49] ++ p) = (a ++ [45]) ++ (49 :: p) := by simp
  have e1 : fIx (.str (a ++ ([45, 49] ++ p))) (.int (a.length : Nat)) S = .ok (.str [45]) S := ix_mid (b := [49] ++ p) hl2 rfl
  have e2 : fEq (.str [45]) (.str [45]) S = .ok (.bl true) S := by rw [fEq_str (by decide) (by decide)]; rfl
  have e3 : fSl (.str (a ++ ([45, 49] ++ p))) (some (((a.length : Nat) : Int) + 1)) (some (((a.length : Nat) : Int) + 1 + 20 + 1)) S = .ok (.str (49 :: p.take 20)) S := by
    rw [t2] at hl2 ⊢
    exact sl_take (n := 21) hl2 (by simp) (by simp; omega)
  have hp2 : p.take 20 = [] ∨ ∃ d r, p.take 20 = d :: r ∧ isF d = false := by
    rcases hp with rfl | ⟨d, r, rfl, hd⟩
    · exact .inl (by simp)
    · exact .inr ⟨d, r.take 19, rfl, hd⟩
  have hlp : (p.take 20).length ≤ 20 := by simp; omega
  have e7 : fSl (.str (a ++ ([45, 49] ++ p))) (some (a.length : Nat)) (some (((a.length : Nat) : Int) + 1 + 1)) S = .ok (.str [45, 49]) S := sl_mid hl2 rfl (by simp; omega)
  generalize p.take 20 = p2 at *
  have e4 := lstrip_ok (w := 49 :: p2) (by simp; omega) (S := S)
  rw [show 49 :: p2 = [49] ++ p2 from rfl, take_figs (by decide) hp2, List.drop_left] at e4
  have hlen2 : ([49] ++ p2).length ≤ 1000000 := by simp; omega
  have e5 : fIx (.str ([49] ++ p2)) (.int 0) S = .ok (.str [49]) S := by rw [fIx_str hlen2]; simp
  have e6 : fEq (.str [49]) (.str [48]) S = .ok (.bl false) S := by rw [fEq_str (by decide) (by decide)]; rfl
  have e8 : fInt [.str [45, 49]] S = .ok (.int (valS [45, 49])) S := int_of (by decide) (by decide) (by decide)
  have ev : valS [45, 49] = -1 := by decide
  have hl3 : p2.length ≤ 1000000 := by omega
  have hmany : (([49] ++ p2).length : Int) - (p2.length : Int) = 1 := by simp; omega
  refine run_of (d := d_18) (x := .ret (.tup [.int (-1), .int (((a.length : Nat) : Int) + 1 + 1)]) S) rfl rfl ?_ (by rw [show ((a.length : Nat) : Int) + 2 = ((a.length : Nat) : Int) + 1 + 1 by omega]; exact fin_pl rfl)
  rw [show 49 :: p2 = [49] ++ p2 from rfl] at e3
  generalize hT : a ++ ([45, 49] ++ p) = T at *
  refine ss_nx (s_asg0 (.int (((a.length : Nat) : Int) + 1)) (by
    show semE _ _ [some (.str T), some (.int (a.length : Nat)), none, none, none] S = _
    simp only [semE, semB, List.getElem?_cons_zero, List.getElem?_cons_succ, bind_ok, e1, coF, e2, toB_bl, if_true, boF, fAdd_int]) rfl) ?_
  refine ss_nx (s_asg0 (.str ([49] ++ p2)) (by
    show semE _ _ [some (.str T), some (.int (a.length : Nat)), some (.int (((a.length : Nat) : Int) + 1)), none, none] S = _
    simp only [semE, semO, List.getElem?_cons_zero, List.getElem?_cons_succ, bind_ok, boF, gD, fAdd_int, e3]) rfl) ?_
  refine ss_nx (s_asg0 (.int 1) (by
    show semE _ _ [some (.str T), some (.int (a.length : Nat)), some (.int (((a.length : Nat) : Int) + 1)), some (.str ([49] ++ p2)), none] S = _
    simp only [semE, semEs, List.getElem?_cons_zero, List.getElem?_cons_succ, bind_ok, boF, biF, fLen_str hlen2, mtOk_str, mtT, mtF, beq_self_eq_true, if_true, e4, fLen_str hl3, fSub_int, hmany]) rfl) ?_
  refine ss_nx (s_if1 (by
    show semB _ _ [some (.str T), some (.int (a.length : Nat)), some (.int (((a.length : Nat) : Int) + 1)), some (.str ([49] ++ p2)), some (.int 1)] S = _
    simp only [semB, semE, List.getElem?_cons_zero, List.getElem?_cons_succ, bind_ok, coF, fEq_int, toB_bl] <;> rfl)) ?_
  refine ss_nx (s_if1 (by
    show semB _ _ [some (.str T), some (.int (a.length : Nat)), some (.int (((a.length : Nat) : Int) + 1)), some (.str ([49] ++ p2)), some (.int 1)] S = _
    simp only [semB, semAll, semE, List.getElem?_cons_zero, List.getElem?_cons_succ, bind_ok, coF, e5, e6, toB_bl, fGt_int, Bool.false_eq_true, if_false])) ?_
  refine ss_nx (s_if1 (by
    show semB _ _ [some (.str T), some (.int (a.length : Nat)), some (.int (((a.length : Nat) : Int) + 1)), some (.str ([49] ++ p2)), some (.int 1)] S = _
    simp only [semB, semAll, semE, List.getElem?_cons_zero, List.getElem?_cons_succ, bind_ok, coF, e5, e6, toB_bl, fGt_int, Bool.false_eq_true, if_false])) ?_
  refine ss_nx (s_if1 (by
    show semB _ _ [some (.str T), some (.int (a.length : Nat)), some (.int (((a.length : Nat) : Int) + 1)), some (.str ([49] ++ p2)), some (.int 1)] S = _
    simp only [semB, semE, List.getElem?_cons_zero, List.getElem?_cons_succ, bind_ok, coF, gD, fGt_int, toB_bl] <;> rfl)) (ss_ret (s_ret0 ?_))
  show semE _ _ [some (.str T), some (.int (a.length : Nat)), some (.int (((a.length : Nat) : Int) + 1)), some (.str ([49] ++ p2)), some (.int 1)] S = _
  simp only [semE, semEs, semO, List.getElem?_cons_zero, List.getElem?_cons_succ, bind_ok, boF, biF, fAdd_int, e7, e8, ev]
end K37
set_option Elab.async false
set_option linter.all false
set_option maxRecDepth 100000
set_option maxHeartbeats 4000000
/-! NC: plain values, read. -/
namespace K37
open PySem L2 DL
theorem in_figs : ∀ c : Nat, (48 ≤ c ∧ c ≤ 57) ∨ c = 45 → ∀ S, fIn (.str [c]) (.str [45, 48, 49, 50, 51, 52, 53, 54, 55, 56, 57]) S = .ok (.bl true) S := by
  intro c h S
  have : c = 45 ∨ c = 48 ∨ c = 49 ∨ c = 50 ∨ c = 51 ∨ c = 52 ∨ c = 53 ∨ c = 54 ∨ c = 55 ∨ c = 56 ∨ c = 57 := by omega
  have e : ∀ c, (c = 45 ∨ c = 48 ∨ c = 49 ∨ c = 50 ∨ c = 51 ∨ c = 52 ∨ c = 53 ∨ c = 54 ∨ c = 55 ∨ c = 56 ∨ c = 57) → subS [c] [45, 48, 49, 50, 51, 52, 53, 54, 55, 56, 57] = true := by
    rintro c (rfl | rfl | rfl | rfl | rfl | rfl | rfl | rfl | rfl | rfl | rfl) <;> decide +kernel
  rw [show fIn (.str [c]) (.str [45, 48, 49, 50, 51, 52, 53, 54, 55, 56, 57]) S = .ok (.bl (subS [c] [45, 48, 49, 50, 51, 52, 53, 54, 55, 56, 57])) S from rfl, e c this]
theorem eq_sign {c k : Nat} (hc : c < 200) (hk : k < 200) {S : Sto} : fEq (.str [c]) (.str [k]) S = .ok (.bl (c == k)) S := by
  rw [fEq_str (by simp [okS]; omega) (by simp [okS]; omega)]
  simp
theorem eq_nil {c : Nat} (hc : c < 200) {S : Sto} : fEq (.str [c]) (.str []) S = .ok (.bl false) S := by
  rw [fEq_str (by simp [okS]; omega) (by decide)]
  rfl
theorem sl_one {a b : List Nat} {c : Nat} {S : Sto} (hl : (a ++ c :: b).length ≤ 1000000) {hi lo : Int} (h1 : lo = a.length) (h2 : hi = (a.length : Int) + 1) : fSl (.str (a ++ c :: b)) (some lo) (some hi) S = .ok (.str [c]) S :=
  sl_mid (a := a) (b := [c]) (c := b) hl h1 (by subst h2; simp)
theorem sl_none {a : List Nat} {S : Sto} (hl : a.length ≤ 1000000) {hi lo : Int} (h1 : lo = a.length) (h2 : hi = (a.length : Int) + 1) : fSl (.str a) (some lo) (some hi) S = .ok (.str []) S := by
  have := sl_take (a := a) (b := []) (n := 1) (S := S) (lo := lo) (hi := hi) (by simpa using hl) h1 (by subst h2; simp)
  simpa using this
theorem value_int (k : Nat) {a r : List Nat} {c : Nat} (hl : (a ++ c :: r).length ≤ 1000000) (hc : (48 ≤ c ∧ c ≤ 57) ∨ c = 45) {at_ deep : Int} (h : at_ = a.length) {x : DL.D} (hx : nr 0 x = true) {S : Sto} (hr : run tb P k 18 [.str (a ++ c :: r), .int at_] S = .ok x S) :
    run tb P (k + 1) 13 [.str (a ++ c :: r), .int at_, .int deep] S = .ok x S := by
  subst h
  have e0 : fSl (.str (a ++ c :: r)) (some (a.length : Nat)) (some (((a.length : Nat) : Int) + 1)) S = .ok (.str [c]) S := sl_one hl rfl rfl
  have q : ∀ k, k < 200 → k ≠ 45 → (k < 48 ∨ 57 < k) → fEq (.str [c]) (.str [k]) S = .ok (.bl false) S := fun k hk h1 h2 => by
    rw [eq_sign (by omega) hk]
    have : (c == k) = false := by rw [beq_eq_false_iff_ne]; omega
    rw [this]
  generalize hT : a ++ c :: r = T at *
  refine run_of (d := d_13) (x := .ret x S) rfl rfl ?_ (fin_pl hx)
  refine ss_nx (s_asg0 (.str [c]) (by
    show semE _ _ [some (.str T), some (.int (a.length : Nat)), some (.int deep), none] S = _
    simp only [semE, semO, List.getElem?_cons_zero, List.getElem?_cons_succ, bind_ok, boF, fAdd_int, e0]) rfl) ?_
  refine ss_nx (s_if1 (by
    show semB _ _ [some (.str T), some (.int (a.length : Nat)), some (.int deep), some (.str [c])] S = _
    simp only [semB, semE, List.getElem?_cons_zero, List.getElem?_cons_succ, bind_ok, coF, eq_nil (c := c) (by omega), toB_bl])) ?_
  refine ss_nx (s_if1 (by
    show semB _ _ [some (.str T), some (.int (a.length : Nat)), some (.int deep), some (.str [c])] S = _
    simp only [semB, semE, List.getElem?_cons_zero, List.getElem?_cons_succ, bind_ok, coF, q 40 (by decide) (by decide) (by decide), toB_bl])) ?_
  refine ss_nx (s_if1 (by
    show semB _ _ [some (.str T), some (.int (a.length : Nat)), some (.int deep), some (.str [c])] S = _
    simp only [semB, semE, List.getElem?_cons_zero, List.getElem?_cons_succ, bind_ok, coF, q 34 (by decide) (by decide) (by decide), toB_bl])) ?_
  refine ss_ret (s_ifT (by
    show semB _ _ [some (.str T), some (.int (a.length : Nat)), some (.int deep), some (.str [c])] S = _
    simp only [semB, semE, List.getElem?_cons_zero, List.getElem?_cons_succ, bind_ok, coF, in_figs c hc, toB_bl]) (ss_ret (s_ret0 ?_)))
  show semE _ _ [some (.str T), some (.int (a.length : Nat)), some (.int deep), some (.str [c])] S = _
  simp only [semE, semEs, List.getElem?_cons_zero, List.getElem?_cons_succ, bind_ok, hr]
theorem value_tup (k : Nat) {a r : List Nat} (hl : (a ++ 40 :: r).length ≤ 1000000) {at_ deep : Int} (h : at_ = a.length) {x : DL.D} (hx : nr 0 x = true) {S : Sto} (hr : run tb P k 14 [.str (a ++ 40 :: r), .int at_, .int (deep + 1)] S = .ok x S) :
    run tb P (k + 1) 13 [.str (a ++ 40 :: r), .int at_, .int deep] S = .ok x S := by
  subst h
  have e0 : fSl (.str (a ++ 40 :: r)) (some (a.length : Nat)) (some (((a.length : Nat) : Int) + 1)) S = .ok (.str [40]) S := sl_one hl rfl rfl
  generalize hT : a ++ 40 :: r = T at *
  refine run_of (d := d_13) (x := .ret x S) rfl rfl ?_ (fin_pl hx)
  refine ss_nx (s_asg0 (.str [40]) (by
    show semE _ _ [some (.str T), some (.int (a.length : Nat)), some (.int deep), none] S = _
    simp only [semE, semO, List.getElem?_cons_zero, List.getElem?_cons_succ, bind_ok, boF, fAdd_int, e0]) rfl) ?_
  refine ss_nx (s_if1 (by
    show semB _ _ [some (.str T), some (.int (a.length : Nat)), some (.int deep), some (.str [40])] S = _
    simp only [semB, semE, List.getElem?_cons_zero, List.getElem?_cons_succ, bind_ok, coF, eq_nil (c := 40) (by omega), toB_bl])) ?_
  refine ss_ret (s_ifT (by
    show semB _ _ [some (.str T), some (.int (a.length : Nat)), some (.int deep), some (.str [40])] S = _
    simp only [semB, semE, List.getElem?_cons_zero, List.getElem?_cons_succ, bind_ok, coF, eq_sign (c := 40) (k := 40) (by omega) (by omega), toB_bl] <;> rfl) (ss_ret (s_ret0 ?_)))
  show semE _ _ [some (.str T), some (.int (a.length : Nat)), some (.int deep), some (.str [40])] S = _
  simp only [semE, semEs, List.getElem?_cons_zero, List.getElem?_cons_succ, bind_ok, boF, fAdd_int, hr]
theorem value_str (k : Nat) {a r : List Nat} (hl : (a ++ 34 :: r).length ≤ 1000000) {at_ deep : Int} (h : at_ = a.length) {x : DL.D} (hx : nr 0 x = true) {S : Sto} (hr : run tb P k 15 [.str (a ++ 34 :: r), .int (at_ + 1)] S = .ok x S) :
    run tb P (k + 1) 13 [.str (a ++ 34 :: r), .int at_, .int deep] S = .ok x S := by
  subst h
  have e0 : fSl (.str (a ++ 34 :: r)) (some (a.length : Nat)) (some (((a.length : Nat) : Int) + 1)) S = .ok (.str [34]) S := sl_one hl rfl rfl
  generalize hT : a ++ 34 :: r = T at *
  refine run_of (d := d_13) (x := .ret x S) rfl rfl ?_ (fin_pl hx)
  refine ss_nx (s_asg0 (.str [34]) (by
    show semE _ _ [some (.str T), some (.int (a.length : Nat)), some (.int deep), none] S = _
    simp only [semE, semO, List.getElem?_cons_zero, List.getElem?_cons_succ, bind_ok, boF, fAdd_int, e0]) rfl) ?_
  refine ss_nx (s_if1 (by
    show semB _ _ [some (.str T), some (.int (a.length : Nat)), some (.int deep), some (.str [34])] S = _
    simp only [semB, semE, List.getElem?_cons_zero, List.getElem?_cons_succ, bind_ok, coF, eq_nil (c := 34) (by omega), toB_bl])) ?_
  refine ss_nx (s_if1 (by
    show semB _ _ [some (.str T), some (.int (a.length : Nat)), some (.int deep), some (.str [34])] S = _
    simp only [semB, semE, List.getElem?_cons_zero, List.getElem?_cons_succ, bind_ok, coF, eq_sign (c := 34) (k := 40) (by omega) (by omega), toB_bl] <;> rfl)) ?_
  refine ss_ret (s_ifT (by
    show semB _ _ [some (.str T), some (.int (a.length : Nat)), some (.int deep), some (.str [34])] S = _
    simp only [semB, semE, List.getElem?_cons_zero, List.getElem?_cons_succ, bind_ok, coF, eq_sign (c := 34) (k := 34) (by omega) (by omega), toB_bl] <;> rfl) (ss_ret (s_ret0 ?_)))
  show semE _ _ [some (.str T), some (.int (a.length : Nat)), some (.int deep), some (.str [34])] S = _
  simp only [semE, semEs, List.getElem?_cons_zero, List.getElem?_cons_succ, bind_ok, boF, fAdd_int, hr]
/-- the three words of one sign -/
def one3 : Nat → Option DL.D
  | 84 => some (.bl true)
  | 70 => some (.bl false)
  | 78 => some .non
  | _ => none
theorem value_one (k : Nat) {a r : List Nat} {c : Nat} (hl : (a ++ c :: r).length ≤ 1000000) {x : DL.D} (hx : one3 c = some x) {at_ deep : Int} (h : at_ = a.length) {S : Sto} :
    run tb P (k + 1) 13 [.str (a ++ c :: r), .int at_, .int deep] S = .ok (.tup [x, .int (at_ + 1)]) S := by
  subst h
  have hc : c = 84 ∨ c = 70 ∨ c = 78 := by
    unfold one3 at hx
    split at hx <;> simp_all
  have nx : nr 0 (.tup [x, .int (((a.length : Nat) : Int) + 1)]) = true := by
    rcases hc with rfl | rfl | rfl <;> (cases hx; rfl)
  have e0 : fSl (.str (a ++ c :: r)) (some (a.length : Nat)) (some (((a.length : Nat) : Int) + 1)) S = .ok (.str [c]) S := sl_one hl rfl rfl
  have ei : fIn (.str [c]) (.str [45, 48, 49, 50, 51, 52, 53, 54, 55, 56, 57]) S = .ok (.bl false) S := by
    have e : ∀ c, (c = 84 ∨ c = 70 ∨ c = 78) → subS [c] [45, 48, 49, 50, 51, 52, 53, 54, 55, 56, 57] = false := by
      rintro c (rfl | rfl | rfl) <;> decide +kernel
    rw [show fIn (.str [c]) (.str [45, 48, 49, 50, 51, 52, 53, 54, 55, 56, 57]) S = .ok (.bl (subS [c] [45, 48, 49, 50, 51, 52, 53, 54, 55, 56, 57])) S from rfl, e c hc]
  generalize hT : a ++ c :: r = T at *
  refine run_of (d := d_13) (x := .ret (.tup [x, .int (((a.length : Nat) : Int) + 1)]) S) rfl rfl ?_ (fin_pl nx)
  refine ss_nx (s_asg0 (.str [c]) (by
    show semE _ _ [some (.str T), some (.int (a.length : Nat)), some (.int deep), none] S = _
    simp only [semE, semO, List.getElem?_cons_zero, List.getElem?_cons_succ, bind_ok, boF, fAdd_int, e0]) rfl) ?_
  refine ss_nx (s_if1 (by
    show semB _ _ [some (.str T), some (.int (a.length : Nat)), some (.int deep), some (.str [c])] S = _
    simp only [semB, semE, List.getElem?_cons_zero, List.getElem?_cons_succ, bind_ok, coF, eq_nil (c := c) (by omega), toB_bl])) ?_
  refine ss_nx (s_if1 (by
    show semB _ _ [some (.str T), some (.int (a.length : Nat)), some (.int deep), some (.str [c])] S = _
    simp only [semB, semE, List.getElem?_cons_zero, List.getElem?_cons_succ, bind_ok, coF, eq_sign (c := c) (k := 40) (by omega) (by omega), toB_bl] <;> rcases hc with rfl | rfl | rfl <;> rfl)) ?_
  refine ss_nx (s_if1 (by
    show semB _ _ [some (.str T), some (.int (a.length : Nat)), some (.int deep), some (.str [c])] S = _
    simp only [semB, semE, List.getElem?_cons_zero, List.getElem?_cons_succ, bind_ok, coF, eq_sign (c := c) (k := 34) (by omega) (by omega), toB_bl] <;> rcases hc with rfl | rfl | rfl <;> rfl)) ?_
  refine ss_nx (s_if1 (by
    show semB _ _ [some (.str T), some (.int (a.length : Nat)), some (.int deep), some (.str [c])] S = _
    simp only [semB, semE, List.getElem?_cons_zero, List.getElem?_cons_succ, bind_ok, coF, ei, toB_bl])) ?_
  have t84 : ∀ k, k < 200 → semB { P with fn := run tb P k } (.cmp .eq (.var 3) (.str [k])) [some (.str T), some (.int (a.length : Nat)), some (.int deep), some (.str [c])] S = .ok (c == k) S := fun k hk => by
    simp only [semB, semE, List.getElem?_cons_zero, List.getElem?_cons_succ, bind_ok, coF, eq_sign (c := c) (k := k) (by omega) (by omega), toB_bl]
  have T8 : ∀ kk, kk < 200 → semB { P with fn := run tb P k } (.cmp .eq (.var 3) (.str [kk])) [some (.str T), some (.int (a.length : Nat)), some (.int deep), some (.str [c])] S = .ok (c == kk) S := fun kk hk => by
    simp only [semB, semE, List.getElem?_cons_zero, List.getElem?_cons_succ, bind_ok, coF, eq_sign (c := c) (k := kk) (by omega) (by omega), toB_bl]
  rcases hc with rfl | rfl | rfl
  · cases hx
    refine ss_ret (s_ifT (T8 84 (by omega)) (ss_ret (s_ret0 ?_)))
    show semE _ _ [some (.str T), some (.int (a.length : Nat)), some (.int deep), some (.str [84])] S = _
    simp only [semE, semEs, List.getElem?_cons_zero, List.getElem?_cons_succ, bind_ok, boF, fAdd_int]
  · cases hx
    refine ss_nx (s_if1 (T8 84 (by omega))) ?_
    refine ss_ret (s_ifT (T8 70 (by omega)) (ss_ret (s_ret0 ?_)))
    show semE _ _ [some (.str T), some (.int (a.length : Nat)), some (.int deep), some (.str [70])] S = _
    simp only [semE, semEs, List.getElem?_cons_zero, List.getElem?_cons_succ, bind_ok, boF, fAdd_int]
  · cases hx
    refine ss_nx (s_if1 (T8 84 (by omega))) ?_
    refine ss_nx (s_if1 (T8 70 (by omega))) ?_
    refine ss_ret (s_ifT (T8 78 (by omega)) (ss_ret (s_ret0 ?_)))
    show semE _ _ [some (.str T), some (.int (a.length : Nat)), some (.int deep), some (.str [78])] S = _
    simp only [semE, semEs, List.getElem?_cons_zero, List.getElem?_cons_succ, bind_ok, boF, fAdd_int]
end K37
set_option Elab.async false
set_option linter.all false
set_option maxRecDepth 100000
set_option maxHeartbeats 4000000
/-! ND: a plain value, read back. -/
namespace K37
open PySem L2 DL
/-- no figure behind -/
def nof : List Nat → Bool
  | [] => true
  | c :: _ => !isF c
theorem nof_or {p : List Nat} (h : nof p = true) : p = [] ∨ ∃ c r, p = c :: r ∧ isF c = false := by
  cases p with
  | nil => exact .inl rfl
  | cons c r => exact .inr ⟨c, r, rfl, by simpa [nof] using h⟩
mutual
/-- plain values that are read back -/
def rvD : Nat → DL.D → Bool
  | _, .non => true
  | _, .bl _ => true
  | _, .int i => (decide (0 ≤ i) && decide (i.natAbs ≤ 1000000000000)) || i == -1
  | _, .str s => s.all okc && decide (s.length ≤ 200) && (!s.contains 10 || (s.getLast? == some 10 && !s.dropLast.contains 10))
  | n + 1, .tup ds => rvs n ds && decide (ds.length ≤ 100)
  | _, _ => false
def rvs : Nat → List DL.D → Bool
  | _, [] => true
  | n, d :: ds => rvD n d && rvs n ds
end
theorem rvs_all {n : Nat} {ds : List DL.D} : rvs n ds = true ↔ ∀ d ∈ ds, rvD n d = true := by
  induction ds with
  | nil => simp [rvs]
  | cons d ds ih => simp [rvs, ih]
mutual
theorem rv_pv : ∀ (n : Nat) (d : DL.D), rvD n d = true → pvD n d = true
  | 0, .non, _ => rfl
  | n + 1, .non, _ => rfl
  | 0, .bl _, _ => rfl
  | n + 1, .bl _, _ => rfl
  | 0, .int i, h => by
    simp only [rvD, pvD, Bool.or_eq_true, Bool.and_eq_true, decide_eq_true_eq, beq_iff_eq] at h ⊢
    omega
  | n + 1, .int i, h => by
    simp only [rvD, pvD, Bool.or_eq_true, Bool.and_eq_true, decide_eq_true_eq, beq_iff_eq] at h ⊢
    omega
  | 0, .str s, h => by
    simp only [rvD, pvD, Bool.and_eq_true] at h ⊢
    exact h.1
  | n + 1, .str s, h => by
    simp only [rvD, pvD, Bool.and_eq_true] at h ⊢
    exact h.1
  | n + 1, .tup ds, h => by
    simp only [rvD, pvD, Bool.and_eq_true] at h ⊢
    exact ⟨rvs_pvs n ds h.1, h.2⟩
  | 0, .tup ds, h => by simp [rvD] at h
  | 0, .lst _, h => by simp [rvD] at h
  | n + 1, .lst _, h => by simp [rvD] at h
  | 0, .ref _, h => by simp [rvD] at h
  | n + 1, .ref _, h => by simp [rvD] at h
  | 0, .fn _, h => by simp [rvD] at h
  | n + 1, .fn _, h => by simp [rvD] at h
  | 0, .scr _, h => by simp [rvD] at h
  | n + 1, .scr _, h => by simp [rvD] at h
  | 0, .exn _ _ _ _, h => by simp [rvD] at h
  | n + 1, .exn _ _ _ _, h => by simp [rvD] at h
theorem rvs_pvs : ∀ (n : Nat) (ds : List DL.D), rvs n ds = true → pvs n ds = true
  | n, [], _ => rfl
  | n, d :: ds, h => by
    simp only [rvs, pvs, Bool.and_eq_true] at h ⊢
    exact ⟨rv_pv n d h.1, rvs_pvs n ds h.2⟩
end
mutual
theorem pv_nr : ∀ (n : Nat) (d : DL.D), pvD n d = true → nr 0 d = true
  | _, .non, _ => rfl
  | _, .bl _, _ => rfl
  | _, .int i, _ => rfl
  | _, .str s, _ => rfl
  | n + 1, .tup ds, h => by
    simp only [pvD, nr, Bool.and_eq_true] at h ⊢
    exact pvs_nr n ds h.1
  | 0, .tup ds, h => by simp [pvD] at h
  | 0, .lst _, h => by simp [pvD] at h
  | n + 1, .lst _, h => by simp [pvD] at h
  | 0, .ref _, h => by simp [pvD] at h
  | n + 1, .ref _, h => by simp [pvD] at h
  | _, .fn _, h => rfl
  | _, .scr _, h => rfl
  | 0, .exn _ _ _ _, h => by simp [pvD] at h
  | n + 1, .exn _ _ _ _, h => by simp [pvD] at h
theorem pvs_nr : ∀ (n : Nat) (ds : List DL.D), pvs n ds = true → nrs 0 ds = true
  | n, [], _ => rfl
  | n, d :: ds, h => by
    simp only [pvs, nrs, Bool.and_eq_true] at h ⊢
    exact ⟨pv_nr n d h.1, pvs_nr n ds h.2⟩
end
theorem rv_nr {n : Nat} {d : DL.D} (h : rvD n d = true) : nr 0 d = true := pv_nr n d (rv_pv n d h)
/-- what _value reads at a place -/
def RdB (K : Nat) (T : List Nat) (deep : Int) (d : DL.D) : Prop := ∀ (a q : List Nat), T = a ++ (showD d ++ q) → nof q = true → ∀ (S : Sto) (at_ : Int), at_ = a.length → run tb P K 13 [.str T, .int at_, .int deep] S = .ok (.tup [d, .int (at_ + (showD d).length)]) S
def mbody : Sms := match a_members_u with
  | .cons _ (.cons _ (.cons _ (.cons _ (.cons (.whl _ b) _)))) => b
  | _ => .nil
theorem m_loop (K : Nat) {T p : List Nat} {deep : Int} (hl : T.length ≤ 900000) (S : Sto) : ∀ (ds : List DL.D) (d : DL.D) (B : List Nat) (c0 : Nat) (L : List DL.D) (n : Nat) (x5 : Option DL.D), (∀ e ∈ d :: ds, RdB K T deep e) → T = B ++ c0 :: (showD d ++ (showt ds ++ 41 :: p)) → ds.length + 2 ≤ n → L.length + ds.length < 1000 →
    ∃ x, whileG (semB { P with fn := run tb P K } (.cmp .eq (.var 4) (.str [32]))) (semSs mbody { P with fn := run tb P K }) n [some (.str T), some (.int (B.length : Nat)), some (.int deep), some (.ref S.length), some (.str [32]), x5] (S ++ [.lst L])
      = .nx [some (.str T), some (.int ((B.length + 1 + (showD d ++ showt ds).length : Nat) : Int)), some (.int deep), some (.ref S.length), some (.str [41]), x] (S ++ [.lst (L ++ d :: ds)]) := by
  intro ds
  induction ds with
  | nil =>
    intro d B c0 L n x5 hr hT hn hL
    obtain ⟨n, rfl⟩ : ∃ m, n = m + 1 + 1 := ⟨n - 2, by omega⟩
    refine ⟨some d, ?_⟩
    have h1 := hr d (by simp) (B ++ [c0]) (41 :: p) (by rw [hT]; simp [showt]) rfl (S ++ [.lst L]) ((B.length : Nat) + 1) (by simp)
    have hat : (S ++ [Ob.lst L])[S.length]? = some (.lst L) := by simp
    have ap : fAppend (.ref S.length) [d] (S ++ [.lst L]) = .ok .non (S ++ [.lst (L ++ [d])]) := by
      rw [fAppend_ref, hat]
      dsimp only
      rw [if_pos (by simp at hL; omega), set_end]
    have mo : mtOk .append (.ref S.length) (S ++ [.lst L]) = true := by rw [mtOk_ref, hat]; rfl
    have hsl : fSl (.str T) (some (((B.length : Nat) : Int) + 1 + (showD d).length)) (some (((B.length : Nat) : Int) + 1 + (showD d).length + 1)) (S ++ [.lst (L ++ [d])]) = .ok (.str [41]) (S ++ [.lst (L ++ [d])]) := by
      have e : T = (B ++ c0 :: showD d) ++ 41 :: p := by rw [hT]; simp [showt]
      have hl' : T.length ≤ 1000000 := by omega
      rw [e] at hl' ⊢
      exact sl_one hl' (by simp; omega) (by simp; omega)
    refine (whl_one (r2 := [some (.str T), some (.int (((B.length : Nat) : Int) + 1 + (showD d).length)), some (.int deep), some (.ref S.length), some (.str [41]), some d]) (S2 := S ++ [.lst (L ++ [d])]) ?_ ?_).trans ?_
    · simp only [semB, semE, List.getElem?_cons_zero, List.getElem?_cons_succ, bind_ok, coF, eq_sign (c := 32) (k := 32) (by omega) (by omega), toB_bl] <;> rfl
    · refine ss_nx (s_asg0 (.tup [d, .int (((B.length : Nat) : Int) + 1 + (showD d).length)]) (by
        simp only [semE, semEs, List.getElem?_cons_zero, List.getElem?_cons_succ, bind_ok, boF, fAdd_int, h1]) rfl) ?_
      refine ss_nx (s_expr (d := .non) (S2 := S ++ [.lst (L ++ [d])]) (by
        show semE _ _ [some (.str T), some (.int (((B.length : Nat) : Int) + 1 + (showD d).length)), some (.int deep), some (.ref S.length), some (.str [32]), some d] _ = _
        simp only [semE, semEs, List.getElem?_cons_zero, List.getElem?_cons_succ, bind_ok, mo, if_true, mtF, ap])) ?_
      refine ss_nx (s_asg0 (.str [41]) (by
        show semE _ _ [some (.str T), some (.int (((B.length : Nat) : Int) + 1 + (showD d).length)), some (.int deep), some (.ref S.length), some (.str [32]), some d] _ = _
        simp only [semE, semO, List.getElem?_cons_zero, List.getElem?_cons_succ, bind_ok, boF, fAdd_int, hsl]) rfl) ss0
    · refine (whl_end ?_).trans ?_
      · simp only [semB, semE, List.getElem?_cons_zero, List.getElem?_cons_succ, bind_ok, coF, eq_sign (c := 41) (k := 32) (by omega) (by omega), toB_bl] <;> rfl
      · have : ((B.length + 1 + (showD d ++ showt []).length : Nat) : Int) = ((B.length : Nat) : Int) + 1 + (showD d).length := by simp [showt]
        rw [this]
  | cons d2 ds ih =>
    intro d B c0 L n x5 hr hT hn hL
    obtain ⟨n, rfl⟩ : ∃ m, n = m + 1 := ⟨n - 1, by omega⟩
    have h1 := hr d (by simp) (B ++ [c0]) (showt (d2 :: ds) ++ 41 :: p) (by rw [hT]; simp) (by rw [showt]; rfl) (S ++ [.lst L]) ((B.length : Nat) + 1) (by simp)
    have hat : (S ++ [Ob.lst L])[S.length]? = some (.lst L) := by simp
    have ap : fAppend (.ref S.length) [d] (S ++ [.lst L]) = .ok .non (S ++ [.lst (L ++ [d])]) := by
      rw [fAppend_ref, hat]
      dsimp only
      rw [if_pos (by simp at hL; omega), set_end]
    have mo : mtOk .append (.ref S.length) (S ++ [.lst L]) = true := by rw [mtOk_ref, hat]; rfl
    have e : T = (B ++ c0 :: showD d) ++ 32 :: (showD d2 ++ (showt ds ++ 41 :: p)) := by rw [hT, showt]; simp
    have hsl : fSl (.str T) (some (((B.length : Nat) : Int) + 1 + (showD d).length)) (some (((B.length : Nat) : Int) + 1 + (showD d).length + 1)) (S ++ [.lst (L ++ [d])]) = .ok (.str [32]) (S ++ [.lst (L ++ [d])]) := by
      have hl' : T.length ≤ 1000000 := by omega
      rw [e] at hl' ⊢
      exact sl_one hl' (by simp; omega) (by simp; omega)
    have hB : ((B.length : Nat) : Int) + 1 + (showD d).length = (((B ++ c0 :: showD d).length : Nat) : Int) := by simp; omega
    obtain ⟨x, hx⟩ := ih d2 (B ++ c0 :: showD d) 32 (L ++ [d]) n (some d) (fun z hz => hr z (by simp only [List.mem_cons] at hz ⊢; exact .inr hz)) e (by simp at hn; omega) (by simp at hL ⊢; omega)
    refine ⟨x, ?_⟩
    refine (whl_one (r2 := [some (.str T), some (.int (((B.length : Nat) : Int) + 1 + (showD d).length)), some (.int deep), some (.ref S.length), some (.str [32]), some d]) (S2 := S ++ [.lst (L ++ [d])]) ?_ ?_).trans ?_
    · simp only [semB, semE, List.getElem?_cons_zero, List.getElem?_cons_succ, bind_ok, coF, eq_sign (c := 32) (k := 32) (by omega) (by omega), toB_bl] <;> rfl
    · refine ss_nx (s_asg0 (.tup [d, .int (((B.length : Nat) : Int) + 1 + (showD d).length)]) (by
        simp only [semE, semEs, List.getElem?_cons_zero, List.getElem?_cons_succ, bind_ok, boF, fAdd_int, h1]) rfl) ?_
      refine ss_nx (s_expr (d := .non) (S2 := S ++ [.lst (L ++ [d])]) (by
        show semE _ _ [some (.str T), some (.int (((B.length : Nat) : Int) + 1 + (showD d).length)), some (.int deep), some (.ref S.length), some (.str [32]), some d] _ = _
        simp only [semE, semEs, List.getElem?_cons_zero, List.getElem?_cons_succ, bind_ok, mo, if_true, mtF, ap])) ?_
      refine ss_nx (s_asg0 (.str [32]) (by
        show semE _ _ [some (.str T), some (.int (((B.length : Nat) : Int) + 1 + (showD d).length)), some (.int deep), some (.ref S.length), some (.str [32]), some d] _ = _
        simp only [semE, semO, List.getElem?_cons_zero, List.getElem?_cons_succ, bind_ok, boF, fAdd_int, hsl]) rfl) ss0
    · rw [hB]
      refine hx.trans ?_
      have h2 : (B ++ c0 :: showD d).length + 1 + (showD d2 ++ showt ds).length = B.length + 1 + (showD d ++ showt (d2 :: ds)).length := by
        rw [showt]
        simp
        omega
      rw [h2]
      simp
theorem gDp : P.gc "MOST_DEEP" = some (.int 20) := by simp [P]
theorem members_ok (K : Nat) {a p : List Nat} {deep : Int} {ds : List DL.D} (hl : (a ++ (showD (.tup ds) ++ p)).length ≤ 900000) (hd : deep ≤ 20) (hds : ds.length ≤ 100) (hp : nrs 0 ds = true) (hh : ∀ e ∈ ds, ∃ c r, showD e = c :: r ∧ c ≠ 41 ∧ c < 200) (hr : ∀ e ∈ ds, RdB K (a ++ (showD (.tup ds) ++ p)) deep e) (S : Sto) {at_ : Int} (h : at_ = a.length) :
    run tb P (K + 1) 14 [.str (a ++ (showD (.tup ds) ++ p)), .int at_, .int deep] S = .ok (.tup [.tup ds, .int (at_ + (showD (.tup ds)).length)]) S := by
  subst h
  have hdd : ¬ (20 : Int) < deep := by omega
  cases ds with
  | nil =>
    have e1 : fSl (.str (a ++ (showD (.tup []) ++ p))) (some (((a.length : Nat) : Int) + 1)) (some (((a.length : Nat) : Int) + 2)) S = .ok (.str [41]) S := by
      have e : a ++ (showD (.tup []) ++ p) = (a ++ [40]) ++ 41 :: p := by simp [showD, shows]
      have hl' : (a ++ (showD (.tup []) ++ p)).length ≤ 1000000 := by omega
      rw [e] at hl' ⊢
      exact sl_one hl' (by simp) (by simp; omega)
    have hlen : (showD (.tup [])).length = 2 := by simp [showD, shows]
    rw [hlen]
    generalize a ++ (showD (.tup []) ++ p) = T at *
    refine run_of (d := d_14) (x := .ret (.tup [.tup [], .int (((a.length : Nat) : Int) + 2)]) S) rfl rfl ?_ (fin_pl rfl)
    refine ss_nx (s_if1 (by
      show semB _ _ [some (.str T), some (.int (a.length : Nat)), some (.int deep), none, none, none] S = _
      simp only [semB, semE, List.getElem?_cons_zero, List.getElem?_cons_succ, bind_ok, coF, gDp, fGt_int, hdd, decide_false, toB_bl])) ?_
    refine ss_ret (s_ifT (by
      show semB _ _ [some (.str T), some (.int (a.length : Nat)), some (.int deep), none, none, none] S = _
      simp only [semB, semE, semO, List.getElem?_cons_zero, List.getElem?_cons_succ, bind_ok, coF, boF, fAdd_int, e1, eq_sign (c := 41) (k := 41) (by omega) (by omega), toB_bl] <;> rfl) (ss_ret (s_ret0 ?_)))
    show semE _ _ [some (.str T), some (.int (a.length : Nat)), some (.int deep), none, none, none] S = _
    simp only [semE, semEs, List.getElem?_cons_zero, List.getElem?_cons_succ, bind_ok, boF, fAdd_int]
  | cons d ds =>
    obtain ⟨c, r, hc, hc41, hc2⟩ := hh d (by simp)
    have e1 : fSl (.str (a ++ (showD (.tup (d :: ds)) ++ p))) (some (((a.length : Nat) : Int) + 1)) (some (((a.length : Nat) : Int) + 2)) S = .ok (.str [c]) S := by
      have e : a ++ (showD (.tup (d :: ds)) ++ p) = (a ++ [40]) ++ c :: (r ++ (showt ds ++ 41 :: p)) := by simp [showD, shows, hc]
      have hl' : (a ++ (showD (.tup (d :: ds)) ++ p)).length ≤ 1000000 := by omega
      rw [e] at hl' ⊢
      exact sl_one hl' (by simp) (by simp; omega)
    have hT : a ++ (showD (.tup (d :: ds)) ++ p) = a ++ 40 :: (showD d ++ (showt ds ++ 41 :: p)) := by simp [showD, shows]
    have hlen : (showD (.tup (d :: ds))).length = (showD d ++ showt ds).length + 2 := by simp [showD, shows]; omega
    rw [hlen]
    generalize a ++ (showD (.tup (d :: ds)) ++ p) = T at *
    obtain ⟨x, hx⟩ := m_loop K (T := T) (p := p) (deep := deep) hl S ds d a 40 [] 1000 none hr hT (by simp at hds; omega) (by simp at hds ⊢; omega)
    have eend : (((a.length : Nat) : Int) + (((showD d ++ showt ds).length + 2 : Nat) : Int)) = ((a.length + 1 + (showD d ++ showt ds).length : Nat) : Int) + 1 := by omega
    rw [eend]
    generalize ((a.length + 1 + (showD d ++ showt ds).length : Nat) : Int) = q at *
    refine run_of (d := d_14) (x := .ret (.tup [.tup (d :: ds), .int (q + 1)]) (S ++ [.lst (d :: ds)])) rfl rfl ?_ (fin_plT (by simp only [nr, nrs]; simp only [nrs] at hp; rw [hp]; rfl))
    refine ss_nx (s_if1 (by
      show semB _ _ [some (.str T), some (.int (a.length : Nat)), some (.int deep), none, none, none] S = _
      simp only [semB, semE, List.getElem?_cons_zero, List.getElem?_cons_succ, bind_ok, coF, gDp, fGt_int, hdd, decide_false, toB_bl])) ?_
    have q41 : (c == 41) = false := by rw [beq_eq_false_iff_ne]; exact hc41
    refine ss_nx (s_if1 (by
      show semB _ _ [some (.str T), some (.int (a.length : Nat)), some (.int deep), none, none, none] S = _
      simp only [semB, semE, semO, List.getElem?_cons_zero, List.getElem?_cons_succ, bind_ok, coF, boF, fAdd_int, e1, eq_sign (c := c) (k := 41) (by omega) (by omega), toB_bl, q41])) ?_
    refine ss_nx (s_asg (d := .ref S.length) (S2 := S ++ [.lst []]) (by simp [semE, semEs]) rfl) ?_
    refine ss_nx (s_asg0 (.str [32]) (by simp [semE]) rfl) ?_
    refine ss_nx (s_whl hx) ?_
    refine ss_nx (s_if1 (by
      have hne : fNe (.str [41]) (.str [41]) (S ++ [.lst ([] ++ d :: ds)]) = .ok (.bl false) (S ++ [.lst ([] ++ d :: ds)]) := by rw [fNe_str (by decide) (by decide)]; rfl
      simp only [semB, semE, List.getElem?_cons_zero, List.getElem?_cons_succ, bind_ok, coF, hne, toB_bl])) (ss_ret (s_ret0 ?_))
    have ht : fTuple [.ref S.length] (S ++ [.lst ([] ++ d :: ds)]) = .ok (.tup (d :: ds)) (S ++ [.lst ([] ++ d :: ds)]) := by
      unfold fTuple
      dsimp only
      rw [vw_ref (ds := d :: ds) (by simp)]
    simp only [semE, semEs, List.getElem?_cons_zero, List.getElem?_cons_succ, bind_ok, boF, biF, fAdd_int, ht]
/-- the first sign of a shown value -/
theorem show_head {n : Nat} {d : DL.D} (h : rvD n d = true) : ∃ c r, showD d = c :: r ∧ c ≠ 41 ∧ c < 200 := by
  cases d with
  | non => exact ⟨78, [], by simp [showD], by decide, by decide⟩
  | bl b => cases b with
    | true => exact ⟨84, [], by simp [showD], by decide, by decide⟩
    | false => exact ⟨70, [], by simp [showD], by decide, by decide⟩
  | int i =>
    have h : (0 ≤ i ∧ i.natAbs ≤ 1000000000000) ∨ i = -1 := by cases n <;> simpa [rvD] using h
    rcases h with ⟨h0, h1⟩ | rfl
    · have f := num_f h0 h1
      obtain ⟨c, cs, e⟩ := List.exists_cons_of_ne_nil f.ne
      have := dig_fig h0 (c := c) (by rw [e]; simp)
      exact ⟨c, cs, by rw [showD, e], by omega, by omega⟩
    · exact ⟨45, [49], by rw [showD, dig_m1], by decide, by decide⟩
  | str s => exact ⟨34, _, by rw [showD], by decide, by decide⟩
  | tup ds => exact ⟨40, _, by rw [showD], by decide, by decide⟩
  | lst _ => cases n <;> simp [rvD] at h
  | ref _ => cases n <;> simp [rvD] at h
  | fn _ => cases n <;> simp [rvD] at h
  | scr _ => cases n <;> simp [rvD] at h
  | exn _ _ _ _ => cases n <;> simp [rvD] at h
theorem read_int {T : List Nat} {deep i : Int} (hl : T.length ≤ 900000) {n : Nat} (h : rvD n (.int i) = true) (m : Nat) : RdB (4 + m) T deep (.int i) := by
  intro a q hT hq S at_ hat
  subst hT
  have h : (0 ≤ i ∧ i.natAbs ≤ 1000000000000) ∨ i = -1 := by cases n <;> simpa [rvD] using h
  rw [show 4 + m = 2 + m + 1 + 1 by omega]
  rw [showD] at hl ⊢
  rcases h with ⟨h0, h1⟩ | rfl
  · have f := num_f h0 h1
    have := integer_ok (2 + m) (a := a) (w := digS i) (p := q) hl f.dg f.ne f.len f.head (nof_or hq) (S := S) hat
    rw [f.val] at this
    obtain ⟨c, cs, e⟩ := List.exists_cons_of_ne_nil f.ne
    have hc := dig_fig h0 (c := c) (by rw [e]; simp)
    have e2 : a ++ (digS i ++ q) = a ++ c :: (cs ++ q) := by rw [e]; simp
    rw [e2] at this hl ⊢
    exact value_int _ (by omega) (.inl hc) hat rfl this
  · rw [dig_m1] at hl ⊢
    have := integer_m1 (2 + m) (a := a) (p := q) hl (nof_or hq) (S := S) hat
    exact value_int _ (r := 49 :: q) (by simp at hl ⊢; omega) (.inr rfl) hat rfl this
theorem read_str {T : List Nat} {deep : Int} {s : List Nat} (hl : T.length ≤ 900000) {n : Nat} (h : rvD n (.str s) = true) (m : Nat) : RdB (4 + m) T deep (.str s) := by
  intro a q hT hq S at_ hat
  subst hT
  have h : (s.all okc = true ∧ s.length ≤ 200) ∧ (s.contains 10 = false ∨ s.getLast? = some 10 ∧ s.dropLast.contains 10 = false) := by
    cases n <;> simpa [rvD] using h
  have h10 : 10 ∉ s ∨ ∃ s', s = s' ++ [10] ∧ 10 ∉ s' := by
    rcases h.2 with h2 | ⟨h2, h3⟩
    · exact .inl (by simpa using h2)
    · refine .inr ⟨s.dropLast, ?_, by simpa using h3⟩
      obtain ⟨hne, e⟩ := List.getLast?_eq_some_iff.mp h2
      rw [e]
      simp
  rw [show 4 + m = m + 3 + 1 by omega]
  rw [showD] at hl ⊢
  have e : a ++ (34 :: (esc s ++ [34]) ++ q) = (a ++ [34]) ++ (esc s ++ 34 :: q) := by simp
  have e2 : a ++ (34 :: (esc s ++ [34]) ++ q) = a ++ 34 :: (esc s ++ 34 :: q) := by simp
  have hl2 := hl
  rw [e] at hl2
  have hq := quoted_ok m (a := a ++ [34]) (s := s) (c := q) hl2 h.1.1 h.1.2 h10 (S := S) (at_ := at_ + 1) (by subst hat; simp)
  rw [← e, e2] at hq
  rw [e2] at hl ⊢
  have := value_str _ (deep := deep) (by omega) hat rfl hq
  rw [this]
  congr 4
  simp
  omega
/-- the leafs -/
theorem read_leaf {T : List Nat} {deep : Int} {d : DL.D} (hl : T.length ≤ 900000) {n : Nat} (h : rvD n d = true) (hn : ∀ ds, d ≠ .tup ds) (m : Nat) : RdB (4 + m) T deep d := by
  cases d with
  | non =>
    intro a q hT hq S at_ hat
    subst hT
    have := value_one (3 + m) (a := a) (r := q) (c := 78) (x := .non) (at_ := at_) (deep := deep) (S := S) (by simp [showD] at hl ⊢; omega) rfl hat
    rw [show 4 + m = 3 + m + 1 by omega]
    simpa [showD] using this
  | bl b =>
    intro a q hT hq S at_ hat
    subst hT
    rw [show 4 + m = 3 + m + 1 by omega]
    cases b with
    | true =>
      have := value_one (3 + m) (a := a) (r := q) (c := 84) (x := .bl true) (at_ := at_) (deep := deep) (S := S) (by simp [showD] at hl ⊢; omega) rfl hat
      simpa [showD] using this
    | false =>
      have := value_one (3 + m) (a := a) (r := q) (c := 70) (x := .bl false) (at_ := at_) (deep := deep) (S := S) (by simp [showD] at hl ⊢; omega) rfl hat
      simpa [showD] using this
  | int i => exact read_int hl h m
  | str s => exact read_str hl h m
  | tup ds => exact absurd rfl (hn ds)
  | lst _ => cases n <;> simp [rvD] at h
  | ref _ => cases n <;> simp [rvD] at h
  | fn _ => cases n <;> simp [rvD] at h
  | scr _ => cases n <;> simp [rvD] at h
  | exn _ _ _ _ => cases n <;> simp [rvD] at h
/-- a plain value is read back -/
theorem read_ok : ∀ (n : Nat) (T : List Nat) (deep : Int) (d : DL.D), T.length ≤ 900000 → deep + n ≤ 20 → rvD n d = true → ∀ m, RdB (2 * n + 4 + m) T deep d := by
  intro n
  induction n with
  | zero =>
    intro T deep d hl hd h m
    exact read_leaf hl h (by rintro ds rfl; simp [rvD] at h) m
  | succ n ih =>
    intro T deep d hl hd h m
    by_cases ht : ∃ ds, d = .tup ds
    · obtain ⟨ds, rfl⟩ := ht
      simp only [rvD, Bool.and_eq_true, decide_eq_true_eq] at h
      have hall := rvs_all.mp h.1
      intro a q hT hq S at_ hat
      subst hT
      have hm := members_ok (2 * n + 4 + m) (a := a) (p := q) (deep := deep + 1) hl (by omega) h.2 (nrs_all.mpr fun e he => rv_nr (hall e he)) (fun e he => show_head (hall e he)) (fun e he => ih _ _ e hl (by omega) (hall e he) m) S hat
      rw [show 2 * (n + 1) + 4 + m = 2 * n + 4 + m + 1 + 1 by omega]
      have e : a ++ (showD (.tup ds) ++ q) = a ++ 40 :: (shows ds ++ 41 :: q) := by simp [showD]
      rw [e] at hm hl ⊢
      exact value_tup _ (by omega) hat (by simp [nr, nrs, nrs_all.mpr fun e he => rv_nr (hall e he)]) hm
    · rw [show 2 * (n + 1) + 4 + m = 4 + (2 * n + 2 + m) by omega]
      exact read_leaf hl h (fun ds e => ht ⟨ds, e⟩) _
end K37
set_option Elab.async false
set_option linter.all false
set_option maxRecDepth 100000
set_option maxHeartbeats 4000000
/-! NE: a plain text, read or refused. -/
namespace K37
open PySem L2 DL
theorem s_rais {x : Nat} {es : Exs} {P : Par} {r : DL.Loc} {S S2 : Sto} {ds fs : List DL.D} (h : semEs P es r S = .ok ds S2) (h2 : P.mke x ds = some fs) : semS (.rais x es) P r S = .err x fs S2 := by
  have e : semS (.rais x es) P r S = (semEs P es r S).to fun ds S1 => match P.mke x ds with
    | some fs => .err x fs S1
    | none => .bad := by
    simp only [semS] <;> rfl
  rw [e, h, to_ok, h2]
theorem run_err {tb : Nat → Option Df} {P : Par} {k f x : Nat} {d : Df} {ds fs : List DL.D} {S S2 S3 : Sto} (h : tb f = some d) (hl : ds.length = d.ps.length) (hx : semSs d.ast { P with fn := run tb P k } (startL d.N.length ds) S = .err x fs S2) (hf : finish S (.err x fs S2) = .err x fs S3) : run tb P (k + 1) f ds S = .err x fs S3 := by
  rw [run_succ h hl, hx, hf]
theorem fin_err {S T : Sto} {x : Nat} {fs : List DL.D} (h : nrs 0 fs = true) : finish S (.err x fs (S ++ T)) = .err x fs S := by
  unfold DL.finish
  simp only [nrs_mono (Nat.zero_le _) fs h, okPre_app, and_self, if_true]
  rw [List.take_left]
theorem fin_err0 {S : Sto} {x : Nat} {fs : List DL.D} (h : nrs 0 fs = true) : finish S (.err x fs S) = .err x fs S := by
  have := fin_err (S := S) (T := []) (x := x) h
  simpa using this
theorem mk_err {p : Int} (hp : p.natAbs < 1000000000) : P.mke 0 [.int p] = some [.int p] := by
  show mkD .p [.int p] = _
  simp [mkD, hp]
theorem s_try {h : Str} {i : Option Nat} {b su : Sms} {P : Par} {r : DL.Loc} {S : Sto} {x : Rs} (h1 : tryR (semSs b P r S) (P.exm h) i (fun a dd x => semSs su { P with ex := some (a, dd, x) }) = x) : semS (.trys h i b su) P r S = x := by
  rw [← h1]
  simp only [semS]
theorem s_retE {e : Ex} {P : Par} {r : DL.Loc} {S S2 : Sto} {x : Nat} {fs : List DL.D} (h : semE P e r S = .err x fs S2) : semS (.ret e) P r S = .err x fs S2 := by
  have e' : semS (.ret e) P r S = (semE P e r S).to fun d S1 => .ret d S1 := by simp only [semS]
  rw [e', h, to_err]
theorem s_asgE {t : Tg} {e : Ex} {P : Par} {r : DL.Loc} {S S2 : Sto} {x : Nat} {fs : List DL.D} (h : semE P e r S = .err x fs S2) : semS (.asg t e) P r S = .err x fs S2 := by
  have e' : semS (.asg t e) P r S = (semE P e r S).to fun d S1 => asgS t d r S1 := by simp only [semS]
  rw [e', h, to_err]
theorem s_exprE {e : Ex} {P : Par} {r : DL.Loc} {S S2 : Sto} {x : Nat} {fs : List DL.D} (h : semE P e r S = .err x fs S2) : semS (.expr e) P r S = .err x fs S2 := by
  have e' : semS (.expr e) P r S = (semE P e r S).to fun d S1 => .nx r S1 := by simp only [semS]
  rw [e', h, to_err]
theorem exm_1 : P.exm "BadPlain" 0 = some true := by simp [P]
theorem plain_ok (m : Nat) {n : Nat} {d : DL.D} (h : rvD n d = true) (hn : n ≤ 20) (hl : (showD d).length ≤ 900000) (S : Sto) : run tb P (2 * n + 5 + m) 12 [.str (showD d)] S = .ok d S := by
  have hr := read_ok n (showD d) 0 d hl (by omega) h m [] [] (by simp) rfl S 0 rfl
  have hl2 : (showD d).length ≤ 1000000 := by omega
  rw [show 2 * n + 5 + m = 2 * n + 4 + m + 1 by omega]
  generalize showD d = T at *
  generalize 2 * n + 4 + m = K at *
  refine run_of (d := d_12) (x := .ret d S) rfl rfl ?_ (fin_pl (rv_nr h))
  refine ss_nx (s_asg0 (.tup [d, .int (0 + (T.length : Int))]) (by
    show semE _ _ [some (.str T), none, none] S = _
    simp only [semE, semEs, List.getElem?_cons_zero, List.getElem?_cons_succ, bind_ok, hr]) rfl) ?_
  have hlt : ¬ (0 + (T.length : Int)) < T.length := by omega
  refine ss_nx (s_if1 (by
    show semB _ _ [some (.str T), some d, some (.int (0 + (T.length : Int)))] S = _
    simp only [semB, semE, semEs, List.getElem?_cons_zero, List.getElem?_cons_succ, bind_ok, biF, coF, fLen_str hl2, fLt_int, hlt, decide_false, toB_bl])) (ss_ret (s_ret0 ?_))
  show semE _ _ [some (.str T), some d, some (.int (0 + (T.length : Int)))] S = _
  simp only [semE, List.getElem?_cons_zero, List.getElem?_cons_succ]
/-- an error in _value is one in read_plain -/
theorem plain_e {K : Nat} {T : List Nat} {S : Sto} {p : Int} (h : run tb P K 13 [.str T, .int 0, .int 0] S = .err 0 [.int p] S) : run tb P (K + 1) 12 [.str T] S = .err 0 [.int p] S := by
  refine run_err (d := d_12) (S2 := S) rfl rfl ?_ (fin_err0 rfl)
  refine ss_err (s_asgE ?_)
  show semE _ _ [some (.str T), none, none] S = _
  simp only [semE, semEs, List.getElem?_cons_zero, List.getElem?_cons_succ, bind_ok, h]
/-- a value that ends ahead of the text's end -/
theorem plain_short {K : Nat} {T : List Nat} {S : Sto} {p : Nat} {d : DL.D} (hl : T.length ≤ 900000) (hp : p < T.length) (h : run tb P K 13 [.str T, .int 0, .int 0] S = .ok (.tup [d, .int (p : Int)]) S) : run tb P (K + 1) 12 [.str T] S = .err 0 [.int (p : Int)] S := by
  have hl2 : T.length ≤ 1000000 := by omega
  refine run_err (d := d_12) (S2 := S) rfl rfl ?_ (fin_err0 rfl)
  refine ss_nx (s_asg0 (.tup [d, .int (p : Int)]) (by
    show semE _ _ [some (.str T), none, none] S = _
    simp only [semE, semEs, List.getElem?_cons_zero, List.getElem?_cons_succ, bind_ok, h]) rfl) ?_
  have hlt : ((p : Nat) : Int) < T.length := by omega
  refine ss_err (s_ifT (by
    show semB _ _ [some (.str T), some d, some (.int (p : Int))] S = _
    simp only [semB, semE, semEs, List.getElem?_cons_zero, List.getElem?_cons_succ, bind_ok, biF, coF, fLen_str hl2, fLt_int, hlt, decide_true, toB_bl]) (ss_err (s_rais (ds := [.int (p : Int)]) (by
    show semEs _ _ [some (.str T), some d, some (.int (p : Int))] S = _
    simp only [semE, semEs, List.getElem?_cons_zero, List.getElem?_cons_succ, bind_ok]) (mk_err (by omega)))))
/-- a blank can't stand first -/
theorem value_sp (K : Nat) {r : List Nat} (hl : r.length ≤ 900000) {S : Sto} {deep : Int} : run tb P (K + 1) 13 [.str (32 :: r), .int 0, .int deep] S = .err 0 [.int 0] S := by
  have e0 : fSl (.str (32 :: r)) (some 0) (some (0 + 1)) S = .ok (.str [32]) S := sl_one (a := []) (by simp; omega) rfl rfl
  have ei : fIn (.str [32]) (.str [45, 48, 49, 50, 51, 52, 53, 54, 55, 56, 57]) S = .ok (.bl false) S := by
    have e : subS [32] [45, 48, 49, 50, 51, 52, 53, 54, 55, 56, 57] = false := by decide +kernel
    rw [show fIn (.str [32]) (.str [45, 48, 49, 50, 51, 52, 53, 54, 55, 56, 57]) S = .ok (.bl (subS [32] [45, 48, 49, 50, 51, 52, 53, 54, 55, 56, 57])) S from rfl, e]
  generalize 32 :: r = T at *
  have T8 : ∀ kk, kk < 200 → semB { P with fn := run tb P K } (.cmp .eq (.var 3) (.str [kk])) [some (.str T), some (.int 0), some (.int deep), some (.str [32])] S = .ok (32 == kk) S := fun kk hk => by
    simp only [semB, semE, List.getElem?_cons_zero, List.getElem?_cons_succ, bind_ok, coF, eq_sign (c := 32) (k := kk) (by omega) (by omega), toB_bl]
  refine run_err (d := d_13) (S2 := S) rfl rfl ?_ (fin_err0 rfl)
  refine ss_nx (s_asg0 (.str [32]) (by
    show semE _ _ [some (.str T), some (.int 0), some (.int deep), none] S = _
    simp only [semE, semO, List.getElem?_cons_zero, List.getElem?_cons_succ, bind_ok, boF, fAdd_int, e0]) rfl) ?_
  refine ss_nx (s_if1 (by
    show semB _ _ [some (.str T), some (.int 0), some (.int deep), some (.str [32])] S = _
    simp only [semB, semE, List.getElem?_cons_zero, List.getElem?_cons_succ, bind_ok, coF, eq_nil (c := 32) (by omega), toB_bl])) ?_
  refine ss_nx (s_if1 (T8 40 (by omega))) ?_
  refine ss_nx (s_if1 (T8 34 (by omega))) ?_
  refine ss_nx (s_if1 (by
    show semB _ _ [some (.str T), some (.int 0), some (.int deep), some (.str [32])] S = _
    simp only [semB, semE, List.getElem?_cons_zero, List.getElem?_cons_succ, bind_ok, coF, ei, toB_bl])) ?_
  refine ss_nx (s_if1 (T8 84 (by omega))) ?_
  refine ss_nx (s_if1 (T8 70 (by omega))) ?_
  refine ss_nx (s_if1 (T8 78 (by omega))) (ss_err (s_rais (ds := [.int 0]) ?_ (mk_err (p := 0) (by decide))))
  show semEs _ _ [some (.str T), some (.int 0), some (.int deep), some (.str [32])] S = _
  simp only [semE, semEs, List.getElem?_cons_zero, List.getElem?_cons_succ, bind_ok]
/-- value_int, when the number is refused -/
theorem value_intE (k : Nat) {r : List Nat} {c : Nat} (hl : (c :: r).length ≤ 1000000) (hc : 48 ≤ c ∧ c ≤ 57) {deep p : Int} {S : Sto} (hr : run tb P k 18 [.str (c :: r), .int 0] S = .err 0 [.int p] S) :
    run tb P (k + 1) 13 [.str (c :: r), .int 0, .int deep] S = .err 0 [.int p] S := by
  have e0 : fSl (.str (c :: r)) (some 0) (some (0 + 1)) S = .ok (.str [c]) S := sl_one (a := []) hl rfl rfl
  have q : ∀ k, k < 200 → k ≠ 45 → (k < 48 ∨ 57 < k) → fEq (.str [c]) (.str [k]) S = .ok (.bl false) S := fun k hk h1 h2 => by
    rw [eq_sign (by omega) hk]
    have : (c == k) = false := by rw [beq_eq_false_iff_ne]; omega
    rw [this]
  generalize hT : c :: r = T at *
  refine run_err (d := d_13) (S2 := S) rfl rfl ?_ (fin_err0 rfl)
  refine ss_nx (s_asg0 (.str [c]) (by
    show semE _ _ [some (.str T), some (.int 0), some (.int deep), none] S = _
    simp only [semE, semO, List.getElem?_cons_zero, List.getElem?_cons_succ, bind_ok, boF, fAdd_int, e0]) rfl) ?_
  refine ss_nx (s_if1 (by
    show semB _ _ [some (.str T), some (.int 0), some (.int deep), some (.str [c])] S = _
    simp only [semB, semE, List.getElem?_cons_zero, List.getElem?_cons_succ, bind_ok, coF, eq_nil (c := c) (by omega), toB_bl])) ?_
  refine ss_nx (s_if1 (by
    show semB _ _ [some (.str T), some (.int 0), some (.int deep), some (.str [c])] S = _
    simp only [semB, semE, List.getElem?_cons_zero, List.getElem?_cons_succ, bind_ok, coF, q 40 (by decide) (by decide) (by decide), toB_bl])) ?_
  refine ss_nx (s_if1 (by
    show semB _ _ [some (.str T), some (.int 0), some (.int deep), some (.str [c])] S = _
    simp only [semB, semE, List.getElem?_cons_zero, List.getElem?_cons_succ, bind_ok, coF, q 34 (by decide) (by decide) (by decide), toB_bl])) ?_
  refine ss_err (s_ifT (by
    show semB _ _ [some (.str T), some (.int 0), some (.int deep), some (.str [c])] S = _
    simp only [semB, semE, List.getElem?_cons_zero, List.getElem?_cons_succ, bind_ok, coF, in_figs c (.inl hc), toB_bl]) (ss_err (s_retE ?_)))
  show semE _ _ [some (.str T), some (.int 0), some (.int deep), some (.str [c])] S = _
  simp only [semE, semEs, List.getElem?_cons_zero, List.getElem?_cons_succ, bind_ok, hr]
/-- a number that begins with 0 -/
theorem integer_0 (k : Nat) {w p : List Nat} (hl : (48 :: w ++ 32 :: p).length ≤ 900000) (hw : dgs w = true) (hne : w ≠ []) (hw2 : w.length ≤ 10) {S : Sto} :
    run tb P (k + 1) 18 [.str (48 :: w ++ 32 :: p), .int 0] S = .err 0 [.int 1] S := by
  have hall : ∀ d ∈ 48 :: w, isF d = true := fun d hd => by
    rcases List.mem_cons.mp hd with rfl | hd
    · decide
    · have := dgs_all hw d hd
      simp [isF]
      omega
  have hl2 : (48 :: w ++ 32 :: p).length ≤ 1000000 := by omega
  have e1 : fIx (.str (48 :: w ++ 32 :: p)) (.int 0) S = .ok (.str [48]) S := ix_mid (a := []) (b := w ++ 32 :: p) hl2 rfl
  have e2 : fEq (.str [48]) (.str [45]) S = .ok (.bl false) S := by rw [fEq_str (by decide) (by decide)]; rfl
  have et : (48 :: w ++ 32 :: p).take 21 = 48 :: w ++ 32 :: p.take (21 - (w.length + 2)) := by
    have e : 21 - (48 :: w).length = (21 - (w.length + 2)) + 1 := by simp; omega
    rw [List.take_append, List.take_of_length_le (by simp; omega), e, List.take_succ_cons]
  have e3 : fSl (.str (48 :: w ++ 32 :: p)) (some 0) (some (0 + 20 + 1)) S = .ok (.str (48 :: w ++ 32 :: p.take (21 - (w.length + 2)))) S := by
    rw [← et]
    exact sl_take (a := []) (n := 21) hl2 rfl rfl
  have hlp : (p.take (21 - (w.length + 2))).length ≤ 21 := by simp; omega
  generalize p.take (21 - (w.length + 2)) = p2 at *
  have hlen2 : (48 :: w ++ 32 :: p2).length ≤ 1000000 := by simp; omega
  have e4 := lstrip_ok hlen2 (S := S)
  rw [take_figs hall (.inr ⟨32, p2, rfl, by decide⟩), List.drop_left] at e4
  have hl3 : (32 :: p2).length ≤ 1000000 := by simp; omega
  have e5 : fIx (.str (48 :: w ++ 32 :: p2)) (.int 0) S = .ok (.str [48]) S := ix_mid (a := []) (b := w ++ 32 :: p2) hlen2 rfl
  have e6 : fEq (.str [48]) (.str [48]) S = .ok (.bl true) S := by rw [fEq_str (by decide) (by decide)]; rfl
  have hmany : ((48 :: w ++ 32 :: p2).length : Int) - ((32 :: p2).length : Int) = ((w.length + 1 : Nat) : Int) := by simp; omega
  have hw0 : 0 < w.length := by cases w with
    | nil => exact absurd rfl hne
    | cons a b => simp
  refine run_err (d := d_18) (S2 := S) rfl rfl ?_ (fin_err0 rfl)
  generalize 48 :: w ++ 32 :: p2 = W at *
  generalize 48 :: w ++ 32 :: p = T at *
  refine ss_nx (s_asg0 (.int 0) (by
    show semE _ _ [some (.str T), some (.int 0), none, none, none] S = _
    simp only [semE, semB, List.getElem?_cons_zero, List.getElem?_cons_succ, bind_ok, e1, coF, e2, toB_bl, Bool.false_eq_true, if_false]) rfl) ?_
  refine ss_nx (s_asg0 (.str W) (by
    show semE _ _ [some (.str T), some (.int 0), some (.int 0), none, none] S = _
    simp only [semE, semO, List.getElem?_cons_zero, List.getElem?_cons_succ, bind_ok, boF, gD, fAdd_int, e3]) rfl) ?_
  refine ss_nx (s_asg0 (.int ((w.length + 1 : Nat) : Int)) (by
    show semE _ _ [some (.str T), some (.int 0), some (.int 0), some (.str W), none] S = _
    simp only [semE, semEs, List.getElem?_cons_zero, List.getElem?_cons_succ, bind_ok, boF, biF, fLen_str hlen2, mtOk_str, mtT, mtF, beq_self_eq_true, if_true, e4, fLen_str hl3, fSub_int, hmany]) rfl) ?_
  have q0 : (((w.length + 1 : Nat) : Int) == 0) = false := by rw [beq_eq_false_iff_ne]; omega
  have q1 : (1 : Int) < ((w.length + 1 : Nat) : Int) := by omega
  refine ss_nx (s_if1 (by
    show semB _ _ [some (.str T), some (.int 0), some (.int 0), some (.str W), some (.int ((w.length + 1 : Nat) : Int))] S = _
    simp only [semB, semE, List.getElem?_cons_zero, List.getElem?_cons_succ, bind_ok, coF, fEq_int, q0, toB_bl])) ?_
  refine ss_nx (s_if1 (by
    show semB _ _ [some (.str T), some (.int 0), some (.int 0), some (.str W), some (.int ((w.length + 1 : Nat) : Int))] S = _
    simp only [semB, semAll, semE, List.getElem?_cons_zero, List.getElem?_cons_succ, bind_ok, coF, e5, e6, toB_bl, fGt_int, if_true] <;> rfl)) ?_
  refine ss_err (s_ifT (by
    show semB _ _ [some (.str T), some (.int 0), some (.int 0), some (.str W), some (.int ((w.length + 1 : Nat) : Int))] S = _
    simp only [semB, semAll, semE, List.getElem?_cons_zero, List.getElem?_cons_succ, bind_ok, coF, e5, e6, toB_bl, fGt_int, if_true, q1, decide_true]) (ss_err (s_rais (ds := [.int 1]) ?_ (mk_err (p := 1) (by decide)))))
  show semEs _ _ [some (.str T), some (.int 0), some (.int 0), some (.str W), some (.int ((w.length + 1 : Nat) : Int))] S = _
  simp only [semE, semEs, List.getElem?_cons_zero, List.getElem?_cons_succ, bind_ok, boF, fAdd_int] <;> rfl
/-- figures and a blank are no plain text -/
theorem plain_figs (k : Nat) {w p : List Nat} (hl : (w ++ 32 :: p).length ≤ 900000) (hw : dgs w = true) (hw2 : w.length ≤ 10) {S : Sto} : ∃ q, run tb P (k + 3) 12 [.str (w ++ 32 :: p)] S = .err 0 [.int q] S := by
  cases w with
  | nil => exact ⟨0, plain_e (value_sp (k + 1) (by simp at hl; omega))⟩
  | cons c w =>
    have hc : 48 ≤ c ∧ c ≤ 57 := by
      have := dgs_all hw c (by simp)
      omega
    by_cases h0 : c = 48 ∧ w ≠ []
    · obtain ⟨rfl, hne⟩ := h0
      have hw' : dgs w = true := by
        unfold dgs at hw ⊢
        rw [List.all_cons, Bool.and_eq_true] at hw
        exact hw.2
      refine ⟨1, plain_e (value_intE (k + 1) (r := w ++ 32 :: p) (by simp at hl ⊢; omega) (by decide) ?_)⟩
      exact integer_0 k hl hw' hne (by simp at hw2; omega)
    · have hi := integer_ok k (a := []) (w := c :: w) (p := 32 :: p) hl hw (by simp) (by omega) (by
        intro h
        simp at h
        subst h
        by_cases hw0 : w = []
        · rw [hw0]
        · exact absurd ⟨rfl, hw0⟩ h0) (.inr ⟨32, p, rfl, by decide⟩) (S := S) (at_ := 0) rfl
      refine ⟨_, plain_short (p := (c :: w).length) hl (by simp) (d := .int (valS (c :: w))) ?_⟩
      have := value_int (k + 1) (a := []) (r := w ++ 32 :: p) (c := c) (by simp at hl ⊢; omega) (.inl hc) (at_ := 0) (deep := 0) rfl rfl hi
      simpa using this
end K37
set_option Elab.async false
set_option linter.all false
set_option maxRecDepth 100000
set_option maxHeartbeats 4000000
/-! NF: forms. -/
namespace K37
open PySem L2 DL
theorem whole0 (k : Nat) (i a b : Int) (S : Sto) : run tb P (k + 1) 0 [.int i, .int a, .int b] S = .ok (.bl (decide (a ≤ i) && decide (i ≤ b))) S := by
  refine run_of (d := d_0) (x := .ret _ S) rfl rfl (ss_ret (s_ret0 ?_)) (fin_pl rfl)
  by_cases h : a ≤ i
  · simp [startL, d_0, semE, semEs, semAnd, coF, h]
  · simp [startL, d_0, semE, semEs, semAnd, coF, h]
theorem whole2 (k : Nat) (i a b : Int) (S : Sto) : run tb P (k + 1) 2 [.int i, .int a, .int b] S = .ok (.bl (decide (a ≤ i) && decide (i ≤ b))) S := by
  refine run_of (d := d_2) (x := .ret _ S) rfl rfl (ss_ret (s_ret0 ?_)) (fin_pl rfl)
  by_cases h : a ≤ i
  · simp [startL, d_2, semE, semEs, semAnd, coF, h]
  · simp [startL, d_2, semE, semEs, semAnd, coF, h]
theorem day_ok (k : Nat) (i : Int) (S : Sto) : run tb P (k + 2) 1 [.int i] S = .ok (.bl (decide (0 ≤ i) && decide (i ≤ 19999))) S := by
  refine run_of (d := d_1) (x := .ret _ S) rfl rfl (ss_ret (s_ret0 ?_)) (fin_pl rfl)
  simp only [startL, d_1, semE, semEs, List.map_cons, List.map_nil, List.cons_append, List.getElem?_cons_zero, bind_ok, whole0]
theorem day_bl (k : Nat) (c : Bool) (S : Sto) : run tb P (k + 2) 1 [.bl c] S = .ok (.bl false) S := by
  have e : run tb P (k + 1) 0 [.bl c, .int 0, .int 19999] S = .ok (.bl false) S := by
    refine run_of (d := d_0) (x := .ret _ S) rfl rfl (ss_ret (s_ret0 ?_)) (fin_pl rfl)
    simp [startL, d_0, semE, semEs, semAnd, coF]
  refine run_of (d := d_1) (x := .ret _ S) rfl rfl (ss_ret (s_ret0 ?_)) (fin_pl rfl)
  simp only [startL, d_1, semE, semEs, List.map_cons, List.map_nil, List.cons_append, List.getElem?_cons_zero, bind_ok, e]
abbrev wPa : List Nat := [112, 97]
abbrev wRes : List Nat := [114, 101, 115]
abbrev wOa : List Nat := [111, 97]
theorem gX : P.gc "FIXED_cforms" = some (.tup c_FIXED_cforms) := by simp [P]
theorem gLD : P.gc "LAST_DAY" = some (.int 19999) := by simp [P]
theorem gEnd : P.gc "END" = some (.int 20000) := by simp [P]
theorem gMH : P.gc "MOST_HEIGHT" = some (.int 2000) := by simp [P]
theorem gMO : P.gc "MOST_OFFICES" = some (.int 5) := by simp [P]
theorem gME : P.gc "MOST_ENTRIES" = some (.int 400) := by simp [P]
/-- what a name needs -/
structure NmF (s : List Nat) : Prop where
  l : 1 ≤ s.length ∧ s.length ≤ 12
  fx : memD (.str s) c_FIXED_cforms = false
  a : Txt.isascii (strO s) = true
  n : Txt.isalnum (strO s) = true
  h : (s.take 1).length = 1 ∧ Txt.isalpha (strO (s.take 1)) = true
  w : strL (Txt.lower (strO s)) = .str s
  o : okS s = true
theorem nm_pa : NmF wPa := ⟨by decide, by decide +kernel, by decide +kernel, by decide +kernel, by decide +kernel, by rfl, by decide⟩
theorem nm_res : NmF wRes := ⟨by decide, by decide +kernel, by decide +kernel, by decide +kernel, by decide +kernel, by rfl, by decide⟩
theorem name_ok (k : Nat) {s : List Nat} (f : NmF s) (S : Sto) : run tb P (k + 1) 4 [.str s] S = .ok (.bl true) S := by
  have hl : s.length ≤ 1000000 := by have := f.l; omega
  have l1 : (1 : Int) ≤ (s.length : Int) := by have := f.l; omega
  have l2 : (s.length : Int) ≤ 12 := by have := f.l; omega
  have a1 : fIn (.str s) (.tup c_FIXED_cforms) S = .ok (.bl false) S := by
    rw [show fIn (.str s) (.tup c_FIXED_cforms) S = if flatD (.str s) = true ∧ c_FIXED_cforms.all flatD = true then .ok (.bl (memD (.str s) c_FIXED_cforms)) S else .bad from rfl, f.fx]
    rfl
  have a2 : fTx0 Txt.isascii (.str s) [] S = .ok (.bl true) S := by rw [show fTx0 Txt.isascii (.str s) [] S = .ok (.bl (Txt.isascii (strO s))) S from rfl, f.a]
  have a3 : fTx0 Txt.isalnum (.str s) [] S = .ok (.bl true) S := by rw [show fTx0 Txt.isalnum (.str s) [] S = .ok (.bl (Txt.isalnum (strO s))) S from rfl, f.n]
  have a4 : fIx (.str s) (.int 0) S = .ok (.str (s.take 1)) S := by
    rw [fIx_str hl]
    cases s with
    | nil => have := f.l; simp at this
    | cons c r => simp
  have a5 : fTx0 Txt.isalpha (.str (s.take 1)) [] S = .ok (.bl true) S := by rw [show fTx0 Txt.isalpha (.str (s.take 1)) [] S = .ok (.bl (Txt.isalpha (strO (s.take 1)))) S from rfl, f.h.2]
  have a6 : fLower (.str s) [] S = .ok (.str s) S := by
    unfold fLower
    dsimp only
    rw [if_pos hl, f.w]
  have a7 : fEq (.str s) (.str s) S = .ok (.bl true) S := by rw [fEq_str f.o f.o]; simp
  refine run_of (d := d_4) (x := .ret (.bl true) S) rfl rfl ?_ (fin_pl rfl)
  refine ss_nx (s_if1 ?_) (ss_ret (s_ret0 ?_))
  · show semB _ _ [some (.str s)] S = _
    simp only [semB, semAny, semE, semEs, List.getElem?_cons_zero, bind_ok, i_str_str, truD_bl, Bool.not_true, Bool.false_eq_true, if_false, biF, fLen_str hl, coF, fLe_int, l1, l2, decide_true, toB_bl, if_true, Bool.not_false, gX, a1]
  · show semE _ _ [some (.str s)] S = _
    simp only [semE, semEs, semAnd, List.getElem?_cons_zero, bind_ok, mtOk_str, mtT, mtF, beq_self_eq_true, if_true, a2, a3, a4, a5, a6, a7, truD_bl, coF]
structure OfF (s : List Nat) : Prop where
  l : 1 ≤ s.length ∧ s.length ≤ 8
  a : Txt.isascii (strO s) = true
  n : Txt.isalpha (strO s) = true
  w : strL (Txt.lower (strO s)) = .str s
  o : okS s = true
theorem of_oa : OfF wOa := ⟨by decide, by decide +kernel, by decide +kernel, by rfl, by decide⟩
theorem office_ok (k : Nat) {s : List Nat} (f : OfF s) (S : Sto) : run tb P (k + 1) 5 [.str s] S = .ok (.bl true) S := by
  have hl : s.length ≤ 1000000 := by have := f.l; omega
  have l1 : (1 : Int) ≤ (s.length : Int) := by have := f.l; omega
  have l2 : (s.length : Int) ≤ 8 := by have := f.l; omega
  have a2 : fTx0 Txt.isascii (.str s) [] S = .ok (.bl true) S := by rw [show fTx0 Txt.isascii (.str s) [] S = .ok (.bl (Txt.isascii (strO s))) S from rfl, f.a]
  have a5 : fTx0 Txt.isalpha (.str s) [] S = .ok (.bl true) S := by rw [show fTx0 Txt.isalpha (.str s) [] S = .ok (.bl (Txt.isalpha (strO s))) S from rfl, f.n]
  have a6 : fLower (.str s) [] S = .ok (.str s) S := by
    unfold fLower
    dsimp only
    rw [if_pos hl, f.w]
  have a7 : fEq (.str s) (.str s) S = .ok (.bl true) S := by rw [fEq_str f.o f.o]; simp
  refine run_of (d := d_5) (x := .ret (.bl true) S) rfl rfl ?_ (fin_pl rfl)
  refine ss_nx (s_if1 ?_) (ss_ret (s_ret0 ?_))
  · show semB _ _ [some (.str s)] S = _
    simp only [semB, semAny, semE, semEs, List.getElem?_cons_zero, bind_ok, i_str_str, truD_bl, Bool.not_true, Bool.false_eq_true, if_false, biF, fLen_str hl, coF, fLe_int, l1, l2, decide_true, toB_bl, if_true, Bool.not_false]
  · show semE _ _ [some (.str s)] S = _
    simp only [semE, semEs, semAnd, List.getElem?_cons_zero, bind_ok, mtOk_str, mtT, mtF, beq_self_eq_true, if_true, a2, a5, a6, a7, truD_bl, coF]
theorem office_int (k : Nat) (i : Int) (S : Sto) : run tb P (k + 1) 5 [.int i] S = .ok (.bl false) S := by
  refine run_of (d := d_5) (x := .ret (.bl false) S) rfl rfl ?_ (fin_pl rfl)
  refine ss_ret (s_ifT ?_ (ss_ret (s_ret0 (by simp only [semE]))))
  show semB _ _ [some (.int i)] S = _
  simp only [semB, semAny, semE, semEs, List.getElem?_cons_zero, bind_ok, i_int_str, truD_bl, Bool.not_false, if_true]
theorem span_ok (k : Nat) {a b : Int} (h0 : 0 ≤ a) (h1 : a < b) (h2 : b ≤ 20000) (S : Sto) : run tb P (k + 2) 6 [.int a, .int b] S = .ok (.bl true) S := by
  refine run_of (d := d_6) (x := .ret (.bl true) S) rfl rfl (ss_ret (s_ret0 ?_)) (fin_pl rfl)
  have q1 : (decide (0 ≤ a) && decide (a ≤ 19999)) = true := by simp; omega
  have q2 : (decide (1 ≤ b) && decide (b ≤ 20000)) = true := by simp; omega
  show semE _ _ [some (.int a), some (.int b)] S = _
  simp only [semE, semEs, semAnd, List.getElem?_cons_zero, List.getElem?_cons_succ, bind_ok, gLD, gEnd, whole2, q1, q2, truD_bl, if_true, coF, fLt_int, h1, decide_true]
theorem source_ok (k : Nat) {s : List Nat} (f : OfF s) {n : Int} (h0 : 0 ≤ n) (h1 : n ≤ 399) (S : Sto) : run tb P (k + 2) 7 [.str s, .int n] S = .ok (.bl true) S := by
  refine run_of (d := d_7) (x := .ret (.bl true) S) rfl rfl (ss_ret (s_ret0 ?_)) (fin_pl rfl)
  have q1 : (decide (0 ≤ n) && decide (n ≤ 399)) = true := by simp; omega
  show semE _ _ [some (.str s), some (.int n)] S = _
  simp only [semE, semEs, semAnd, List.getElem?_cons_zero, List.getElem?_cons_succ, bind_ok, office_ok k f, whole2, q1, truD_bl, if_true]
abbrev wMark : List Nat := [109, 97, 114, 107]
abbrev wEntry : List Nat := [101, 110, 116, 114, 121]
abbrev deedD (e : Int) : DL.D := .tup [.str wMark, .str wPa, .str wRes, .int 0, .int e]
theorem fact_ok (k : Nat) {e : Int} (h0 : 0 < e) (h1 : e ≤ 20000) (S : Sto) : run tb P (k + 3) 10 [deedD e] S = .ok (.bl true) S := by
  refine run_of (d := d_10) (x := .ret (.bl true) S) rfl rfl ?_ (fin_pl rfl)
  have e1 : fEq (.str wMark) (.str [101, 118, 101, 110, 116]) S = .ok (.bl false) S := by rw [fEq_str (by decide) (by decide)]; rfl
  have e2 : fEq (.str wMark) (.str [110, 117, 109, 98, 101, 114]) S = .ok (.bl false) S := by rw [fEq_str (by decide) (by decide)]; rfl
  have x0 : atI [DL.D.str wMark, .str wPa, .str wRes, .int 0, .int e] 0 = some (.str wMark) := rfl
  have x1 : atI [DL.D.str wMark, .str wPa, .str wRes, .int 0, .int e] 1 = some (.str wPa) := rfl
  have x2 : atI [DL.D.str wMark, .str wPa, .str wRes, .int 0, .int e] 2 = some (.str wRes) := rfl
  have x3 : atI [DL.D.str wMark, .str wPa, .str wRes, .int 0, .int e] (-2) = some (.int 0) := rfl
  have x4 : atI [DL.D.str wMark, .str wPa, .str wRes, .int 0, .int e] (-1) = some (.int e) := rfl
  refine ss_nx (s_if1 ?_) (ss_nx (s_if1 ?_) (ss_nx (s_if1 ?_) (ss_ret (s_ret0 ?_))))
  · show semB _ _ [some (deedD e)] S = _
    simp only [semB, semAny, semE, semEs, List.getElem?_cons_zero, bind_ok, fIx_tup, x1, x2, okO_some, name_ok (k + 1) nm_pa, name_ok (k + 1) nm_res, truD_bl, Bool.not_true, Bool.false_eq_true, if_false]
  · show semB _ _ [some (deedD e)] S = _
    simp only [semB, semE, List.getElem?_cons_zero, bind_ok, fIx_tup, x0, okO_some, coF, e1, toB_bl]
  · show semB _ _ [some (deedD e)] S = _
    simp only [semB, semAll, semE, List.getElem?_cons_zero, bind_ok, fIx_tup, x0, okO_some, coF, e2, toB_bl, Bool.false_eq_true, if_false]
  · show semE _ _ [some (deedD e)] S = _
    simp only [semE, semEs, List.getElem?_cons_zero, bind_ok, fNeg_int, fIx_tup, x3, x4, okO_some, span_ok k (Int.le_refl 0) h0 h1]
theorem gF : P.gd "FACTS" = some t_FACTS := by
  have h : ("FACTS" : Str) ≠ "ACTS" := by decide
  simp [P, h]
theorem gP : P.gd "PARTS" = some t_PARTS := by
  have h1 : ("PARTS" : Str) ≠ "ACTS" := by decide
  have h2 : ("PARTS" : Str) ≠ "FACTS" := by decide
  have h3 : ("PARTS" : Str) ≠ "OTHERS" := by decide
  simp [P, h1, h2, h3]
theorem deed_ok (k : Nat) {e : Int} (h0 : 0 < e) (h1 : e ≤ 20000) (S : Sto) : run tb P (k + 4) 8 [deedD e] S = .ok (.bl true) S := by
  refine run_of (d := d_8) (x := .ret (.bl true) S) rfl rfl ?_ (fin_pl rfl)
  have x0 : atI [DL.D.str wMark, .str wPa, .str wRes, .int 0, .int e] 0 = some (.str wMark) := rfl
  have i1 : fInD false (some t_FACTS) (.str wMark) S = .ok (.bl true) S := rfl
  have i2 : fIxD (some t_FACTS) (.str wMark) S = .ok (.int 5) S := rfl
  have ht : truD (deedD e) S = .ok true S := rfl
  refine ss_nx (s_if1 ?_) (ss_nx (s_asg0 (.str wMark) ?_ rfl) (ss_ret (s_ifT ?_ (ss_ret (s_ret0 ?_)))))
  · show semB _ _ [some (deedD e), none] S = _
    simp only [semB, semAny, semE, semEs, List.getElem?_cons_zero, bind_ok, i_tup_tuple, ht, fIx_tup, x0, okO_some, i_str_str, truD_bl, Bool.not_true, Bool.false_eq_true, if_false]
  · show semE _ _ [some (deedD e), none] S = _
    simp only [semE, List.getElem?_cons_zero, bind_ok, fIx_tup, x0, okO_some]
  · show semB _ _ [some (deedD e), some (.str wMark)] S = _
    simp only [semB, semE, List.getElem?_cons_zero, List.getElem?_cons_succ, bind_ok, gF, i1, truD_bl]
  · show semE _ _ [some (deedD e), some (.str wMark)] S = _
    simp only [semE, semEs, semAnd, List.getElem?_cons_zero, List.getElem?_cons_succ, bind_ok, biF, fLen_tup, gF, i2, coF, fEq_int, List.length_cons, List.length_nil]
    rw [show ((((0 + 1 + 1 + 1 + 1 + 1 : Nat)) : Int) == 5) = true from rfl]
    simp only [truD_bl, bind_ok, if_true, fact_ok k h0 h1]
/-- an entry of the law -/
abbrev entD (day at_ e : Int) : DL.D := .tup [.str wEntry, .int day, .int (at_ + 1), .str wOa, .int at_, deedD e]
theorem entry_ok (k : Nat) {day at_ e : Int} (d0 : 0 ≤ day) (d1 : day ≤ 19999) (a0 : 0 ≤ at_) (a1 : at_ ≤ 300) (h0 : 0 < e) (h1 : e ≤ 20000) (S : Sto) : run tb P (k + 5) 9 [entD day at_ e] S = .ok (.bl true) S := by
  show run tb P (k + 5) 9 [.tup [DL.D.str wEntry, .int day, .int (at_ + 1), .str wOa, .int at_, deedD e]] S = _
  generalize hL : [DL.D.str wEntry, .int day, .int (at_ + 1), .str wOa, .int at_, deedD e] = L
  refine run_of (d := d_9) (x := .ret (.bl true) S) rfl rfl ?_ (fin_pl rfl)
  have hlen : (L.length : Int) = 6 := by rw [← hL]; rfl
  have x0 : atI L 0 = some (.str wEntry) := by rw [← hL]; rfl
  have x1 : atI L 1 = some (.int day) := by rw [← hL]; rfl
  have x2 : atI L 2 = some (.int (at_ + 1)) := by rw [← hL]; rfl
  have x3 : atI L 3 = some (.str wOa) := by rw [← hL]; rfl
  have x4 : atI L 4 = some (.int at_) := by rw [← hL]; rfl
  have x5 : atI L 5 = some (deedD e) := by rw [← hL]; rfl
  have n1 : fNe (.int 6) (.int 6) S = .ok (.bl false) S := by rw [fNe_int]; rfl
  have n2 : fNe (.str wEntry) (.str [101, 110, 116, 114, 121]) S = .ok (.bl false) S := by rw [fNe_str (by decide) (by decide)]; rfl
  have q1 : (decide (0 ≤ day) && decide (day ≤ 19999)) = true := by simp; omega
  have q2 : (decide (1 ≤ at_ + 1) && decide (at_ + 1 ≤ 2000)) = true := by simp; omega
  refine ss_nx (s_if1 ?_) (ss_nx (s_if1 ?_) (ss_ret (s_ret0 ?_)))
  · show semB _ _ [some (.tup L)] S = _
    simp only [semB, semAny, semE, semEs, List.getElem?_cons_zero, bind_ok, i_tup_tuple, truD_bl, Bool.not_true, Bool.false_eq_true, if_false, biF, fLen_tup, hlen, coF, n1, toB_bl, fIx_tup, x0, okO_some, n2]
  · show semB _ _ [some (.tup L)] S = _
    simp only [semB, semAny, semE, semEs, List.getElem?_cons_zero, bind_ok, fIx_tup, x1, x2, okO_some, gLD, gMH, whole2, q1, q2, truD_bl, Bool.not_true, Bool.false_eq_true, if_false]
  · show semE _ _ [some (.tup L)] S = _
    simp only [semE, semEs, semAnd, List.getElem?_cons_zero, bind_ok, fIx_tup, x3, x4, x5, okO_some, source_ok (k + 2) of_oa a0 (show at_ ≤ 399 by omega), truD_bl, if_true, deed_ok k h0 h1]
theorem entry_no (k : Nat) (S : Sto) : run tb P (k + 1) 9 [.tup []] S = .ok (.bl false) S := by
  refine run_of (d := d_9) (x := .ret (.bl false) S) rfl rfl ?_ (fin_pl rfl)
  refine ss_ret (s_ifT ?_ (ss_ret (s_ret0 (by simp only [semE]))))
  show semB _ _ [some (.tup [])] S = _
  simp only [semB, semAny, semE, semEs, List.getElem?_cons_zero, bind_ok, i_tup_tuple, truD_bl, Bool.not_true, Bool.false_eq_true, if_false, biF, fLen_tup, coF, fNe_int, toB_bl]
  rfl
end K37
set_option Elab.async false
set_option linter.all false
set_option maxRecDepth 100000
set_option maxHeartbeats 4000000
/-! NG: forms of journal entries. -/
namespace K37
open PySem L2 DL
theorem integ_i (k : Nat) (i : Int) (S : Sto) : run tb P (k + 1) 26 [.int i] S = .ok (.bl true) S := by
  refine run_of (d := d_26) (x := .ret _ S) rfl rfl (ss_ret (s_ret0 ?_)) (fin_pl rfl)
  simp [startL, d_26, semE, semEs, semAnd, coF]
theorem integ_s (k : Nat) (s : List Nat) (S : Sto) : run tb P (k + 1) 26 [.str s] S = .ok (.bl false) S := by
  refine run_of (d := d_26) (x := .ret _ S) rfl rfl (ss_ret (s_ret0 ?_)) (fin_pl rfl)
  simp [startL, d_26, semE, semEs, semAnd, coF]
theorem pair_ok (k : Nat) (i j : Int) (S : Sto) : run tb P (k + 2) 27 [.tup [.int i, .int j]] S = .ok (.bl true) S := by
  refine run_of (d := d_27) (x := .ret _ S) rfl rfl (ss_ret (s_ret0 ?_)) (fin_pl rfl)
  show semE _ _ [some (.tup [.int i, .int j])] S = _
  simp only [semE, semEs, semAnd, List.getElem?_cons_zero, bind_ok, i_tup_tuple, truD_bl, if_true, biF, fLen_tup, coF, fEq_int, List.length_cons, List.length_nil, fIx_tup, at_0, at_1, List.getElem?_cons_succ, okO_some, integ_i]
  rfl
theorem pair_i (k : Nat) (i : Int) (S : Sto) : run tb P (k + 2) 27 [.int i] S = .ok (.bl false) S := by
  refine run_of (d := d_27) (x := .ret _ S) rfl rfl (ss_ret (s_ret0 ?_)) (fin_pl rfl)
  show semE _ _ [some (.int i)] S = _
  simp only [semE, semEs, semAnd, List.getElem?_cons_zero, bind_ok, i_int_tuple, truD_bl, Bool.false_eq_true, if_false]
theorem for1_nx {t : Tg} {b : MS} {d : DL.D} {r r2 r3 : DL.Loc} {S S3 : Sto} (h1 : asg t d r = some r2) (h2 : b r2 S = .nx r3 S3) : forG none t b [d] r S = .nx r3 S3 := by
  rw [forG_cons]
  unfold asgS
  rw [h1]
  simp only [seq_nx, h2, turn_nx, forG_nil]
theorem for1_ret {t : Tg} {b : MS} {d e : DL.D} {r r2 : DL.Loc} {S S3 : Sto} (h1 : asg t d r = some r2) (h2 : b r2 S = .ret e S3) : forG none t b [d] r S = .ret e S3 := by
  rw [forG_cons]
  unfold asgS
  rw [h1]
  simp only [seq_nx, h2, turn_ret]
def gbody : Sms := match a_is_ground with
  | .cons _ (.cons _ (.cons (.forr _ _ b) _)) => b
  | _ => .nil
theorem ground_0 (k : Nat) (S : Sto) : run tb P (k + 1) 19 [.tup []] S = .ok (.bl true) S := by
  refine run_of (d := d_19) (x := .ret (.bl true) S) rfl rfl ?_ (fin_pl rfl)
  refine ss_nx (s_if1 ?_) (ss_nx (s_asg0 (.str []) (by simp only [semE]) rfl) (ss_nx (r2 := [some (.tup []), some (.str []), none]) (S2 := S) (s_for (w := ([], none)) (S2 := S) ?_ ?_) (ss_ret (s_ret0 (by simp only [semE])))))
  · show semB _ _ [some (.tup []), none, none] S = _
    simp only [semB, semAny, semE, semEs, List.getElem?_cons_zero, bind_ok, i_tup_tuple, truD_bl, Bool.not_true, Bool.false_eq_true, if_false, biF, fLen_tup, gMO, coF, fGt_int, toB_bl, List.length_nil]
    rfl
  · simp [semI, semE, startL, d_19, walk]
  · exact forG_nil
theorem ground_1 (k : Nat) {s : List Nat} {n : Int} (f : OfF s) (hs : s ≠ []) (S : Sto) : run tb P (k + 2) 19 [.tup [.tup [.str s, .int n]]] S = .ok (.bl (decide (1 ≤ n) && decide (n ≤ 400))) S := by
  have hle : fLe (.str s) (.str []) S = .ok (.bl false) S := by
    cases s with
    | nil => exact absurd rfl hs
    | cons c r => rfl
  have t1 : semB { P with fn := run tb P (k + 1) } (.or (.cons (.not (.isi (.var 0) "tuple")) (.cons (.cmp .gt (.blt .len (.cons (.var 0) .nil)) (.glo "MOST_OFFICES")) .nil))) [some (.tup [.tup [.str s, .int n]]), none, none] S = .ok false S := by
    simp only [semB, semAny, semE, semEs, List.getElem?_cons_zero, bind_ok, i_tup_tuple, truD_bl, Bool.not_true, Bool.false_eq_true, if_false, biF, fLen_tup, gMO, coF, fGt_int, toB_bl, List.length_cons, List.length_nil]
    rfl
  have t2 : semB { P with fn := run tb P (k + 1) } (.or (.cons (.not (.isi (.var 2) "tuple")) (.cons (.cmp .ne (.blt .len (.cons (.var 2) .nil)) (.int 2)) (.cons (.not (.call 5 (.cons (.ix (.var 2) (.int 0)) .nil))) .nil)))) [some (.tup [.tup [.str s, .int n]]), some (.str []), some (.tup [.str s, .int n])] S = .ok false S := by
    have n1 : fNe (.int ((0 + 1 + 1 : Nat) : Int)) (.int 2) S = .ok (.bl false) S := by rw [fNe_int]; rfl
    simp only [semB, semAny, semE, semEs, List.getElem?_cons_zero, List.getElem?_cons_succ, bind_ok, i_tup_tuple, truD_bl, Bool.not_true, Bool.false_eq_true, if_false, biF, fLen_tup, coF, n1, toB_bl, List.length_cons, List.length_nil, fIx_tup, at_0, okO_some, office_ok k f]
  have t3 : semB { P with fn := run tb P (k + 1) } (.or (.cons (.cmp .le (.ix (.var 2) (.int 0)) (.var 1)) (.cons (.not (.call 2 (.cons (.ix (.var 2) (.int 1)) (.cons (.int 1) (.cons (.glo "MOST_ENTRIES") .nil))))) .nil))) [some (.tup [.tup [.str s, .int n]]), some (.str []), some (.tup [.str s, .int n])] S = .ok (!(decide (1 ≤ n) && decide (n ≤ 400))) S := by
    simp only [semB, semAny, semE, semEs, List.getElem?_cons_zero, List.getElem?_cons_succ, bind_ok, fIx_tup, at_0, at_1, okO_some, coF, hle, toB_bl, Bool.false_eq_true, if_false, gME, whole2, truD_bl]
    cases (decide (1 ≤ n) && decide (n ≤ 400)) <;> rfl
  refine run_of (d := d_19) (x := .ret (.bl (decide (1 ≤ n) && decide (n ≤ 400))) S) rfl rfl ?_ (fin_pl rfl)
  refine ss_nx (s_if1 t1) (ss_nx (s_asg0 (.str []) (by simp only [semE]) rfl) ?_)
  have hI : semI { P with fn := run tb P (k + 1) } (.plain (.var 0)) [some (.tup [.tup [.str s, .int n]]), some (.str []), none] S = .ok ([.tup [.str s, .int n]], none) S := by
    simp [semI, semE, walk]
  cases hq : (decide (1 ≤ n) && decide (n ≤ 400)) with
  | true =>
    rw [hq] at t3
    refine ss_nx (r2 := [some (.tup [.tup [.str s, .int n]]), some (.str s), some (.tup [.str s, .int n])]) (S2 := S) (s_for hI ?_) (ss_ret (s_ret0 (by simp only [semE])))
    · exact for1_nx rfl (ss_nx (s_if1 t2) (ss_nx (s_if1 t3) (ss_nx (s_asg0 (.str s) (by
        show semE _ _ [some (.tup [.tup [.str s, .int n]]), some (.str []), some (.tup [.str s, .int n])] S = _
        simp only [semE, List.getElem?_cons_zero, List.getElem?_cons_succ, bind_ok, fIx_tup, at_0, okO_some]) rfl) ss0)))
  | false =>
    rw [hq] at t3
    exact ss_ret (s_for hI (for1_ret rfl (ss_nx (s_if1 t2) (ss_ret (s_ifT t3 (ss_ret (s_ret0 (by simp only [semE]))))))))
theorem ground_i (k : Nat) {i n : Int} (S : Sto) : run tb P (k + 2) 19 [.tup [.tup [.int i, .int n]]] S = .ok (.bl false) S := by
  have t1 : semB { P with fn := run tb P (k + 1) } (.or (.cons (.not (.isi (.var 0) "tuple")) (.cons (.cmp .gt (.blt .len (.cons (.var 0) .nil)) (.glo "MOST_OFFICES")) .nil))) [some (.tup [.tup [.int i, .int n]]), none, none] S = .ok false S := by
    simp only [semB, semAny, semE, semEs, List.getElem?_cons_zero, bind_ok, i_tup_tuple, truD_bl, Bool.not_true, Bool.false_eq_true, if_false, biF, fLen_tup, gMO, coF, fGt_int, toB_bl, List.length_cons, List.length_nil]
    rfl
  have t2 : semB { P with fn := run tb P (k + 1) } (.or (.cons (.not (.isi (.var 2) "tuple")) (.cons (.cmp .ne (.blt .len (.cons (.var 2) .nil)) (.int 2)) (.cons (.not (.call 5 (.cons (.ix (.var 2) (.int 0)) .nil))) .nil)))) [some (.tup [.tup [.int i, .int n]]), some (.str []), some (.tup [.int i, .int n])] S = .ok true S := by
    have n1 : fNe (.int ((0 + 1 + 1 : Nat) : Int)) (.int 2) S = .ok (.bl false) S := by rw [fNe_int]; rfl
    simp only [semB, semAny, semE, semEs, List.getElem?_cons_zero, List.getElem?_cons_succ, bind_ok, i_tup_tuple, truD_bl, Bool.not_true, Bool.false_eq_true, if_false, biF, fLen_tup, coF, n1, toB_bl, List.length_cons, List.length_nil, fIx_tup, at_0, okO_some, office_int k, Bool.not_false, if_true]
  refine run_of (d := d_19) (x := .ret (.bl false) S) rfl rfl ?_ (fin_pl rfl)
  refine ss_nx (s_if1 t1) (ss_nx (s_asg0 (.str []) (by simp only [semE]) rfl) ?_)
  have hI : semI { P with fn := run tb P (k + 1) } (.plain (.var 0)) [some (.tup [.tup [.int i, .int n]]), some (.str []), none] S = .ok ([.tup [.int i, .int n]], none) S := by
    simp [semI, semE, walk]
  exact ss_ret (s_for hI (for1_ret rfl (ss_ret (s_ifT t2 (ss_ret (s_ret0 (by simp only [semE])))))))
abbrev wMade : List Nat := [109, 97, 100, 101]
abbrev wHeard : List Nat := [104, 101, 97, 114, 100]
abbrev wTold : List Nat := [116, 111, 108, 100]
abbrev wRan : List Nat := [114, 97, 110]
abbrev wPaid : List Nat := [112, 97, 105, 100]
abbrev wSent : List Nat := [115, 101, 110, 116]
theorem eqs {s t : List Nat} (hs : okS s = true) (ht : okS t = true) (S : Sto) : fEq (.str s) (.str t) S = .ok (.bl (s == t)) S := fEq_str hs ht
/-- the tests of the word in _has_form -/
theorem hf_in {w : List Nat} {D0 : DL.D} {K : Nat} {S : Sto} {b : Bool} (h : fIn (.str w) (.tup [.str wMade, .str wHeard]) S = .ok (.bl b) S) : semB { P with fn := run tb P K } (.cmp .in_ (.var 1) (.tup (.cons (.str [109, 97, 100, 101]) (.cons (.str [104, 101, 97, 114, 100]) .nil)))) [some D0, some (.str w)] S = .ok b S := by
  simp only [semB, semE, semEs, List.getElem?_cons_zero, List.getElem?_cons_succ, bind_ok, coF, h, toB_bl]
theorem hf_eq {w t : List Nat} {D0 : DL.D} {K : Nat} {S : Sto} {b : Bool} (h : fEq (.str w) (.str t) S = .ok (.bl b) S) : semB { P with fn := run tb P K } (.cmp .eq (.var 1) (.str t)) [some D0, some (.str w)] S = .ok b S := by
  simp only [semB, semE, semEs, List.getElem?_cons_zero, List.getElem?_cons_succ, bind_ok, coF, h, toB_bl]
theorem hf_0 {w : List Nat} {r : List DL.D} {K : Nat} {S : Sto} : semE { P with fn := run tb P K } (.ix (.var 0) (.int 0)) [some (.tup (.str w :: r)), none] S = .ok (.str w) S := by
  simp only [semE, List.getElem?_cons_zero, bind_ok, fIx_tup, at_0, okO_some]
/-- made, heard -/
theorem form_entry (k : Nat) {w : List Nat} (hw : w = wMade ∨ w = wHeard) {day : DL.D} {e : DL.D} {b : Bool} {S : Sto} (h : run tb P k 9 [e] S = .ok (.bl b) S) : run tb P (k + 1) 25 [.tup [.str w, day, e]] S = .ok (.bl b) S := by
  refine run_of (d := d_25) (x := .ret (.bl b) S) rfl rfl ?_ (fin_pl rfl)
  refine ss_nx (s_asg0 (.str w) hf_0 rfl) (ss_ret (s_ifT (hf_in (by rcases hw with rfl | rfl <;> rfl)) (ss_ret (s_ret0 ?_))))
  show semE _ _ [some (.tup [.str w, day, e]), some (.str w)] S = _
  simp only [semE, semEs, List.getElem?_cons_zero, List.getElem?_cons_succ, bind_ok, fIx_tup, at_2, okO_some, h]
theorem at_4 {α : Type} {xs : List α} : atI xs 4 = xs[4]? := at_nat (i := 4)
/-- told -/
theorem form_told (k : Nat) {day g : DL.D} {s t : List Nat} {b : Bool} {S : Sto} (h : run tb P k 19 [g] S = .ok (.bl b) S) : run tb P (k + 1) 25 [.tup [.str wTold, day, .str s, .str t, g]] S = .ok (.bl b) S := by
  refine run_of (d := d_25) (x := .ret (.bl b) S) rfl rfl ?_ (fin_pl rfl)
  refine ss_nx (s_asg0 (.str wTold) hf_0 rfl) (ss_nx (s_if1 (hf_in rfl)) (ss_ret (s_ifT (hf_eq (by rw [eqs (by decide) (by decide)]; rfl)) (ss_ret (s_ret0 ?_)))))
  show semE _ _ [some (.tup [.str wTold, day, .str s, .str t, g]), some (.str wTold)] S = _
  simp only [semE, semEs, semAnd, List.getElem?_cons_zero, List.getElem?_cons_succ, bind_ok, fIx_tup, at_2, at_3, at_4, okO_some, i_str_str, truD_bl, if_true, h]
theorem form_told0 (k : Nat) {day g x : DL.D} {i : Int} {S : Sto} : run tb P (k + 1) 25 [.tup [.str wTold, day, .int i, x, g]] S = .ok (.bl false) S := by
  refine run_of (d := d_25) (x := .ret (.bl false) S) rfl rfl ?_ (fin_pl rfl)
  refine ss_nx (s_asg0 (.str wTold) hf_0 rfl) (ss_nx (s_if1 (hf_in rfl)) (ss_ret (s_ifT (hf_eq (by rw [eqs (by decide) (by decide)]; rfl)) (ss_ret (s_ret0 ?_)))))
  show semE _ _ [some (.tup [.str wTold, day, .int i, x, g]), some (.str wTold)] S = _
  simp only [semE, semEs, semAnd, List.getElem?_cons_zero, List.getElem?_cons_succ, bind_ok, fIx_tup, at_2, okO_some, i_int_str, truD_bl, Bool.false_eq_true, if_false]
/-- ran -/
theorem form_ran (k : Nat) {day p rr : DL.D} {b c : Bool} {S : Sto} (h : run tb P k 27 [p] S = .ok (.bl b) S) (hr : fIsi "tuple" rr S = .ok (.bl c) S) : run tb P (k + 1) 25 [.tup [.str wRan, day, p, rr]] S = .ok (.bl (b && c)) S := by
  refine run_of (d := d_25) (x := .ret (.bl (b && c)) S) rfl rfl ?_ (fin_pl rfl)
  refine ss_nx (s_asg0 (.str wRan) hf_0 rfl) (ss_nx (s_if1 (hf_in rfl)) (ss_nx (s_if1 (hf_eq (by rw [eqs (by decide) (by decide)]; rfl))) (ss_ret (s_ifT (hf_eq (by rw [eqs (by decide) (by decide)]; rfl)) (ss_ret (s_ret0 ?_))))))
  show semE _ _ [some (.tup [.str wRan, day, p, rr]), some (.str wRan)] S = _
  simp only [semE, semEs, semAnd, List.getElem?_cons_zero, List.getElem?_cons_succ, bind_ok, fIx_tup, at_2, at_3, okO_some, h, truD_bl, hr]
  cases b <;> rfl
/-- paid -/
theorem form_paid (k : Nat) {day p rr : DL.D} {b c : Bool} {S : Sto} (hr : fIsi "str" p S = .ok (.bl b) S) (h : run tb P k 26 [rr] S = .ok (.bl c) S) : run tb P (k + 1) 25 [.tup [.str wPaid, day, p, rr]] S = .ok (.bl (b && c)) S := by
  refine run_of (d := d_25) (x := .ret (.bl (b && c)) S) rfl rfl ?_ (fin_pl rfl)
  refine ss_nx (s_asg0 (.str wPaid) hf_0 rfl) (ss_nx (s_if1 (hf_in rfl)) (ss_nx (s_if1 (hf_eq (by rw [eqs (by decide) (by decide)]; rfl))) (ss_nx (s_if1 (hf_eq (by rw [eqs (by decide) (by decide)]; rfl))) (ss_ret (s_ifT (hf_eq (by rw [eqs (by decide) (by decide)]; rfl)) (ss_ret (s_ret0 ?_)))))))
  show semE _ _ [some (.tup [.str wPaid, day, p, rr]), some (.str wPaid)] S = _
  simp only [semE, semEs, semAnd, List.getElem?_cons_zero, List.getElem?_cons_succ, bind_ok, fIx_tup, at_2, at_3, okO_some, h, truD_bl, hr]
  cases b <;> rfl
/-- sent -/
theorem form_sent (k : Nat) {day p rr : DL.D} {b c : Bool} {S : Sto} (h : run tb P k 19 [p] S = .ok (.bl b) S) (hr : fIsi "tuple" rr S = .ok (.bl c) S) : run tb P (k + 1) 25 [.tup [.str wSent, day, p, rr]] S = .ok (.bl (b && c)) S := by
  refine run_of (d := d_25) (x := .ret (.bl (b && c)) S) rfl rfl ?_ (fin_pl rfl)
  refine ss_nx (s_asg0 (.str wSent) hf_0 rfl) (ss_nx (s_if1 (hf_in rfl)) (ss_nx (s_if1 (hf_eq (by rw [eqs (by decide) (by decide)]; rfl))) (ss_nx (s_if1 (hf_eq (by rw [eqs (by decide) (by decide)]; rfl))) (ss_nx (s_if1 (hf_eq (by rw [eqs (by decide) (by decide)]; rfl))) (ss_ret (s_ret0 ?_))))))
  show semE _ _ [some (.tup [.str wSent, day, p, rr]), some (.str wSent)] S = _
  simp only [semE, semEs, semAnd, List.getElem?_cons_zero, List.getElem?_cons_succ, bind_ok, fIx_tup, at_2, at_3, okO_some, h, truD_bl, hr]
  cases b <;> rfl
end K37
set_option Elab.async false
set_option linter.all false
set_option maxRecDepth 100000
set_option maxHeartbeats 4000000
/-! NH: journal entries, read. -/
namespace K37
open PySem L2 DL
abbrev wOffice : List Nat := [111, 102, 102, 105, 99, 101]
abbrev wShort : List Nat := [115, 104, 111, 114, 116]
abbrev fstT : DL.D := .tup [.str wOffice, .str wShort]
/-- the entry is read in the try -/
theorem eo_try {K : Nat} {T : List Nat} {b : Bool} {d : DL.D} {S : Sto} (h : run tb P K 12 [.str T] S = .ok d S) : semS (.trys "BadPlain" none (.cons (.asg (.name 2) (.call 12 (.cons (.var 0) .nil))) .nil) (.cons (.ret .non) .nil)) { P with fn := run tb P K } [some (.str T), some (.bl b), none] S = .nx [some (.str T), some (.bl b), some d] S := by
  refine s_try ?_
  rw [show semSs (.cons (.asg (.name 2) (.call 12 (.cons (.var 0) .nil))) .nil) { P with fn := run tb P K } [some (.str T), some (.bl b), none] S = .nx [some (.str T), some (.bl b), some d] S from ss_nx (s_asg0 d (by simp only [semE, semEs, List.getElem?_cons_zero, bind_ok, h]) rfl) ss0]
  rfl
theorem s_tryB {h : Str} {i : Option Nat} {b su : Sms} {P : Par} {r : DL.Loc} {S S2 S3 : Sto} {x : Nat} {fs : List DL.D} {d : DL.D} (h1 : semSs b P r S = .err x fs S2) (h2 : P.exm h x = some true) (h3 : ∀ a dd, semSs su { P with ex := some (a, dd, x) } (excL i (.exn a dd x fs)) S2 = .ret d S3) : semS (.trys h i b su) P r S = .ret d S3 := by
  refine s_try ?_
  rw [h1]
  unfold tryR
  dsimp only
  rw [h2]
  refine anyA_eq fun a dd => ?_
  rw [h3]
  rfl
theorem eo_bad {K : Nat} {T : List Nat} {b : Bool} {fs : List DL.D} {S : Sto} (h : run tb P K 12 [.str T] S = .err 0 fs S) : run tb P (K + 1) 24 [.str T, .bl b] S = .ok .non S := by
  refine run_of (d := d_24) (x := .ret .non S) rfl rfl ?_ (fin_pl rfl)
  refine ss_ret (s_tryB (x := 0) (fs := fs) (S2 := S) (ss_err (s_asgE ?_)) exm_1 (fun a dd => ss_ret (s_ret0 (by simp only [semE]))))
  show semE _ _ [some (.str T), some (.bl b), none] S = _
  simp only [semE, semEs, List.getElem?_cons_zero, bind_ok, h]
theorem eo_int {K : Nat} {T : List Nat} {b : Bool} {i : Int} {S : Sto} (h : run tb P K 12 [.str T] S = .ok (.int i) S) : run tb P (K + 1) 24 [.str T, .bl b] S = .ok .non S := by
  refine run_of (d := d_24) (x := .ret .non S) rfl rfl ?_ (fin_pl rfl)
  refine ss_nx (eo_try h) (ss_ret (s_ifT ?_ (ss_ret (s_ret0 (by simp only [semE])))))
  simp only [semB, semAny, semE, semEs, List.getElem?_cons_zero, List.getElem?_cons_succ, bind_ok, i_int_tuple, truD_bl, Bool.not_false, if_true]
theorem eo_nil {K : Nat} {T : List Nat} {b : Bool} {S : Sto} (h : run tb P K 12 [.str T] S = .ok (.tup []) S) : run tb P (K + 1) 24 [.str T, .bl b] S = .ok .non S := by
  refine run_of (d := d_24) (x := .ret .non S) rfl rfl ?_ (fin_pl rfl)
  refine ss_nx (eo_try h) (ss_ret (s_ifT ?_ (ss_ret (s_ret0 (by simp only [semE])))))
  have ht : truD (.tup []) S = .ok false S := rfl
  simp only [semB, semAny, semE, semEs, List.getElem?_cons_zero, List.getElem?_cons_succ, bind_ok, i_tup_tuple, truD_bl, Bool.not_true, Bool.false_eq_true, if_false, ht, Bool.not_false, if_true]
section
variable {K : Nat} {T w : List Nat} {b : Bool} {r : List DL.D} {S : Sto}
theorem eo_t1 : semB { P with fn := run tb P K } (.or (.cons (.not (.isi (.var 2) "tuple")) (.cons (.not (.var 2)) (.cons (.not (.isi (.ix (.var 2) (.int 0)) "str")) .nil)))) [some (.str T), some (.bl b), some (.tup (.str w :: r))] S = .ok false S := by
  have ht : truD (.tup (.str w :: r)) S = .ok true S := rfl
  simp only [semB, semAny, semE, semEs, List.getElem?_cons_zero, List.getElem?_cons_succ, bind_ok, i_tup_tuple, truD_bl, Bool.not_true, Bool.false_eq_true, if_false, ht, fIx_tup, at_0, okO_some, i_str_str]
theorem eo_t2 {n : Nat} (hi : fInD true (some t_PARTS) (.str w) S = .ok (.bl false) S) (hx : fIxD (some t_PARTS) (.str w) S = .ok (.int n) S) :
    semB { P with fn := run tb P K } (.or (.cons (.inD true (.ix (.var 2) (.int 0)) "PARTS") (.cons (.cmp .ne (.blt .len (.cons (.var 2) .nil)) (.ixD "PARTS" (.ix (.var 2) (.int 0)))) .nil))) [some (.str T), some (.bl b), some (.tup (.str w :: r))] S = .ok (!decide (r.length + 1 = n)) S := by
  have e : (((r.length + 1 : Nat) : Int) == (n : Int)) = decide (r.length + 1 = n) := by
    rw [Bool.eq_iff_iff]
    simp only [beq_iff_eq, decide_eq_true_eq]
    omega
  simp only [semB, semAny, semE, semEs, List.getElem?_cons_zero, List.getElem?_cons_succ, bind_ok, fIx_tup, at_0, okO_some, gP, hi, truD_bl, Bool.false_eq_true, if_false, biF, fLen_tup, hx, coF, fNe_int, toB_bl, List.length_cons, e]
  cases decide (r.length + 1 = n) <;> rfl
theorem eo_t3 {c : Bool} (hf : fIn (.str w) fstT S = .ok (.bl c) S) : semB { P with fn := run tb P K } (.cmp .ne (.var 1) (.cmp .in_ (.ix (.var 2) (.int 0)) (.tup (.cons (.str [111, 102, 102, 105, 99, 101]) (.cons (.str [115, 104, 111, 114, 116]) .nil))))) [some (.str T), some (.bl b), some (.tup (.str w :: r))] S = .ok (b != c) S := by
  have hn : fNe (.bl b) (.bl c) S = .ok (.bl (b != c)) S := by cases b <;> cases c <;> rfl
  simp only [semB, semE, semEs, List.getElem?_cons_zero, List.getElem?_cons_succ, bind_ok, fIx_tup, at_0, okO_some, coF, hf, hn, toB_bl]
theorem eo_word (h : run tb P K 12 [.str T] S = .ok (.tup (.str w :: r)) S) (hi : fInD true (some t_PARTS) (.str w) S = .ok (.bl true) S) : run tb P (K + 1) 24 [.str T, .bl b] S = .ok .non S := by
  refine run_of (d := d_24) (x := .ret .non S) rfl rfl ?_ (fin_pl rfl)
  refine ss_nx (eo_try h) (ss_nx (s_if1 eo_t1) (ss_ret (s_ifT ?_ (ss_ret (s_ret0 (by simp only [semE]))))))
  simp only [semB, semAny, semE, semEs, List.getElem?_cons_zero, List.getElem?_cons_succ, bind_ok, fIx_tup, at_0, okO_some, gP, hi, truD_bl, if_true]
theorem eo_len {n : Nat} (h : run tb P K 12 [.str T] S = .ok (.tup (.str w :: r)) S) (hi : fInD true (some t_PARTS) (.str w) S = .ok (.bl false) S) (hx : fIxD (some t_PARTS) (.str w) S = .ok (.int n) S) (hn : r.length + 1 ≠ n) : run tb P (K + 1) 24 [.str T, .bl b] S = .ok .non S := by
  refine run_of (d := d_24) (x := .ret .non S) rfl rfl ?_ (fin_pl rfl)
  have t2 := eo_t2 (K := K) (T := T) (b := b) (r := r) hi hx
  rw [decide_eq_false hn] at t2
  exact ss_nx (eo_try h) (ss_nx (s_if1 eo_t1) (ss_ret (s_ifT t2 (ss_ret (s_ret0 (by simp only [semE]))))))
theorem eo_mis {n : Nat} {c : Bool} (h : run tb P K 12 [.str T] S = .ok (.tup (.str w :: r)) S) (hi : fInD true (some t_PARTS) (.str w) S = .ok (.bl false) S) (hx : fIxD (some t_PARTS) (.str w) S = .ok (.int n) S) (hn : r.length + 1 = n) (hf : fIn (.str w) fstT S = .ok (.bl c) S) (hb : (b != c) = true) : run tb P (K + 1) 24 [.str T, .bl b] S = .ok .non S := by
  refine run_of (d := d_24) (x := .ret .non S) rfl rfl ?_ (fin_pl rfl)
  have t2 := eo_t2 (K := K) (T := T) (b := b) (r := r) hi hx
  rw [decide_eq_true hn] at t2
  have t3 := eo_t3 (K := K) (T := T) (b := b) (r := r) hf
  rw [hb] at t3
  exact ss_nx (eo_try h) (ss_nx (s_if1 eo_t1) (ss_nx (s_if1 t2) (ss_ret (s_ifT t3 (ss_ret (s_ret0 (by simp only [semE])))))))
theorem eo_first {n : Nat} (hnr : nrs 0 r = true) (h : run tb P K 12 [.str T] S = .ok (.tup (.str w :: r)) S) (hi : fInD true (some t_PARTS) (.str w) S = .ok (.bl false) S) (hx : fIxD (some t_PARTS) (.str w) S = .ok (.int n) S) (hn : r.length + 1 = n) (hf : fIn (.str w) fstT S = .ok (.bl true) S) : run tb P (K + 1) 24 [.str T, .bl true] S = .ok (.tup (.str w :: r)) S := by
  refine run_of (d := d_24) (x := .ret (.tup (.str w :: r)) S) rfl rfl ?_ (fin_pl (by simp only [nr, nrs, hnr, Bool.true_and]))
  have t2 := eo_t2 (K := K) (T := T) (b := true) (r := r) hi hx
  rw [decide_eq_true hn] at t2
  have t3 := eo_t3 (K := K) (T := T) (b := true) (r := r) hf
  refine ss_nx (eo_try h) (ss_nx (s_if1 eo_t1) (ss_nx (s_if1 t2) (ss_nx (s_if1 t3) (ss_ret (s_ifT ?_ (ss_ret (s_ret0 ?_)))))))
  · simp only [semB, semAny, List.getElem?_cons_zero, List.getElem?_cons_succ, bind_ok, truD_bl, if_true]
  · simp only [semE, List.getElem?_cons_zero, List.getElem?_cons_succ, bind_ok]
theorem eo_later {n : Nat} {x : DL.D} {b1 b2 : Bool} (hnr : nrs 0 (x :: r) = true) (h : run tb P K 12 [.str T] S = .ok (.tup (.str w :: x :: r)) S) (hi : fInD true (some t_PARTS) (.str w) S = .ok (.bl false) S) (hx : fIxD (some t_PARTS) (.str w) S = .ok (.int n) S) (hn : (x :: r).length + 1 = n) (hf : fIn (.str w) fstT S = .ok (.bl false) S)
    (hd : run tb P K 1 [x] S = .ok (.bl b1) S) (hh : b1 = true → run tb P K 25 [.tup (.str w :: x :: r)] S = .ok (.bl b2) S) : run tb P (K + 1) 24 [.str T, .bl false] S = .ok (if b1 && b2 then .tup (.str w :: x :: r) else .non) S := by
  refine run_of (d := d_24) (x := .ret (if b1 && b2 then .tup (.str w :: x :: r) else .non) S) rfl rfl ?_ (fin_pl (by
    cases b1 && b2
    · rfl
    · simp only [if_true]
      rw [nr, nrs, hnr]
      rfl))
  have t2 := eo_t2 (K := K) (T := T) (b := false) (r := x :: r) hi hx
  rw [decide_eq_true hn] at t2
  have t3 := eo_t3 (K := K) (T := T) (b := false) (r := x :: r) hf
  have t4 : semB { P with fn := run tb P K } (.or (.cons (.var 1) (.cons (.and (.cons (.call 1 (.cons (.ix (.var 2) (.int 1)) .nil)) (.cons (.call 25 (.cons (.var 2) .nil)) .nil))) .nil))) [some (.str T), some (.bl false), some (.tup (.str w :: x :: r))] S = .ok (b1 && b2) S := by
    simp only [semB, semAny, semAll, semE, semEs, List.getElem?_cons_zero, List.getElem?_cons_succ, bind_ok, truD_bl, Bool.false_eq_true, if_false, fIx_tup, at_1, okO_some, hd]
    cases b1 with
    | false => simp only [Bool.false_and, Bool.false_eq_true, if_false, bind_ok]
    | true =>
      simp only [hh rfl, bind_ok, truD_bl, if_true, Bool.true_and]
      cases b2 <;> rfl
  refine ss_nx (eo_try h) (ss_nx (s_if1 eo_t1) (ss_nx (s_if1 t2) (ss_nx (s_if1 t3) ?_)))
  cases hq : b1 && b2 with
  | true =>
    rw [hq] at t4
    exact ss_ret (s_ifT t4 (ss_ret (s_ret0 (by simp only [semE, List.getElem?_cons_zero, List.getElem?_cons_succ, bind_ok, if_true]))))
  | false =>
    rw [hq] at t4
    exact ss_nx (s_if1 t4) (ss_ret (s_ret0 (by simp only [semE, Bool.false_eq_true, if_false])))
end
end K37
set_option Elab.async false
set_option linter.all false
set_option maxRecDepth 100000
set_option maxHeartbeats 4000000
/-! NI: the entries of the law. -/
namespace K37
open PySem L2 DL
theorem esc_10 {s : List Nat} : 10 ∉ esc s := by
  unfold esc repC
  intro h
  obtain ⟨d, hd, h2⟩ := List.mem_flatMap.mp h
  split at h2
  · simp at h2
  · rename_i hne
    simp only [List.mem_singleton] at h2
    exact hne h2.symm
theorem esc_len {s : List Nat} : (esc s).length ≤ 2 * s.length := by
  unfold esc repC
  induction s with
  | nil => simp
  | cons c s ih =>
    rw [List.flatMap_cons, List.length_append, List.length_cons]
    have h2 : (if c = 10 then [92, 110] else [c]).length ≤ 2 := by split <;> simp
    omega
mutual
/-- at most so many signs are shown -/
def szD : DL.D → Nat
  | .int _ => 20
  | .str s => 2 * s.length + 2
  | .tup ds => szs ds + 2
  | _ => 1
def szs : List DL.D → Nat
  | [] => 0
  | d :: ds => szD d + 1 + szs ds
end
theorem num_len {i : Int} (h : (0 ≤ i ∧ i.natAbs ≤ 1000000000000) ∨ i = -1) : (digS i).length ≤ 20 := by
  rcases h with ⟨h0, h1⟩ | rfl
  · exact (num_f h0 h1).len
  · rw [dig_m1]
    decide
theorem num_10 {i : Int} (h : (0 ≤ i ∧ i.natAbs ≤ 1000000000000) ∨ i = -1) : 10 ∉ digS i := by
  rcases h with ⟨h0, h1⟩ | rfl
  · intro hc
    have := dig_fig h0 hc
    omega
  · rw [dig_m1]
    decide
mutual
theorem show_f : ∀ (n : Nat) (d : DL.D), rvD n d = true → (showD d).length ≤ szD d ∧ 10 ∉ showD d
  | _, .non, _ => ⟨by simp [showD, szD], by simp [showD]⟩
  | _, .bl b, _ => ⟨by cases b <;> simp [showD, szD], by cases b <;> simp [showD]⟩
  | n, .int i, h => by
    have h : (0 ≤ i ∧ i.natAbs ≤ 1000000000000) ∨ i = -1 := by cases n <;> simpa [rvD] using h
    exact ⟨by rw [showD, szD]; exact num_len h, by rw [showD]; exact num_10 h⟩
  | n, .str s, h => by
    rw [showD, szD]
    refine ⟨?_, ?_⟩
    · have := esc_len (s := s)
      simp
      omega
    · simp only [List.mem_cons, List.mem_append, List.not_mem_nil, or_false, not_or]
      exact ⟨by decide, esc_10, by decide⟩
  | n + 1, .tup ds, h => by
    simp only [rvD, Bool.and_eq_true] at h
    have := shows_f n ds h.1
    rw [showD, szD]
    refine ⟨?_, ?_⟩
    · simp
      omega
    · simp only [List.mem_cons, List.mem_append, List.not_mem_nil, or_false, not_or]
      exact ⟨by decide, this.2, by decide⟩
  | 0, .tup ds, h => by simp [rvD] at h
  | 0, .lst _, h => by simp [rvD] at h
  | n + 1, .lst _, h => by simp [rvD] at h
  | 0, .ref _, h => by simp [rvD] at h
  | n + 1, .ref _, h => by simp [rvD] at h
  | 0, .fn _, h => by simp [rvD] at h
  | n + 1, .fn _, h => by simp [rvD] at h
  | 0, .scr _, h => by simp [rvD] at h
  | n + 1, .scr _, h => by simp [rvD] at h
  | 0, .exn _ _ _ _, h => by simp [rvD] at h
  | n + 1, .exn _ _ _ _, h => by simp [rvD] at h
theorem shows_f : ∀ (n : Nat) (ds : List DL.D), rvs n ds = true → (shows ds).length ≤ szs ds ∧ 10 ∉ shows ds
  | n, [], _ => ⟨by simp [shows], by simp [shows]⟩
  | n, d :: ds, h => by
    simp only [rvs, Bool.and_eq_true] at h
    have h1 := show_f n d h.1
    have h2 := showt_f n ds h.2
    rw [shows, szs]
    refine ⟨?_, ?_⟩
    · rw [List.length_append]
      omega
    · simp only [List.mem_append, not_or]
      exact ⟨h1.2, h2.2⟩
theorem showt_f : ∀ (n : Nat) (ds : List DL.D), rvs n ds = true → (showt ds).length ≤ szs ds ∧ 10 ∉ showt ds
  | n, [], _ => ⟨by simp [showt], by simp [showt]⟩
  | n, d :: ds, h => by
    simp only [rvs, Bool.and_eq_true] at h
    have h1 := show_f n d h.1
    have h2 := showt_f n ds h.2
    rw [showt, szs]
    refine ⟨?_, ?_⟩
    · rw [List.length_cons, List.length_append]
      omega
    · simp only [List.mem_cons, List.mem_append, not_or]
      exact ⟨by decide, h1.2, h2.2⟩
end
/-- an entry that may stand -/
structure GE (first : Bool) (day : Int) (d : DL.D) : Prop where
  rv : rvD 6 d = true
  sz : szD d ≤ 600
  tp : ∃ ds, d = .tup ds
  eo : ∀ (m : Nat) (S : Sto), run tb P (m + 18) 24 [.str (showD d), .bl first] S = .ok d S
  dy : first = false → ∃ w r, d = .tup (w :: .int day :: r)
/-- an entry that may not stand behind the day -/
structure GW (day : Int) (d : DL.D) : Prop where
  rv : rvD 6 d = true
  sz : szD d ≤ 600
  eo : (∀ (m : Nat) (S : Sto), run tb P (m + 18) 24 [.str (showD d), .bl false] S = .ok .non S) ∨ ((∀ (m : Nat) (S : Sto), run tb P (m + 18) 24 [.str (showD d), .bl false] S = .ok d S) ∧ ∃ w r dd, d = .tup (w :: .int dd :: r) ∧ dd < day)
theorem rd {d : DL.D} (h : rvD 6 d = true) (hs : szD d ≤ 600) (m : Nat) (S : Sto) : run tb P (m + 17) 12 [.str (showD d)] S = .ok d S := by
  have := plain_ok m h (by decide) (by have := (show_f 6 d h).1; omega) S
  rw [show 2 * 6 + 5 + m = m + 17 by omega] at this
  exact this
theorem fin_list {S : Sto} : True := trivial
/-- the first ones -/
theorem ge_first {w : List Nat} {r : List DL.D} (day : Int) {n : Nat} (hv : rvD 6 (.tup (.str w :: r)) = true) (hs : szD (.tup (.str w :: r)) ≤ 600) (hi : ∀ S, fInD true (some t_PARTS) (.str w) S = .ok (.bl false) S) (hx : ∀ S, fIxD (some t_PARTS) (.str w) S = .ok (.int n) S) (hn : r.length + 1 = n) (hf : ∀ S, fIn (.str w) fstT S = .ok (.bl true) S) : GE true day (.tup (.str w :: r)) := by
  have hr : nrs 0 r = true := by
    have := rv_nr hv
    rw [nr, nrs, Bool.and_eq_true] at this
    exact this.2
  exact ⟨hv, hs, ⟨_, rfl⟩, fun m S => eo_first hr (rd hv hs m S) (hi S) (hx S) hn (hf S), fun h => by cases h⟩
theorem ge_off (day : Int) : GE true day (.tup [.str wOffice, .str wOa, .tup [.str [111, 98]], .tup [.str wPa], .tup [.str [97, 105, 100]], .non, .str [108, 97, 119]]) :=
  ge_first day (n := 7) (by decide +kernel) (Nat.le_of_ble_eq_true rfl) (fun S => rfl) (fun S => rfl) rfl (fun S => rfl)
theorem ge_sho (day : Int) : GE true day (.tup [.str wShort, .tup [.int 1, .tup [.str [97], .non]]]) :=
  ge_first day (n := 2) (by decide +kernel) (Nat.le_of_ble_eq_true rfl) (fun S => rfl) (fun S => rfl) rfl (fun S => rfl)
theorem ge_sh2 (day : Int) {t : Int} (h0 : 0 ≤ t) (h1 : t ≤ 100) : GE true day (.tup [.str wShort, .tup [.int t, .int 7]]) :=
  ge_first day (n := 2) (by
    have q : (decide (0 ≤ t) && decide (t.natAbs ≤ 1000000000000)) = true := by simp; omega
    simp [rvD, rvs, okc]
    omega) (Nat.le_of_ble_eq_true rfl) (fun S => rfl) (fun S => rfl) rfl (fun S => rfl)
/-- the later ones -/
theorem ge_later {w : List Nat} {r : List DL.D} {day : Int} {n : Nat} (hd : 0 ≤ day ∧ day ≤ 19999) (hv : rvD 6 (.tup (.str w :: .int day :: r)) = true) (hs : szD (.tup (.str w :: .int day :: r)) ≤ 600) (hi : ∀ S, fInD true (some t_PARTS) (.str w) S = .ok (.bl false) S) (hx : ∀ S, fIxD (some t_PARTS) (.str w) S = .ok (.int n) S) (hn : (DL.D.int day :: r).length + 1 = n) (hf : ∀ S, fIn (.str w) fstT S = .ok (.bl false) S)
    (hh : ∀ (m : Nat) (S : Sto), run tb P (m + 17) 25 [.tup (.str w :: .int day :: r)] S = .ok (.bl true) S) : GE false day (.tup (.str w :: .int day :: r)) := by
  have hr : nrs 0 (DL.D.int day :: r) = true := by
    have := rv_nr hv
    rw [nr, nrs, Bool.and_eq_true] at this
    exact this.2
  refine ⟨hv, hs, ⟨_, rfl⟩, fun m S => ?_, fun _ => ⟨_, _, rfl⟩⟩
  have q : (decide (0 ≤ day) && decide (day ≤ 19999)) = true := by simp; omega
  have hdd := day_ok (m + 15) day S
  rw [q] at hdd
  have := eo_later hr (rd hv hs m S) (hi S) (hx S) hn (hf S) hdd (fun _ => hh m S)
  simpa using this
/-- the wrong ones: their form -/
theorem gw_form {w : List Nat} {r : List DL.D} {day : Int} {x : DL.D} {n : Nat} {b1 : Bool} (hv : rvD 6 (.tup (.str w :: x :: r)) = true) (hs : szD (.tup (.str w :: x :: r)) ≤ 600) (hi : ∀ S, fInD true (some t_PARTS) (.str w) S = .ok (.bl false) S) (hx : ∀ S, fIxD (some t_PARTS) (.str w) S = .ok (.int n) S) (hn : (x :: r).length + 1 = n) (hf : ∀ S, fIn (.str w) fstT S = .ok (.bl false) S)
    (hd : ∀ (m : Nat) (S : Sto), run tb P (m + 17) 1 [x] S = .ok (.bl b1) S) (hh : b1 = true → ∀ (m : Nat) (S : Sto), run tb P (m + 17) 25 [.tup (.str w :: x :: r)] S = .ok (.bl false) S) : GW day (.tup (.str w :: x :: r)) := by
  have hr : nrs 0 (x :: r) = true := by
    have := rv_nr hv
    rw [nr, nrs, Bool.and_eq_true] at this
    exact this.2
  refine ⟨hv, hs, .inl fun m S => ?_⟩
  have := eo_later (b2 := false) hr (rd hv hs m S) (hi S) (hx S) hn (hf S) (hd m S) (fun h => hh h m S)
  simpa using this
theorem day_t {day : Int} (hd : 0 ≤ day ∧ day ≤ 19999) (m : Nat) (S : Sto) : run tb P (m + 17) 1 [.int day] S = .ok (.bl true) S := by
  have q : (decide (0 ≤ day) && decide (day ≤ 19999)) = true := by simp; omega
  have hdd := day_ok (m + 15) day S
  rw [q] at hdd
  exact hdd
section
variable {day at_ e y : Int}
theorem rv_int {n : Nat} {i : Int} (h : 0 ≤ i ∧ i ≤ 100000) : rvD n (.int i) = true := by
  have q : (decide (0 ≤ i) && decide (i.natAbs ≤ 1000000000000)) = true := by simp; omega
  cases n <;> simp [rvD, q]
theorem rv_cons {n : Nat} {d : DL.D} {ds : List DL.D} (h : rvD n d = true) (h2 : rvs n ds = true) : rvs n (d :: ds) = true := by simp [rvs, h, h2]
theorem rv_tup {n : Nat} {ds : List DL.D} (h : rvs n ds = true) (h2 : Nat.ble ds.length 100 = true) : rvD (n + 1) (.tup ds) = true := by simp [rvD, h, Nat.le_of_ble_eq_true h2]
theorem rv_ent (d0 : 0 ≤ day ∧ day ≤ 100) (a0 : 0 ≤ at_ ∧ at_ ≤ 100) (e0 : 0 < e ∧ e ≤ 100) : rvD 5 (entD day at_ e) = true :=
  rv_tup (rv_cons (by decide +kernel) (rv_cons (rv_int (by omega)) (rv_cons (rv_int (by omega)) (rv_cons (by decide +kernel) (rv_cons (rv_int (by omega)) (rv_cons (rv_tup (rv_cons (by decide +kernel) (rv_cons (by decide +kernel) (rv_cons (by decide +kernel) (rv_cons (by decide +kernel) (rv_cons (rv_int (by omega)) rfl))))) rfl) rfl)))))) rfl
theorem ge_made {w : List Nat} (hw : w = wMade ∨ w = wHeard) (d0 : 0 ≤ day ∧ day ≤ 100) (a0 : 0 ≤ at_ ∧ at_ ≤ 100) (e0 : 0 < e ∧ e ≤ 100) : GE false day (.tup [.str w, .int day, entD day at_ e]) :=
  ge_later (n := 3) (by omega) (rv_tup (rv_cons (by rcases hw with rfl | rfl <;> decide +kernel) (rv_cons (rv_int (by omega)) (rv_cons (rv_ent d0 a0 e0) rfl))) rfl) (by rcases hw with rfl | rfl <;> exact Nat.le_of_ble_eq_true rfl) (fun S => by rcases hw with rfl | rfl <;> rfl) (fun S => by rcases hw with rfl | rfl <;> rfl) rfl (fun S => by rcases hw with rfl | rfl <;> rfl)
    (fun m S => form_entry (m + 16) hw (entry_ok (m + 11) (by omega) (by omega) (by omega) (by omega) (by omega) (by omega) S))
abbrev s1 : List Nat := [108, 97, 119, 32, 111, 110, 32, 50, 48, 48, 48, 45, 48, 49, 45, 48, 54]
abbrev s2 : List Nat := [110, 111, 110, 101, 10]
abbrev s3 : List Nat := [114, 111, 119, 32, 112, 97, 32, 97, 105, 100]
theorem ge_told (d0 : 0 ≤ day ∧ day ≤ 100) : GE false day (.tup [.str wTold, .int day, .str s1, .str s2, .tup [.tup [.str wOa, .int 3]]]) :=
  ge_later (n := 5) (by omega) (rv_tup (rv_cons (by decide +kernel) (rv_cons (rv_int (by omega)) (by decide +kernel))) rfl) (Nat.le_of_ble_eq_true rfl) (fun S => rfl) (fun S => rfl) rfl (fun S => rfl)
    (fun m S => form_told (m + 16) (ground_1 (m + 14) of_oa (by decide) S))
theorem ge_told2 (d0 : 0 ≤ day ∧ day ≤ 100) : GE false day (.tup [.str wTold, .int day, .str s3, .str [], .tup []]) :=
  ge_later (n := 5) (by omega) (rv_tup (rv_cons (by decide +kernel) (rv_cons (rv_int (by omega)) (by decide +kernel))) rfl) (Nat.le_of_ble_eq_true rfl) (fun S => rfl) (fun S => rfl) rfl (fun S => rfl)
    (fun m S => form_told (m + 16) (ground_0 (m + 15) S))
abbrev orderD (day : Int) : DL.D := .tup [.str [111, 114, 100, 101, 114], .int day, .str wPa, .str [97, 105, 100], .tup [.int 2000, .int 1], .int 5]
theorem ge_ran (d0 : 0 ≤ day ∧ day ≤ 100) : GE false day (.tup [.str wRan, .int day, .tup [.int 2000, .int 2], .tup [orderD day]]) :=
  ge_later (n := 4) (by omega) (rv_tup (rv_cons (by decide +kernel) (rv_cons (rv_int (by omega)) (rv_cons (by decide +kernel) (rv_cons (rv_tup (rv_cons (rv_tup (rv_cons (by decide +kernel) (rv_cons (rv_int (by omega)) (by decide +kernel))) rfl) rfl) rfl) rfl)))) rfl) (Nat.le_of_ble_eq_true rfl) (fun S => rfl) (fun S => rfl) rfl (fun S => rfl)
    (fun m S => form_ran (m + 16) (pair_ok (m + 14) 2000 2 S) i_tup_tuple)
theorem ge_paid (d0 : 0 ≤ day ∧ day ≤ 100) (y0 : 0 ≤ y ∧ y ≤ 1000) : GE false day (.tup [.str wPaid, .int day, .str wPa, .int y]) :=
  ge_later (n := 4) (by omega) (rv_tup (rv_cons (by decide +kernel) (rv_cons (rv_int (by omega)) (rv_cons (by decide +kernel) (rv_cons (rv_int (by omega)) rfl)))) rfl) (Nat.le_of_ble_eq_true rfl) (fun S => rfl) (fun S => rfl) rfl (fun S => rfl)
    (fun m S => form_paid (m + 16) i_str_str (integ_i (m + 15) y S))
abbrev newsD : DL.D := .tup [.tup [.str wPa, .str [97, 105, 100], .tup [.tup [.int 0, .int 5, .str [103, 97, 112], .str [121, 101, 115]]]]]
theorem ge_sent (d0 : 0 ≤ day ∧ day ≤ 100) : GE false day (.tup [.str wSent, .int day, .tup [], newsD]) :=
  ge_later (n := 4) (by omega) (rv_tup (rv_cons (by decide +kernel) (rv_cons (rv_int (by omega)) (by decide +kernel))) rfl) (Nat.le_of_ble_eq_true rfl) (fun S => rfl) (fun S => rfl) rfl (fun S => rfl)
    (fun m S => form_sent (m + 16) (ground_0 (m + 15) S) i_tup_tuple)
/-- wrong: their form, the day being one -/
theorem gw_f {w : List Nat} {r : List DL.D} {x : DL.D} {n : Nat} (d0 : 0 ≤ day ∧ day ≤ 100) (hv : rvD 6 (.tup (.str w :: .int day :: r)) = true) (hs : szD (.tup (.str w :: .int day :: r)) ≤ 600) (hi : ∀ S, fInD true (some t_PARTS) (.str w) S = .ok (.bl false) S) (hx : ∀ S, fIxD (some t_PARTS) (.str w) S = .ok (.int n) S) (hn : (DL.D.int day :: r).length + 1 = n) (hf : ∀ S, fIn (.str w) fstT S = .ok (.bl false) S)
    (hh : ∀ (m : Nat) (S : Sto), run tb P (m + 17) 25 [.tup (.str w :: .int day :: r)] S = .ok (.bl false) S) : GW 0 (.tup (.str w :: .int day :: r)) :=
  gw_form hv hs hi hx hn hf (fun m S => day_t (by omega) m S) (fun _ => hh)
theorem gw_made (d0 : 0 ≤ day ∧ day ≤ 100) : GW 0 (.tup [.str wMade, .int day, .tup []]) :=
  gw_f (x := .non) (n := 3) d0 (rv_tup (rv_cons (by decide +kernel) (rv_cons (rv_int (by omega)) (by decide +kernel))) rfl) (Nat.le_of_ble_eq_true rfl) (fun S => rfl) (fun S => rfl) rfl (fun S => rfl)
    (fun m S => form_entry (m + 16) (.inl rfl) (entry_no (m + 15) S))
theorem gw_true (d0 : 0 ≤ day ∧ day ≤ 100) (a0 : 0 ≤ at_ ∧ at_ ≤ 100) : GW 0 (.tup [.str wMade, .bl true, entD day at_ 5]) :=
  gw_form (n := 3) (b1 := false) (rv_tup (rv_cons (by decide +kernel) (rv_cons (by decide +kernel) (rv_cons (rv_ent d0 a0 (by decide)) rfl))) rfl) (Nat.le_of_ble_eq_true rfl) (fun S => rfl) (fun S => rfl) rfl (fun S => rfl)
    (fun m S => day_bl (m + 15) true S) (fun h => by cases h)
theorem gw_late (d0 : 0 ≤ day ∧ day ≤ 100) (a0 : 0 ≤ at_ ∧ at_ ≤ 100) : GW 0 (.tup [.str wMade, .int 20000, entD day at_ 5]) :=
  gw_form (n := 3) (b1 := false) (rv_tup (rv_cons (by decide +kernel) (rv_cons (by decide +kernel) (rv_cons (rv_ent d0 a0 (by decide)) rfl))) rfl) (Nat.le_of_ble_eq_true rfl) (fun S => rfl) (fun S => rfl) rfl (fun S => rfl)
    (fun m S => day_ok (m + 15) 20000 S) (fun h => by cases h)
theorem gw_len {w : List Nat} {r : List DL.D} {n : Nat} (hv : rvD 6 (.tup (.str w :: r)) = true) (hs : szD (.tup (.str w :: r)) ≤ 600) (hi : ∀ S, fInD true (some t_PARTS) (.str w) S = .ok (.bl false) S) (hx : ∀ S, fIxD (some t_PARTS) (.str w) S = .ok (.int n) S) (hn : r.length + 1 ≠ n) : GW 0 (.tup (.str w :: r)) :=
  ⟨hv, hs, .inl fun m S => eo_len (rd hv hs m S) (hi S) (hx S) hn⟩
theorem gw_heard (d0 : 0 ≤ day ∧ day ≤ 100) : GW 0 (.tup [.str wHeard, .int day]) :=
  gw_len (n := 3) (rv_tup (rv_cons (by decide +kernel) (rv_cons (rv_int (by omega)) rfl)) rfl) (Nat.le_of_ble_eq_true rfl) (fun S => rfl) (fun S => rfl) (by simp)
theorem gw_told0 (d0 : 0 ≤ day ∧ day ≤ 100) : GW 0 (.tup [.str wTold, .int day, .int 5, .str [], .tup []]) :=
  gw_f (x := .non) (n := 5) d0 (rv_tup (rv_cons (by decide +kernel) (rv_cons (rv_int (by omega)) (by decide +kernel))) rfl) (Nat.le_of_ble_eq_true rfl) (fun S => rfl) (fun S => rfl) rfl (fun S => rfl)
    (fun m S => form_told0 (m + 16))
theorem gw_told1 (d0 : 0 ≤ day ∧ day ≤ 100) : GW 0 (.tup [.str wTold, .int day, .str [97], .str [98], .tup [.tup [.int 0, .int 1]]]) :=
  gw_f (x := .non) (n := 5) d0 (rv_tup (rv_cons (by decide +kernel) (rv_cons (rv_int (by omega)) (by decide +kernel))) rfl) (Nat.le_of_ble_eq_true rfl) (fun S => rfl) (fun S => rfl) rfl (fun S => rfl)
    (fun m S => form_told (m + 16) (ground_i (m + 14) S))
theorem gw_ran0 (d0 : 0 ≤ day ∧ day ≤ 100) : GW 0 (.tup [.str wRan, .int day, .int 3, .tup []]) :=
  gw_f (x := .non) (n := 4) d0 (rv_tup (rv_cons (by decide +kernel) (rv_cons (rv_int (by omega)) (by decide +kernel))) rfl) (Nat.le_of_ble_eq_true rfl) (fun S => rfl) (fun S => rfl) rfl (fun S => rfl)
    (fun m S => form_ran (m + 16) (pair_i (m + 14) 3 S) i_tup_tuple)
theorem gw_ran1 (d0 : 0 ≤ day ∧ day ≤ 100) : GW 0 (.tup [.str wRan, .int day, .tup [.int 2000, .int 2], .int 5]) :=
  gw_f (x := .non) (n := 4) d0 (rv_tup (rv_cons (by decide +kernel) (rv_cons (rv_int (by omega)) (by decide +kernel))) rfl) (Nat.le_of_ble_eq_true rfl) (fun S => rfl) (fun S => rfl) rfl (fun S => rfl)
    (fun m S => form_ran (m + 16) (pair_ok (m + 14) 2000 2 S) i_int_tuple)
theorem gw_paid0 (d0 : 0 ≤ day ∧ day ≤ 100) : GW 0 (.tup [.str wPaid, .int day, .int 5, .int 7]) :=
  gw_f (x := .non) (n := 4) d0 (rv_tup (rv_cons (by decide +kernel) (rv_cons (rv_int (by omega)) (by decide +kernel))) rfl) (Nat.le_of_ble_eq_true rfl) (fun S => rfl) (fun S => rfl) rfl (fun S => rfl)
    (fun m S => form_paid (m + 16) i_int_str (integ_i (m + 15) 7 S))
theorem gw_paid1 (d0 : 0 ≤ day ∧ day ≤ 100) : GW 0 (.tup [.str wPaid, .int day, .str wPa, .str [55]]) :=
  gw_f (x := .non) (n := 4) d0 (rv_tup (rv_cons (by decide +kernel) (rv_cons (rv_int (by omega)) (by decide +kernel))) rfl) (Nat.le_of_ble_eq_true rfl) (fun S => rfl) (fun S => rfl) rfl (fun S => rfl)
    (fun m S => form_paid (m + 16) i_str_str (integ_s (m + 15) [55] S))
theorem gw_sent (d0 : 0 ≤ day ∧ day ≤ 100) : GW 0 (.tup [.str wSent, .int day, .tup [.tup [.str wOa, .int 0]], .tup []]) :=
  gw_f (x := .non) (n := 4) d0 (rv_tup (rv_cons (by decide +kernel) (rv_cons (rv_int (by omega)) (by decide +kernel))) rfl) (Nat.le_of_ble_eq_true rfl) (fun S => rfl) (fun S => rfl) rfl (fun S => rfl)
    (fun m S => form_sent (m + 16) (ground_1 (m + 14) of_oa (by decide) S) i_tup_tuple)
theorem gw_jump (d0 : 0 ≤ day ∧ day ≤ 100) : GW 0 (.tup [.str [106, 117, 109, 112], .int day]) :=
  have hv : rvD 6 (.tup [.str [106, 117, 109, 112], .int day]) = true := rv_tup (rv_cons (by decide +kernel) (rv_cons (rv_int (by omega)) rfl)) rfl
  have hs : szD (.tup [.str [106, 117, 109, 112], .int day]) ≤ 600 := Nat.le_of_ble_eq_true rfl
  ⟨hv, hs, .inl fun m S => eo_word (rd hv hs m S) rfl⟩
theorem gw_nil : GW 0 (.tup []) :=
  have hv : rvD 6 (.tup []) = true := by decide +kernel
  have hs : szD (.tup []) ≤ 600 := Nat.le_of_ble_eq_true rfl
  ⟨hv, hs, .inl fun m S => eo_nil (rd hv hs m S)⟩
theorem gw_7 : GW 0 (.int 7) :=
  have hv : rvD 6 (.int 7) = true := by decide +kernel
  have hs : szD (.int 7) ≤ 600 := Nat.le_of_ble_eq_true rfl
  ⟨hv, hs, .inl fun m S => eo_int (rd hv hs m S)⟩
theorem gw_off : GW 0 (.tup [.str wOffice, .str wOa, .tup [], .tup [], .tup [], .non, .str [108, 97, 119]]) :=
  have hv : rvD 6 (.tup [.str wOffice, .str wOa, .tup [], .tup [], .tup [], .non, .str [108, 97, 119]]) = true := by decide +kernel
  have hs : szD (.tup [.str wOffice, .str wOa, .tup [], .tup [], .tup [], .non, .str [108, 97, 119]]) ≤ 600 := Nat.le_of_ble_eq_true rfl
  ⟨hv, hs, .inl fun m S => eo_mis (n := 7) (c := true) (rd hv hs m S) rfl rfl rfl rfl rfl⟩
theorem gw_sho : GW 0 (.tup [.str wShort, .int 3]) :=
  have hv : rvD 6 (.tup [.str wShort, .int 3]) = true := by decide +kernel
  have hs : szD (.tup [.str wShort, .int 3]) ≤ 600 := Nat.le_of_ble_eq_true rfl
  ⟨hv, hs, .inl fun m S => eo_mis (n := 2) (c := true) (rd hv hs m S) rfl rfl rfl rfl rfl⟩
/-- an earlier day -/
theorem gw_less (d0 : 0 < day ∧ day ≤ 100) : GW day (.tup [.str wPaid, .int (day - 1), .str wPa, .int 7]) :=
  have h := ge_paid (day := day - 1) (y := 7) (by omega) (by omega)
  ⟨h.rv, h.sz, .inr ⟨h.eo, _, _, _, rfl, by omega⟩⟩
theorem gw_neg : GW 0 (.tup [.str wPaid, .int (-1), .str wPa, .int 7]) :=
  gw_form (n := 4) (b1 := false) (by decide +kernel) (Nat.le_of_ble_eq_true rfl) (fun S => rfl) (fun S => rfl) rfl (fun S => rfl)
    (fun m S => day_ok (m + 15) (-1) S) (fun h => by cases h)
end
end K37
set_option Elab.async false
set_option linter.all false
set_option maxRecDepth 100000
set_option maxHeartbeats 4000000
/-! NJ: the law's entries drawn. -/
namespace K37
open PySem L2 DL
theorem draw7 {v : Int} (h0 : 0 ≤ v) (h1 : v < 7) : v = 0 ∨ v = 1 ∨ v = 2 ∨ v = 3 ∨ v = 4 ∨ v = 5 ∨ v = 6 := by omega
theorem lentry_ok (k : Nat) {S : Sto} {b : Nat} {at_ : Nat} {day : Int} (hB : Bx S b) (hd : 0 ≤ day ∧ day ≤ 100) (ha : at_ ≤ 90) :
    ∃ d S2, Bs S S2 b ∧ run tb P (k + 2) 33 [.ref b, .int at_, .int day] S = .ok d S2 ∧ nr 0 d = true ∧ GE (decide (at_ = 0)) day d := by
  obtain ⟨v1, S1, p1, q1, hb1, r1⟩ := draw_ok k (many := 9) hB (by decide)
  have hB1 := hb1.bx hB
  obtain ⟨v2, S2, p2, q2, hb2, r2⟩ := draw_ok k (many := 7) hB1 (by decide)
  have hB2 := hb2.bx hB1
  have hb12 := hb1.trans hb2
  have start : ∀ {x : Rs}, semSs (match a_law_entry_u with
      | .cons _ (.cons _ (.cons _ r)) => r
      | _ => .nil) { P with fn := run tb P (k + 1) } [some (.ref b), some (.int at_), some (.int day), some (entD day at_ (5 + v1)), some (orderD day), some (.int v2), none] S2 = x → semSs a_law_entry_u { P with fn := run tb P (k + 1) } [some (.ref b), some (.int at_), some (.int day), none, none, none, none] S = x := fun {x} h => by
    refine ss_nx (s_asg (d := entD day at_ (5 + v1)) (S2 := S1) ?_ rfl) (ss_nx (s_asg (d := orderD day) (S2 := S1) ?_ rfl) (ss_nx (s_asg (d := .int v2) (S2 := S2) ?_ rfl) h))
    · simp only [semE, semEs, List.getElem?_cons_zero, List.getElem?_cons_succ, bind_ok, boF, fAdd_int, r1]
    · show semE _ _ [some (.ref b), some (.int at_), some (.int day), some (entD day at_ (5 + v1)), none, none, none] S1 = _
      simp only [semE, semEs, List.getElem?_cons_zero, List.getElem?_cons_succ, bind_ok]
    · show semE _ _ [some (.ref b), some (.int at_), some (.int day), some (entD day at_ (5 + v1)), some (orderD day), none, none] S1 = _
      simp only [semE, semEs, List.getElem?_cons_zero, List.getElem?_cons_succ, bind_ok, r2]
  by_cases h0 : at_ = 0
  · subst h0
    obtain ⟨v3, S3, p3, q3, hb3, r3⟩ := draw_ok k (many := 2) hB2 (by decide)
    have hb := hb12.trans hb3
    have key : ∀ d, nr 0 d = true → atI [DL.D.tup [.str wOffice, .str wOa, .tup [.str [111, 98]], .tup [.str wPa], .tup [.str [97, 105, 100]], .non, .str [108, 97, 119]], .tup [.str wShort, .tup [.int 1, .tup [.str [97], .non]]]] v3 = some d → GE true day d →
        ∃ d S2, Bs S S2 b ∧ run tb P (k + 2) 33 [.ref b, .int ((0 : Nat) : Int), .int day] S = .ok d S2 ∧ nr 0 d = true ∧ GE (decide ((0 : Nat) = 0)) day d := fun d hn hx hg => by
      refine ⟨d, S3, hb, run_of (d := d_33) (x := .ret d S3) rfl rfl (start ?_) (hb.fin hn), hn, hg⟩
      refine ss_ret (s_ifT ?_ (ss_ret (s_ret ?_)))
      · simp only [semB, semE, List.getElem?_cons_zero, List.getElem?_cons_succ, bind_ok, coF, fEq_int, toB_bl] <;> rfl
      · simp only [semE, semEs, List.getElem?_cons_zero, List.getElem?_cons_succ, bind_ok, r3, fIx_lst, hx, okO_some]
    have : v3 = 0 ∨ v3 = 1 := by omega
    rcases this with rfl | rfl
    · exact key _ rfl rfl (ge_off day)
    · exact key _ rfl rfl (ge_sho day)
  · obtain ⟨v3, S3, p3, q3, hb3, r3⟩ := draw_ok k (many := 90) hB2 (by decide)
    have hb := hb12.trans hb3
    have hdec : decide (at_ = 0) = false := by simp [h0]
    have key : ∀ d, nr 0 d = true → atI [DL.D.tup [.str wMade, .int day, entD day at_ (5 + v1)], .tup [.str wHeard, .int day, entD day at_ (5 + v1)], .tup [.str wTold, .int day, .str s1, .str s2, .tup [.tup [.str wOa, .int 3]]], .tup [.str wTold, .int day, .str s3, .str [], .tup []], .tup [.str wRan, .int day, .tup [.int 2000, .int 2], .tup [orderD day]], .tup [.str wPaid, .int day, .str wPa, .int (7 + v3)], .tup [.str wSent, .int day, .tup [], newsD]] v2 = some d → GE false day d →
        ∃ d S2, Bs S S2 b ∧ run tb P (k + 2) 33 [.ref b, .int at_, .int day] S = .ok d S2 ∧ nr 0 d = true ∧ GE (decide (at_ = 0)) day d := fun d hn hx hg => by
      refine ⟨d, S3, hb, run_of (d := d_33) (x := .ret d S3) rfl rfl (start ?_) (hb.fin hn), hn, by rw [hdec]; exact hg⟩
      have e0 : (((at_ : Nat) : Int) == 0) = false := by rw [beq_eq_false_iff_ne]; omega
      refine ss_nx (s_if1 ?_) (ss_nx (s_asg0 (.lst [DL.D.tup [.str wMade, .int day, entD day at_ (5 + v1)], .tup [.str wHeard, .int day, entD day at_ (5 + v1)], .tup [.str wTold, .int day, .str s1, .str s2, .tup [.tup [.str wOa, .int 3]]], .tup [.str wTold, .int day, .str s3, .str [], .tup []]]) ?_ rfl) (ss_ret (s_ret ?_)))
      · simp only [semB, semE, List.getElem?_cons_zero, List.getElem?_cons_succ, bind_ok, coF, fEq_int, toB_bl, e0]
      · simp only [semE, semEs, List.getElem?_cons_zero, List.getElem?_cons_succ, bind_ok]
      · show semE _ _ [some (.ref b), some (.int at_), some (.int day), some (entD day at_ (5 + v1)), some (orderD day), some (.int v2), some (.lst [DL.D.tup [.str wMade, .int day, entD day at_ (5 + v1)], .tup [.str wHeard, .int day, entD day at_ (5 + v1)], .tup [.str wTold, .int day, .str s1, .str s2, .tup [.tup [.str wOa, .int 3]]], .tup [.str wTold, .int day, .str s3, .str [], .tup []]])] S2 = _
        have ha : ∀ (x y : List DL.D), x.length + y.length ≤ 1000000 → fAdd (.lst x) (.lst y) S3 = .ok (.lst (x ++ y)) S3 := fun x y h => fAdd_lst h
        simp only [semE, semEs, List.getElem?_cons_zero, List.getElem?_cons_succ, bind_ok, boF, fAdd_int, r3]
        rw [ha _ _ (Nat.le_of_ble_eq_true rfl)]
        simp only [bind_ok, fIx_lst, List.cons_append, List.nil_append, hx, okO_some]
    rcases draw7 p2 q2 with rfl | rfl | rfl | rfl | rfl | rfl | rfl
    · exact key _ rfl rfl (ge_made (.inl rfl) (by omega) (by omega) (by omega))
    · exact key _ rfl rfl (ge_made (.inr rfl) (by omega) (by omega) (by omega))
    · exact key _ rfl rfl (ge_told (by omega))
    · exact key _ rfl rfl (ge_told2 (by omega))
    · exact key _ rfl rfl (ge_ran (by omega))
    · exact key _ rfl rfl (ge_paid (by omega) (by omega))
    · exact key _ rfl rfl (ge_sent (by omega))
def wrongs (day at_ : Int) : List DL.D := [.tup [.str wMade, .int day, .tup []], .tup [.str wMade, .bl true, entD day at_ 5], .tup [.str wMade, .int 20000, entD day at_ 5], .tup [.str wHeard, .int day], .tup [.str wTold, .int day, .int 5, .str [], .tup []], .tup [.str wTold, .int day, .str [97], .str [98], .tup [.tup [.int 0, .int 1]]],
  .tup [.str wRan, .int day, .int 3, .tup []], .tup [.str wRan, .int day, .tup [.int 2000, .int 2], .int 5], .tup [.str wPaid, .int day, .int 5, .int 7], .tup [.str wPaid, .int day, .str wPa, .str [55]], .tup [.str wSent, .int day, .tup [.tup [.str wOa, .int 0]], .tup []], .tup [.str [106, 117, 109, 112], .int day], .tup [], .int 7,
  .tup [.str wOffice, .str wOa, .tup [], .tup [], .tup [], .non, .str [108, 97, 119]], .tup [.str wShort, .int 3]]
theorem wrongs_gw {day at_ : Int} (d0 : 0 ≤ day ∧ day ≤ 100) (a0 : 0 ≤ at_ ∧ at_ ≤ 100) {d : DL.D} (h : d ∈ wrongs day at_) : GW 0 d := by
  unfold wrongs at h
  simp only [List.mem_cons, List.not_mem_nil, or_false] at h
  rcases h with rfl | rfl | rfl | rfl | rfl | rfl | rfl | rfl | rfl | rfl | rfl | rfl | rfl | rfl | rfl | rfl
  · exact gw_made d0
  · exact gw_true d0 a0
  · exact gw_late d0 a0
  · exact gw_heard d0
  · exact gw_told0 d0
  · exact gw_told1 d0
  · exact gw_ran0 d0
  · exact gw_ran1 d0
  · exact gw_paid0 d0
  · exact gw_paid1 d0
  · exact gw_sent d0
  · exact gw_jump d0
  · exact gw_nil
  · exact gw_7
  · exact gw_off
  · exact gw_sho
theorem lwrong_ok (k : Nat) {S : Sto} {b : Nat} {at_ : Nat} {day : Int} (hB : Bx S b) (hd : 0 ≤ day ∧ day ≤ 100) (ha : at_ ≤ 90) :
    ∃ d S2, Bs S S2 b ∧ run tb P (k + 3) 34 [.ref b, .int at_, .int day] S = .ok d S2 ∧ nr 0 d = true ∧ GW 0 d := by
  have hn : nrs 0 (wrongs day at_) = true := rfl
  obtain ⟨x, S2, hx, hb, hr⟩ := pick_ok k (ds := wrongs day at_) hB (Nat.le_of_ble_eq_true rfl) hn
  have hnx := nrs_all.mp hn x hx
  refine ⟨x, S2, hb, run_of (d := d_34) (x := .ret x S2) rfl rfl ?_ (hb.fin hnx), hnx, wrongs_gw hd (by omega) hx⟩
  have ha : ∀ (x y : List DL.D), x.length + y.length ≤ 1000000 → fAdd (.lst x) (.lst y) S = .ok (.lst (x ++ y)) S := fun x y h => fAdd_lst h
  refine ss_nx (s_asg0 (entD day at_ 5) ?_ rfl) (ss_nx (s_asg0 (.lst ((wrongs day at_).take 6)) ?_ rfl) (ss_nx (s_asg0 (.lst ((wrongs day at_).take 8)) ?_ rfl) (ss_nx (s_asg0 (.lst (wrongs day at_)) ?_ rfl) (ss_ret (s_ret ?_)))))
  · show semE _ _ [some (.ref b), some (.int at_), some (.int day), none, none] S = _
    simp only [semE, semEs, List.getElem?_cons_zero, List.getElem?_cons_succ, bind_ok, boF, fAdd_int]
  · show semE _ _ [some (.ref b), some (.int at_), some (.int day), some (entD day at_ 5), none] S = _
    simp only [semE, semEs, List.getElem?_cons_zero, List.getElem?_cons_succ, bind_ok]
    rfl
  · show semE _ _ [some (.ref b), some (.int at_), some (.int day), some (entD day at_ 5), some (.lst ((wrongs day at_).take 6))] S = _
    simp only [semE, semEs, List.getElem?_cons_zero, List.getElem?_cons_succ, bind_ok, boF]
    rw [ha _ _ (Nat.le_of_ble_eq_true rfl)]
    rfl
  · show semE _ _ [some (.ref b), some (.int at_), some (.int day), some (entD day at_ 5), some (.lst ((wrongs day at_).take 8))] S = _
    simp only [semE, semEs, List.getElem?_cons_zero, List.getElem?_cons_succ, bind_ok, boF]
    rw [ha _ _ (Nat.le_of_ble_eq_true rfl)]
    rfl
  · show semE _ _ [some (.ref b), some (.int at_), some (.int day), some (entD day at_ 5), some (.lst (wrongs day at_))] S = _
    simp only [semE, semEs, List.getElem?_cons_zero, List.getElem?_cons_succ, bind_ok, hr]
end K37
set_option Elab.async false
set_option linter.all false
set_option maxRecDepth 100000
set_option maxHeartbeats 4000000
/-! NK: a text split at its first two blanks. -/
namespace K37
open PySem L2 DL
/-- the text ahead of the first c and the text behind it -/
def cutC (c : Nat) : List Nat → Option (List Nat × List Nat)
  | [] => none
  | d :: r => if d = c then some ([], r) else (cutC c r).map fun p => (d :: p.1, p.2)
theorem cutC_app {c : Nat} {r : List Nat} : ∀ {a : List Nat}, c ∉ a → cutC c (a ++ c :: r) = some (a, r)
  | [], _ => by simp [cutC]
  | d :: a, h => by
    simp only [List.mem_cons, not_or] at h
    rw [List.cons_append, cutC, if_neg (Ne.symm h.1), cutC_app h.2]
    rfl
theorem cutC_none {c : Nat} : ∀ {a : List Nat}, c ∉ a → cutC c a = none
  | [], _ => rfl
  | d :: a, h => by
    simp only [List.mem_cons, not_or] at h
    rw [cutC, if_neg (Ne.symm h.1), cutC_none h.2]
    rfl
theorem cutC_some {c : Nat} : ∀ {t a r : List Nat}, cutC c t = some (a, r) → t = a ++ c :: r ∧ c ∉ a
  | [], _, _, h => by cases h
  | d :: t, a, r, h => by
    rw [cutC] at h
    split at h
    · rename_i e
      cases h
      exact ⟨by rw [e]; rfl, by simp⟩
    · rename_i e
      obtain ⟨⟨a2, r2⟩, h1, h2⟩ := Option.map_eq_some_iff.mp h
      cases h2
      obtain ⟨h3, h4⟩ := cutC_some h1
      exact ⟨by rw [h3]; rfl, by simp [h4, Ne.symm e]⟩
theorem cutC_no {c : Nat} : ∀ {t : List Nat}, cutC c t = none → c ∉ t
  | [], _ => by simp
  | d :: t, h => by
    rw [cutC] at h
    split at h
    · cases h
    · rename_i e
      simp [Ne.symm e, cutC_no (Option.map_eq_none_iff.mp h)]
/-- x.split(" ", 2) -/
def sp2 (t : List Nat) : List (List Nat) := match cutC 32 t with
  | none => [t]
  | some (a, r) => match cutC 32 r with
    | none => [a, r]
    | some (b, r2) => [a, b, r2]
theorem sp2_1 {t : List Nat} (h : 32 ∉ t) : sp2 t = [t] := by rw [sp2, cutC_none h]
theorem sp2_2 {a r : List Nat} (h : 32 ∉ a) (h2 : 32 ∉ r) : sp2 (a ++ 32 :: r) = [a, r] := by
  rw [sp2, cutC_app h]
  dsimp only
  rw [cutC_none h2]
theorem sp2_3 {a b r : List Nat} (h : 32 ∉ a) (h2 : 32 ∉ b) : sp2 (a ++ 32 :: (b ++ 32 :: r)) = [a, b, r] := by
  rw [sp2, cutC_app h]
  dsimp only
  rw [cutC_app h2]
/-- the places of c -/
def posC (c : Nat) : Nat → List Nat → List Nat
  | _, [] => []
  | k, d :: r => if d = c then k :: posC c (k + 1) r else posC c (k + 1) r
theorem posC_no {c : Nat} : ∀ {a : List Nat} {k : Nat}, c ∉ a → posC c k a = []
  | [], _, _ => rfl
  | d :: a, k, h => by
    simp only [List.mem_cons, not_or] at h
    rw [posC, if_neg (Ne.symm h.1), posC_no h.2]
theorem posC_app {c : Nat} {r : List Nat} : ∀ {a : List Nat} {k : Nat}, c ∉ a → posC c k (a ++ c :: r) = (k + a.length) :: posC c (k + a.length + 1) r
  | [], k, _ => by simp [posC]
  | d :: a, k, h => by
    simp only [List.mem_cons, not_or] at h
    rw [List.cons_append, posC, if_neg (Ne.symm h.1), posC_app h.2, List.length_cons]
    rw [show k + 1 + a.length = k + (a.length + 1) by omega]
open PySem.StrLaws PySem.Builtin PySem.Builtin.Str in
theorem occ_loop (t : List Nat) (c lim : Nat) : ∀ (post pre : List Nat) (st : Array Nat × Nat), t = pre ++ post → st.2 ≤ pre.length →
    (forIn (List.range' pre.length (post.length + 1)) st (occBody (strO t) (strO [c]) t.length lim)).run.fst.toList = st.1.toList ++ (posC c pre.length post).take (lim - st.1.size)
  | [], pre, st, e, hf => by
    subst e
    simp only [List.length_nil, Nat.zero_add, List.range'_one, List.append_nil]
    rw [List.forIn_cons]
    unfold occBody
    rw [if_neg]
    · simp [posC]
    · rintro ⟨⟨_, h⟩, _⟩
      have : (strO [c]).length = 1 := rfl
      omega
  | d :: post, pre, st, e, hf => by
    have hr : List.range' pre.length ((d :: post).length + 1) = pre.length :: List.range' (pre ++ [d]).length (post.length + 1) := by
      rw [List.length_cons, List.range'_succ]
      simp
    have e2 : t = (pre ++ [d]) ++ post := by rw [e]; simp
    have hA : At (strO t) (strO [c]) t.length pre.length ↔ d = c := by
      rw [at_one, e]
      simp
    rw [hr, List.forIn_cons]
    unfold occBody
    have hl1 : (strO [c]).length = 1 := rfl
    by_cases hd : d = c
    · have hA2 := hA.mpr hd
      by_cases hs : st.1.size < lim
      · rw [if_pos ⟨⟨⟨hs, hf⟩, hA2.1⟩, hA2.2⟩]
        have ih := occ_loop t c lim post (pre ++ [d]) (st.1.push pre.length, pre.length + (strO [c]).length) e2 (by simp [hl1])
        unfold occBody at ih
        simp only [pure_bind] at ih ⊢
        refine ih.trans ?_
        rw [posC, if_pos hd]
        simp only [Array.toList_push, Array.size_push, List.append_assoc, List.length_append, List.length_singleton]
        rw [show lim - st.1.size = (lim - (st.1.size + 1)) + 1 by omega, List.take_succ_cons]
        rfl
      · rw [if_neg (fun h => hs h.1.1.1)]
        have ih := occ_loop t c lim post (pre ++ [d]) st e2 (by simp; omega)
        unfold occBody at ih
        simp only [pure_bind] at ih ⊢
        refine ih.trans ?_
        rw [show lim - st.1.size = 0 by omega]
        simp
    · rw [if_neg (fun h => hd (hA.mp ⟨h.1.2, h.2⟩))]
      have ih := occ_loop t c lim post (pre ++ [d]) st e2 (by simp; omega)
      unfold occBody at ih
      simp only [pure_bind] at ih ⊢
      refine ih.trans ?_
      rw [posC, if_neg hd]
      simp
open PySem.StrLaws PySem.Builtin PySem.Builtin.Str in
theorem occ_pos (t : List Nat) (c lim : Nat) : occurrences (strO t) (strO [c]) 0 t.length lim = (posC c 0 t).take lim := by
  rw [occ_eq]
  have := occ_loop t c lim t [] (#[], 0) rfl (Nat.le_refl 0)
  simpa using this
open PySem.StrLaws PySem.Builtin PySem.Builtin.Str in
theorem splitMax_sp (t : List Nat) : (Txt.splitMax (strO t) (strO [32]) 2).map TL.tl = sp2 t := by
  have hl : (strO t).length = t.length := st_len t
  have hw : (strO [32]).length = 1 := rfl
  have ht : TL.tl (strO t) = t := by simp [TL.tl, strO]
  have hk : ¬ strKind (strO t) < strKind (strO [32]) := TL.kind_ok (by simp [strO])
  have hlim : limitOf (strO t) 2 = 2 := rfl
  unfold Txt.splitMax
  by_cases h1 : (decide ((strO t).length < (strO [32]).length) || decide (strKind (strO t) < strKind (strO [32]))) = true
  · rw [if_pos h1]
    simp only [Bool.or_eq_true, decide_eq_true_eq, hl, hw] at h1
    rcases h1 with h1 | h1
    · have : t = [] := List.length_eq_zero_iff.mp (by omega)
      subst this
      simp [sp2, cutC, TL.tl, strO]
    · exact absurd h1 hk
  · rw [if_neg h1, hlim, hl, occ_pos]
    cases hc : cutC 32 t with
    | none =>
      have hn := cutC_no hc
      rw [posC_no hn]
      simp [sp2_1 hn, ht]
    | some p =>
      obtain ⟨a, r⟩ := p
      obtain ⟨e, ha⟩ := cutC_some hc
      have hp : posC 32 0 t = a.length :: posC 32 (a.length + 1) r := by
        rw [e, posC_app ha]
        simp
      cases hc2 : cutC 32 r with
      | none =>
        have hn := cutC_no hc2
        rw [hp, posC_no hn]
        rw [if_neg (by simp), partsBetween_eq]
        simp only [List.take_succ_cons, List.take_nil, partsFrom, List.map_cons, List.map_nil, TL.tl_strSub, TL.tl_strSub_end, ht, hw]
        rw [e, sp2_2 ha hn]
        simp
        rw [show (strO (a ++ 32 :: r)).length = (a ++ 32 :: r).length from st_len _]
        exact List.take_of_length_le (by simp; omega)
      | some p2 =>
        obtain ⟨b, r2⟩ := p2
        obtain ⟨e2, hb⟩ := cutC_some hc2
        rw [hp, e2, posC_app hb]
        rw [if_neg (by simp), partsBetween_eq]
        simp only [List.take_succ_cons, List.take_zero, partsFrom, List.map_cons, List.map_nil, TL.tl_strSub, TL.tl_strSub_end, ht, hw]
        rw [e, e2, sp2_3 ha hb]
        have h3 : a ++ 32 :: (b ++ 32 :: r2) = (a ++ [32] ++ b ++ [32]) ++ r2 := by simp
        have d1 : List.drop (a.length + 1) (a ++ 32 :: (b ++ 32 :: r2)) = b ++ 32 :: r2 := by
          rw [show a ++ 32 :: (b ++ 32 :: r2) = (a ++ [32]) ++ (b ++ 32 :: r2) by simp]
          rw [List.drop_left' (by simp)]
        have d2 : List.drop (a.length + 1 + b.length + 1) (a ++ 32 :: (b ++ 32 :: r2)) = r2 := by
          rw [h3, List.drop_left' (by simp; omega)]
        rw [d1, d2, show a.length + 1 + b.length - (a.length + 1) = b.length by omega]
        simp
        rw [show (strO (a ++ 32 :: (b ++ 32 :: r2))).length = (a ++ 32 :: (b ++ 32 :: r2)).length from st_len _]
        exact List.take_of_length_le (by simp; omega)
theorem splitMax_ok {t : List Nat} (hl : t.length ≤ 1000000) {S : Sto} : fSplitMax (.str t) [.str [32], .int 2] S = .ok (.lst ((sp2 t).map .str)) S := by
  unfold fSplitMax
  dsimp only
  rw [if_pos ⟨by simp, hl, by decide, by decide⟩]
  rw [← splitMax_sp t, List.map_map]
  rfl
end K37
set_option Elab.async false
set_option linter.all false
set_option maxRecDepth 100000
set_option maxHeartbeats 4000000
/-! NL: texts split at a sign; the law's lines. -/
namespace K37
open PySem L2 DL
/-- x.split(c) -/
def splC (c : Nat) : List Nat → List (List Nat)
  | [] => [[]]
  | d :: r => if d = c then [] :: splC c r else match splC c r with
    | [] => [[d]]
    | p :: ps => (d :: p) :: ps
theorem splC_ne (c : Nat) : ∀ x, splC c x ≠ []
  | [] => by simp [splC]
  | d :: r => by
    rw [splC]
    split
    · simp
    · split <;> simp
theorem splC_hd (c : Nat) (x : List Nat) : ∃ p ps, splC c x = p :: ps := List.exists_cons_of_ne_nil (splC_ne c x)
theorem splC_spl (c : Nat) : ∀ (x acc : List Nat), TL.spl [c] 0 acc x = (match splC c x with
    | [] => [acc]
    | p :: ps => (acc ++ p) :: ps)
  | [], acc => by simp [TL.spl_nil, splC]
  | d :: r, acc => by
    rw [splC]
    by_cases h : d = c
    · subst h
      rw [if_pos rfl, TL.spl_hit (show TL.pre [d] (d :: r) = true from TL.pre_self [d] r)]
      have := splC_spl d r []
      simp only [List.length_singleton, Nat.sub_self, List.append_nil]
      rw [this]
      obtain ⟨p, ps, e⟩ := splC_hd d r
      rw [e]
      simp
    · rw [if_neg h, TL.spl_miss (TL.pre_of_head [] r h), splC_spl c r]
      obtain ⟨p, ps, e⟩ := splC_hd c r
      rw [e]
      simp
theorem splC_txt {c : Nat} (hc : c < 256) (x : List Nat) : (Txt.split (strO x) (strO [c])).map strL = (splC c x).map DL.D.str := by
  have e := TL.split_spl (strO x) (strO [c]) (by simp [TL.tl, strO]) (TL.kind_ok (by simp [strO, hc]))
  have e2 : (Txt.split (strO x) (strO [c])).map TL.tl = splC c x := by
    rw [e]
    have := splC_spl c x []
    obtain ⟨p, ps, q⟩ := splC_hd c x
    rw [q] at this ⊢
    simpa [TL.tl, strO] using this
  rw [← e2, List.map_map]
  rfl
theorem splC_mem {c : Nat} : ∀ {x p : List Nat}, p ∈ splC c x → (∀ d ∈ p, d ∈ x) ∧ p.length ≤ x.length ∧ c ∉ p
  | [], p, h => by
    simp [splC] at h
    subst h
    simp
  | d :: r, p, h => by
    rw [splC] at h
    obtain ⟨q, qs, e⟩ := splC_hd c r
    by_cases hd : d = c
    · rw [if_pos hd] at h
      rcases List.mem_cons.mp h with rfl | h
      · simp
      · obtain ⟨h1, h2, h3⟩ := splC_mem h
        exact ⟨fun y hy => List.mem_cons_of_mem _ (h1 y hy), by simp; omega, h3⟩
    · rw [if_neg hd, e] at h
      rcases List.mem_cons.mp h with rfl | h
      · obtain ⟨h1, h2, h3⟩ := splC_mem (c := c) (x := r) (p := q) (by rw [e]; simp)
        refine ⟨fun y hy => ?_, by simp; omega, by simp [h3, Ne.symm hd]⟩
        rcases List.mem_cons.mp hy with rfl | hy
        · simp
        · exact List.mem_cons_of_mem _ (h1 y hy)
      · obtain ⟨h1, h2, h3⟩ := splC_mem (c := c) (x := r) (p := p) (by rw [e]; simp [h])
        exact ⟨fun y hy => List.mem_cons_of_mem _ (h1 y hy), by simp; omega, h3⟩
theorem splC_len {c : Nat} : ∀ {x : List Nat}, (splC c x).length ≤ x.length + 1
  | [] => by simp [splC]
  | d :: r => by
    rw [splC]
    have := splC_len (c := c) (x := r)
    obtain ⟨q, qs, e⟩ := splC_hd c r
    split
    · simp; omega
    · rw [e] at this ⊢
      simp at this ⊢
      omega
theorem splC_app {c : Nat} {r : List Nat} : ∀ {p : List Nat}, c ∉ p → splC c (p ++ c :: r) = p :: splC c r
  | [], _ => by simp [splC]
  | d :: p, h => by
    simp at h
    rw [List.cons_append, splC, if_neg (Ne.symm h.1), splC_app h.2]
theorem splC_last {c : Nat} : ∀ {p : List Nat}, c ∉ p → splC c p = [p]
  | [], _ => by simp [splC]
  | d :: p, h => by
    simp at h
    rw [splC, if_neg (Ne.symm h.1), splC_last h.2]
theorem fSplit_ok {c : Nat} (hc : c < 256) {x : List Nat} (hl : x.length ≤ 1000000) {S : Sto} : fSplit (.str x) [.str [c]] S = .ok (.lst ((splC c x).map .str)) S := by
  unfold fSplit
  rw [← splC_txt hc]
  simp [hl]
/-! ### lists of texts, joined with line feeds -/
def joinN (ls : List (List Nat)) : List Nat := ls.flatMap fun l => l ++ [10]
theorem joinN_app (a b : List (List Nat)) : joinN (a ++ b) = joinN a ++ joinN b := by simp [joinN]
theorem joinN_cons (l : List Nat) (ls : List (List Nat)) : joinN (l :: ls) = l ++ 10 :: joinN ls := by simp [joinN]
theorem split_joinR : ∀ {ls : List (List Nat)} {r : List Nat}, (∀ l ∈ ls, 10 ∉ l) → splC 10 (joinN ls ++ r) = ls ++ splC 10 r
  | [], _, _ => by simp [joinN]
  | l :: ls, r, h => by
    have h1 := h l (by simp)
    have ih := split_joinR (ls := ls) (r := r) fun x hx => h x (List.mem_cons_of_mem _ hx)
    rw [joinN_cons, List.append_assoc, List.cons_append, splC_app h1, ih]
    rfl
theorem joinN_len {c : Nat} : ∀ {ls : List (List Nat)}, (∀ l ∈ ls, l.length ≤ c) → (joinN ls).length ≤ (c + 1) * ls.length
  | [], _ => by simp [joinN]
  | l :: ls, h => by
    have h1 := h l (by simp)
    have ih := joinN_len (c := c) (ls := ls) fun x hx => h x (List.mem_cons_of_mem _ hx)
    rw [joinN_cons, List.length_append, List.length_cons, List.length_cons, Nat.mul_add]
    omega
/-! ### the lines of a journal -/
def eAt (es : List DL.D) (i : Nat) : DL.D := es.getD i .non
def sumAt (es : List DL.D) : Nat → Int
  | 0 => 0
  | i + 1 => lsum i (sumAt es i) (showD (eAt es i))
def lineS (n : Nat) (s : Int) (t : List Nat) : List Nat := digS n ++ 32 :: (digS s ++ 32 :: t)
def lineAt (es : List DL.D) (i : Nat) : List Nat := lineS i (sumAt es (i + 1)) (showD (eAt es i))
def linesOf (es : List DL.D) : List (List Nat) := (List.range es.length).map (lineAt es)
theorem linesOf_len (es : List DL.D) : (linesOf es).length = es.length := by simp [linesOf]
theorem linesOf_get {es : List DL.D} {i : Nat} (h : i < es.length) : (linesOf es)[i]? = some (lineAt es i) := by
  simp [linesOf, h]
theorem sum_lo (es : List DL.D) (i : Nat) : 0 ≤ sumAt es i ∧ sumAt es i < 99991 := by
  cases i with
  | zero => simp [sumAt]
  | succ i =>
    rw [sumAt, lsum]
    omega
theorem lsum_lo (n b : Int) (t : List Nat) : 0 ≤ lsum n b t ∧ lsum n b t < 99991 := by
  rw [lsum]
  omega
theorem eAt_app {es fs : List DL.D} {i : Nat} (h : i < es.length) : eAt (es ++ fs) i = eAt es i := by
  simp [eAt, List.getElem?_append_left h]
theorem sumAt_app {es fs : List DL.D} : ∀ {i : Nat}, i ≤ es.length → sumAt (es ++ fs) i = sumAt es i
  | 0, _ => rfl
  | i + 1, h => by
    rw [sumAt, sumAt, sumAt_app (by omega), eAt_app (by omega)]
theorem lineAt_app {es fs : List DL.D} {i : Nat} (h : i < es.length) : lineAt (es ++ fs) i = lineAt es i := by
  rw [lineAt, lineAt, sumAt_app (by omega), eAt_app h]
theorem linesOf_snoc (es : List DL.D) (d : DL.D) : linesOf (es ++ [d]) = linesOf es ++ [lineAt (es ++ [d]) es.length] := by
  unfold linesOf
  rw [List.length_append, List.length_singleton, List.range_succ, List.map_append]
  congr 1
  refine List.map_congr_left fun i hi => ?_
  exact lineAt_app (List.mem_range.mp hi)
/-! ### what stands in the store or alone -/
def Sq (S : Sto) (q : DL.D) (ds : List DL.D) : Prop := q = .lst ds ∨ ∃ b, q = .ref b ∧ S[b]? = some (.lst ds)
theorem Sq.len {S T : Sto} {q : DL.D} {ds : List DL.D} (h : Sq S q ds) : fLen [q] (S ++ T) = .ok (.int ds.length) (S ++ T) := by
  rcases h with rfl | ⟨b, rfl, h⟩
  · rfl
  · have : (S ++ T)[b]? = some (.lst ds) := by
      rw [List.getElem?_append_left (List.getElem?_eq_some_iff.mp h).1]
      exact h
    rw [fLen_ref, this]
theorem Sq.ix {S T : Sto} {q : DL.D} {ds : List DL.D} (h : Sq S q ds) {i : Nat} (hi : i < ds.length) : fIx q (.int (i : Nat)) (S ++ T) = .ok (eAt ds i) (S ++ T) := by
  have e : okO (atI ds (i : Int)) (S ++ T) = .ok (eAt ds i) (S ++ T) := by
    rw [at_nat, eAt, List.getD_eq_getElem?_getD, List.getElem?_eq_getElem hi]
    rfl
  rcases h with rfl | ⟨b, rfl, h⟩
  · rw [fIx_lst, e]
  · have : (S ++ T)[b]? = some (.lst ds) := by
      rw [List.getElem?_append_left (List.getElem?_eq_some_iff.mp h).1]
      exact h
    rw [fIx_ref, this]
    exact e
mutual
theorem pv_up : ∀ (n : Nat) (d : DL.D) (m : Nat), pvD n d = true → pvD (n + m) d = true
  | n, .non, m, _ => by cases h : n + m <;> rfl
  | n, .bl _, m, _ => by cases h : n + m <;> rfl
  | n, .int i, m, h => by
    have h : decide (i.natAbs ≤ 1000000000000) = true := by cases n <;> exact h
    cases q : n + m <;> exact h
  | n, .str s, m, h => by
    have h : (s.all okc && decide (s.length ≤ 200)) = true := by cases n <;> exact h
    cases q : n + m <;> exact h
  | n + 1, .tup ds, m, h => by
    rw [show n + 1 + m = (n + m) + 1 by omega]
    simp only [pvD, Bool.and_eq_true] at h ⊢
    exact ⟨pvs_up n ds m h.1, h.2⟩
  | 0, .tup ds, m, h => by simp [pvD] at h
  | 0, .lst _, m, h => by simp [pvD] at h
  | n + 1, .lst _, m, h => by simp [pvD] at h
  | 0, .ref _, m, h => by simp [pvD] at h
  | n + 1, .ref _, m, h => by simp [pvD] at h
  | 0, .fn _, m, h => by simp [pvD] at h
  | n + 1, .fn _, m, h => by simp [pvD] at h
  | 0, .scr _, m, h => by simp [pvD] at h
  | n + 1, .scr _, m, h => by simp [pvD] at h
  | 0, .exn _ _ _ _, m, h => by simp [pvD] at h
  | n + 1, .exn _ _ _ _, m, h => by simp [pvD] at h
theorem pvs_up : ∀ (n : Nat) (ds : List DL.D) (m : Nat), pvs n ds = true → pvs (n + m) ds = true
  | n, [], m, _ => by cases h : n + m <;> rfl
  | n, d :: ds, m, h => by
    simp only [pvs, Bool.and_eq_true] at h ⊢
    exact ⟨pv_up n d m h.1, pvs_up n ds m h.2⟩
end
/-- entries that can be told -/
structure Vd (d : DL.D) : Prop where
  rv : rvD 6 d = true
  sz : szD d ≤ 600
theorem Vd.len {d : DL.D} (h : Vd d) : (showD d).length ≤ 600 := Nat.le_trans (show_f 6 d h.rv).1 h.sz
theorem Vd.show_ {d : DL.D} (h : Vd d) (k : Nat) (S : Sto) : run tb P (k + 7) 11 [d] S = .ok (.str (showD d)) S := by
  have := show_ok S (6 + k) d (pv_up 6 d k (rv_pv 6 d h.rv)) (by have := h.len; omega)
  rw [show k + 7 = 6 + k + 1 by omega]
  exact this
theorem num_l {i : Int} (h : 0 ≤ i) (h1 : i.natAbs ≤ 1000000000000) : (digS i).length ≤ 20 := (num_f h h1).len
theorem line_len {n : Nat} {s : Int} {t : List Nat} (hn : n ≤ 1000) (h0 : 0 ≤ s) (h1 : s < 99991) (ht : t.length ≤ 700) : (lineS n s t).length ≤ 742 := by
  have := num_l (i := (n : Int)) (by omega) (by omega)
  have := num_l h0 (by omega)
  simp [lineS]
  omega
theorem nrs_strs {n : Nat} (l : List (List Nat)) : nrs n (l.map DL.D.str) = true := by
  rw [nrs_all]
  intro d hd
  obtain ⟨i, _, rfl⟩ := List.mem_map.mp hd
  rfl
def llbody : Sms := match a_law_lines_u with
  | .cons _ (.cons _ (.cons (.forr _ _ b) _)) => b
  | _ => .nil
theorem lawlines_ok (k : Nat) {S : Sto} {q : DL.D} {es : List DL.D} (hq : Sq S q es) (hv : ∀ d ∈ es, Vd d) (hl : es.length ≤ 100) : run tb P (k + 8) 36 [q] S = .ok (.lst ((linesOf es).map .str)) S := by
  have hn : es.length < 4611686018427387904 := by omega
  have key := forG_inv (gd := none) (t := .name 3) (its := rangeD 0 es.length) (r := [some q, some (.ref S.length), some (.int 0), none, none]) (S := S ++ [.lst []])
    (b := semSs llbody { P with fn := run tb P (k + 7) })
    (fun i rr SS => ∃ x3 x4, rr = [some q, some (.ref S.length), some (.int (sumAt es i)), x3, x4] ∧ SS = S ++ [.lst (((List.range i).map (lineAt es)).map .str)])
    ⟨none, none, rfl, rfl⟩ (fun _ _ _ _ _ => trivial) ?_
  · obtain ⟨r3, S3, e, x3, x4, rfl, rfl⟩ := key
    rw [rangeD_length] at e
    refine run_of (d := d_36) (x := .ret (.ref S.length) (S ++ [.lst ((linesOf es).map .str)])) rfl rfl ?_ (fin_retT (thaw_new (nrs_strs _)))
    refine ss_nx (s_asg (d := .ref S.length) (S2 := S ++ [.lst []]) (by simp [semE, semEs]) rfl) ?_
    refine ss_nx (s_asg0 (.int 0) (by simp [semE]) rfl) ?_
    have hI : semI { P with fn := run tb P (k + 7) } (.range1 (.blt .len (.cons (.var 0) .nil))) [some q, some (.ref S.length), some (.int 0), none, none] (S ++ [.lst []]) = .ok (rangeD 0 es.length, none) (S ++ [.lst []]) := by
      simp only [semI, semE, semEs, List.getElem?_cons_zero, bind_ok, biF, hq.len]
      rw [if_pos (by omega)]
      simp
    show semSs _ _ [some q, some (.ref S.length), some (.int 0), none, none] (S ++ [.lst []]) = _
    exact ss_nx (s_for hI e) (ss_ret (s_ret0 (by simp only [semE, List.getElem?_cons_zero, List.getElem?_cons_succ])))
  · rintro i rr SS d hd ⟨x3, x4, rfl, rfl⟩
    obtain ⟨hi, rfl⟩ := range_item hd
    have hm : eAt es i ∈ es := by
      rw [eAt, List.getD_eq_getElem?_getD, List.getElem?_eq_getElem hi]
      exact List.getElem_mem hi
    have V := hv _ hm
    have hs := V.show_ k (S ++ [.lst (((List.range i).map (lineAt es)).map .str)])
    have hu := lawsum_ok (k + 6) (text := showD (eAt es i)) (by have := V.len; omega) (i : Nat) (sumAt es i) (S := S ++ [.lst (((List.range i).map (lineAt es)).map .str)])
    have hx := hq.ix (T := [.lst (((List.range i).map (lineAt es)).map .str)]) hi
    have hb := sum_lo es (i + 1)
    refine ⟨_, rfl, _, S ++ [.lst (((List.range (i + 1)).map (lineAt es)).map .str)], .inl (ss_nx (s_asg0 (.str (showD (eAt es i))) ?_ rfl) (ss_nx (s_asg0 (.int (sumAt es (i + 1))) ?_ rfl) (ss_nx (s_expr (d := .non) ?_) ss0))), some (.int (i : Nat)), some (.str (showD (eAt es i))), rfl, rfl⟩
    · show semE _ _ [some q, some (.ref S.length), some (.int (sumAt es i)), some (.int (i : Nat)), x4] _ = _
      simp only [semE, semEs, List.getElem?_cons_zero, List.getElem?_cons_succ, bind_ok, hx, hs]
    · show semE _ _ [some q, some (.ref S.length), some (.int (sumAt es i)), some (.int (i : Nat)), some (.str (showD (eAt es i)))] _ = _
      simp only [semE, semEs, List.getElem?_cons_zero, List.getElem?_cons_succ, bind_ok, hu, sumAt]
    · show semE _ _ [some q, some (.ref S.length), some (.int (sumAt es (i + 1))), some (.int (i : Nat)), some (.str (showD (eAt es i)))] _ = _
      have f1 : ∀ S, fStr [.int ((i : Nat) : Int)] S = .ok (.str (digS (i : Nat))) S := fun S => fStr_i (by omega)
      have f2 : ∀ S, fStr [.int (sumAt es (i + 1))] S = .ok (.str (digS (sumAt es (i + 1)))) S := fun S => fStr_i (by omega)
      have l1 := num_l (i := ((i : Nat) : Int)) (by omega) (by omega)
      have l2 := num_l hb.1 (by omega)
      have l3 := V.len
      have a1 : ∀ S, fAdd (.str (digS (i : Nat))) (.str [32]) S = .ok (.str (digS (i : Nat) ++ [32])) S := fun S => fAdd_str (by simp; omega)
      have a2 : ∀ S, fAdd (.str (digS (i : Nat) ++ [32])) (.str (digS (sumAt es (i + 1)))) S = .ok (.str (digS (i : Nat) ++ [32] ++ digS (sumAt es (i + 1)))) S := fun S => fAdd_str (by simp; omega)
      have a3 : ∀ S, fAdd (.str (digS (i : Nat) ++ [32] ++ digS (sumAt es (i + 1)))) (.str [32]) S = .ok (.str (digS (i : Nat) ++ [32] ++ digS (sumAt es (i + 1)) ++ [32])) S := fun S => fAdd_str (by simp; omega)
      have a4 : ∀ S, fAdd (.str (digS (i : Nat) ++ [32] ++ digS (sumAt es (i + 1)) ++ [32])) (.str (showD (eAt es i))) S = .ok (.str (lineAt es i)) S := fun S => by
        rw [fAdd_str (by simp; omega)]
        simp [lineAt, lineS]
      have hr : ((List.range (i + 1)).map (lineAt es)).map DL.D.str = ((List.range i).map (lineAt es)).map DL.D.str ++ [.str (lineAt es i)] := by simp [List.range_succ]
      have hlen : (((List.range i).map (lineAt es)).map DL.D.str).length < 1000000 := by simp; omega
      rw [hr]
      simp only [semE, semEs, List.getElem?_cons_zero, List.getElem?_cons_succ, bind_ok, mtOk_ref, get_end, mtT, beq_self_eq_true, if_true, biF, boF, f1, f2, a1, a2, a3, a4, mtF, fAppend_ref, hlen, set_end]
end K37
set_option Elab.async false
set_option linter.all false
set_option maxRecDepth 100000
set_option maxHeartbeats 4000000
/-! NM: a line of a journal, read. -/
namespace K37
open PySem L2 DL
theorem okS_of {x y : List Nat} (h : okS x = true) (hy : ∀ d ∈ y, d ∈ x) : okS y = true := by
  unfold okS at h ⊢
  rw [List.all_eq_true] at h ⊢
  exact fun d hd => h d (hy d hd)
theorem okS_app {a b : List Nat} (ha : okS a = true) (hb : okS b = true) : okS (a ++ b) = true := by
  unfold okS at *
  rw [List.all_append, ha, hb]
  rfl
theorem okS_cons {c : Nat} {b : List Nat} (hc : c < 1114112) (hb : okS b = true) : okS (c :: b) = true := by
  unfold okS at *
  simp only [List.all_cons, hc, decide_true, Bool.true_and]
  exact hb
theorem sp2_mem {t p : List Nat} (h : p ∈ sp2 t) : (∀ c ∈ p, c ∈ t) ∧ p.length ≤ t.length := by
  unfold sp2 at h
  cases hc : cutC 32 t with
  | none =>
    rw [hc] at h
    simp only [List.mem_singleton] at h
    subst h
    exact ⟨fun _ h => h, Nat.le_refl _⟩
  | some q =>
    obtain ⟨a, r⟩ := q
    obtain ⟨e, _⟩ := cutC_some hc
    rw [hc] at h
    dsimp only at h
    subst e
    cases hc2 : cutC 32 r with
    | none =>
      rw [hc2] at h
      simp only [List.mem_cons, List.not_mem_nil, or_false] at h
      rcases h with rfl | rfl
      · exact ⟨fun c hc => by simp [hc], by simp⟩
      · exact ⟨fun c hc => by simp [hc], by simp; omega⟩
    | some q2 =>
      obtain ⟨b, r2⟩ := q2
      obtain ⟨e2, _⟩ := cutC_some hc2
      subst e2
      rw [hc2] at h
      simp only [List.mem_cons, List.not_mem_nil, or_false] at h
      rcases h with rfl | rfl | rfl
      · exact ⟨fun c hc => by simp [hc], by simp⟩
      · exact ⟨fun c hc => by simp [hc], by simp; omega⟩
      · exact ⟨fun c hc => by simp [hc], by simp; omega⟩
theorem dig_ok {i : Int} (h : 0 ≤ i) : okS (digS i) = true := by
  unfold okS
  rw [List.all_eq_true]
  intro c hc
  have := dig_fig h hc
  simp
  omega
theorem dig_no {i : Int} (h : 0 ≤ i) {c : Nat} (hc : c < 48 ∨ 57 < c) : c ∉ digS i := fun hm => by
  have := dig_fig h hm
  omega
def rlbody : Sms := match a_read_lines with
  | .cons _ (.cons _ (.cons (.forr _ _ b) _)) => b
  | _ => .nil
theorem rl_2 {Q : Par} {ps : List (List Nat)} {n : Nat} (hn : n ≤ 1000) (h : ∀ p ∈ ps, okS p = true) {r : DL.Loc} {S : Sto} (h7 : r[7]? = some (some (.lst (ps.map .str)))) (h5 : r[5]? = some (some (.int (n : Nat)))) :
    semB Q (.or (.cons (.cmp .ne (.blt .len (.cons (.var 7) .nil)) (.int 3)) (.cons (.cmp .ne (.ix (.var 7) (.int 0)) (.blt .str (.cons (.var 5) .nil))) .nil))) r S = .ok (!(decide (ps.length = 3) && ps.head? == some (digS (n : Nat)))) S := by
  have hl : fLen [.lst (ps.map DL.D.str)] S = .ok (.int (ps.length : Nat)) S := by rw [fLen_lst]; simp
  have hs : fStr [.int ((n : Nat) : Int)] S = .ok (.str (digS (n : Nat))) S := fStr_i (by omega)
  by_cases h3 : ps.length = 3
  · obtain ⟨a, b, c, rfl⟩ : ∃ a b c, ps = [a, b, c] := by
      match ps, h3 with
      | [a, b, c], _ => exact ⟨a, b, c, rfl⟩
    have hx : fIx (.lst ([a, b, c].map DL.D.str)) (.int 0) S = .ok (.str a) S := rfl
    have hne : fNe (.str a) (.str (digS (n : Nat))) S = .ok (.bl (!(a == digS (n : Nat)))) S := fNe_str (h a (by simp)) (dig_ok (by omega))
    have hb : (some a == some (digS (n : Nat))) = (a == digS (n : Nat)) := by
      rw [Bool.eq_iff_iff]
      simp
    simp only [semB, semAny, semE, semEs, h7, h5, bind_ok, biF, hl, coF, List.length_cons, List.length_nil, fNe_int, toB_bl, hx, hs, hne, List.head?_cons, hb]
    cases a == digS (n : Nat) <;> rfl
  · have e3 : ((ps.length : Int) == 3) = false := by
      rw [beq_eq_false_iff_ne]
      omega
    simp only [semB, semAny, semE, semEs, h7, h5, bind_ok, biF, hl, coF, fNe_int, e3, toB_bl, Bool.not_false, if_true, h3, decide_false, Bool.false_and]
/-- the line with which reading breaks off -/
def BrkL (n : Nat) (total day : Int) (bad : List Nat) : Prop := ∀ (k : Nat) (S : Sto) (a0 a1 a2 x7 x8 x9 : Option DL.D), ∃ y7 y8 y9,
  semSs rlbody { P with fn := run tb P (k + 18) } [a0, a1, a2, some (.int total), some (.int day), some (.int (n : Nat)), some (.str bad), x7, x8, x9] S = .brk [a0, a1, a2, some (.int total), some (.int day), some (.int (n : Nat)), some (.str bad), y7, y8, y9] S
theorem rl_1 {Q : Par} {ln : List Nat} (hl : ln.length ≤ 1000000) {a0 a1 a2 a3 a4 a5 x7 x8 x9 : Option DL.D} {S : Sto} : semS (.asg (.name 7) (.mth .splitMax (.var 6) (.cons (.str [32]) (.cons (.int 2) .nil)))) Q [a0, a1, a2, a3, a4, a5, some (.str ln), x7, x8, x9] S = .nx [a0, a1, a2, a3, a4, a5, some (.str ln), some (.lst ((sp2 ln).map .str)), x8, x9] S := by
  refine s_asg0 (.lst ((sp2 ln).map .str)) ?_ rfl
  have := splitMax_ok hl (S := S)
  simp only [semE, semEs, List.getElem?_cons_zero, List.getElem?_cons_succ, bind_ok, mtOk_str, mtT, beq_self_eq_true, if_true, mtF, this]
theorem brk_parts {n : Nat} {total day : Int} {bad : List Nat} (hn : n ≤ 1000) (ho : okS bad = true) (hl : bad.length ≤ 1000000) (h : (sp2 bad).length ≠ 3 ∨ (sp2 bad).head? ≠ some (digS (n : Nat))) : BrkL n total day bad := fun k S a0 a1 a2 x7 x8 x9 => by
  refine ⟨_, _, _, ss_nx (rl_1 hl) (ss_brk (s_ifT ?_ (ss_brk (by simp only [semS]; rfl))))⟩
  rw [rl_2 (ps := sp2 bad) hn (fun p hp => okS_of ho (sp2_mem hp).1) rfl rfl]
  congr 1
  rcases h with h | h
  · simp [h]
  · have : ((sp2 bad).head? == some (digS (n : Nat))) = false := by
      rw [beq_eq_false_iff_ne]
      exact h
    rw [this]
    simp
def rlrest : Sms := match rlbody with
  | .cons _ (.cons _ (.cons _ (.cons _ r))) => r
  | _ => .nil
theorem rl_head {K n : Nat} {total : Int} {ln p1 p2 : List Nat} (hn : n ≤ 1000) (ho : okS ln = true) (hl : ln.length ≤ 1000000) (h : sp2 ln = [digS (n : Nat), p1, p2]) {a0 a1 a2 a4 x7 x8 x9 : Option DL.D} {S : Sto} {x : Rs}
    (hx : semSs (.cons (.ifs (.cmp .ne (.ix (.var 7) (.int 1)) (.blt .str (.cons (.var 8) .nil))) (.cons .brk .nil) .nil) rlrest) { P with fn := run tb P (K + 1) } [a0, a1, a2, some (.int total), a4, some (.int (n : Nat)), some (.str ln), some (.lst [.str (digS (n : Nat)), .str p1, .str p2]), some (.int (lsum n total p2)), x9] S = x) :
    semSs rlbody { P with fn := run tb P (K + 1) } [a0, a1, a2, some (.int total), a4, some (.int (n : Nat)), some (.str ln), x7, x8, x9] S = x := by
  have hp : p2 ∈ sp2 ln := by rw [h]; simp
  have hl2 := (sp2_mem hp).2
  refine ss_nx (rl_1 hl) (ss_nx (s_if1 ?_) (ss_nx (s_asg0 (.int (lsum n total p2)) ?_ rfl) ?_))
  · rw [rl_2 (ps := sp2 ln) hn (fun p hp => okS_of ho (sp2_mem hp).1) rfl rfl, h]
    simp
  · rw [h]
    have hs := linesum_ok K (text := p2) (by omega) (n : Nat) total (S := S)
    have hx2 : fIx (.lst ([digS (n : Nat), p1, p2].map DL.D.str)) (.int 2) S = .ok (.str p2) S := rfl
    simp only [semE, semEs, List.getElem?_cons_zero, List.getElem?_cons_succ, bind_ok, hx2, hs]
  · rw [h]
    exact hx
theorem rl_4 {Q : Par} {w p1 p2 : List Nat} {s : Int} (h0 : 0 ≤ s ∧ s < 99991) (ho : okS p1 = true) {r : DL.Loc} {S : Sto} (h7 : r[7]? = some (some (.lst [.str w, .str p1, .str p2]))) (h8 : r[8]? = some (some (.int s))) :
    semB Q (.cmp .ne (.ix (.var 7) (.int 1)) (.blt .str (.cons (.var 8) .nil))) r S = .ok (!(p1 == digS s)) S := by
  have hs : fStr [.int s] S = .ok (.str (digS s)) S := fStr_i (by omega)
  have hx : fIx (.lst [.str w, .str p1, .str p2]) (.int 1) S = .ok (.str p1) S := rfl
  have hne : fNe (.str p1) (.str (digS s)) S = .ok (.bl (!(p1 == digS s))) S := fNe_str ho (dig_ok h0.1)
  simp only [semB, semE, semEs, h7, h8, bind_ok, hx, biF, hs, coF, hne, toB_bl]
theorem rl_5 {K n : Nat} {w p1 p2 : List Nat} {d : DL.D} {a0 a1 a2 a3 a4 a6 a8 x9 : Option DL.D} {S : Sto} (h : run tb P K 24 [.str p2, .bl (decide (n = 0))] S = .ok d S) :
    semS (.asg (.name 9) (.call 24 (.cons (.ix (.var 7) (.int 2)) (.cons (.cmp .eq (.var 5) (.int 0)) .nil)))) { P with fn := run tb P K } [a0, a1, a2, a3, a4, some (.int (n : Nat)), a6, some (.lst [.str w, .str p1, .str p2]), a8, x9] S = .nx [a0, a1, a2, a3, a4, some (.int (n : Nat)), a6, some (.lst [.str w, .str p1, .str p2]), a8, some d] S := by
  refine s_asg0 d ?_ rfl
  have hx : fIx (.lst [.str w, .str p1, .str p2]) (.int 2) S = .ok (.str p2) S := rfl
  have e0 : (((n : Nat) : Int) == 0) = decide (n = 0) := by
    rw [Bool.eq_iff_iff]
    simp
  simp only [semE, semEs, List.getElem?_cons_zero, List.getElem?_cons_succ, bind_ok, hx, coF, fEq_int, e0, h]
theorem brk_sum {n : Nat} {total day : Int} {bad p1 p2 : List Nat} (hn : n ≤ 1000) (ho : okS bad = true) (hl : bad.length ≤ 1000000) (h : sp2 bad = [digS (n : Nat), p1, p2]) (h2 : p1 ≠ digS (lsum n total p2)) : BrkL n total day bad := fun k S a0 a1 a2 x7 x8 x9 => by
  refine ⟨_, _, _, rl_head (K := k + 17) hn ho hl h (ss_brk (s_ifT ?_ (ss_brk (by simp only [semS]; rfl))))⟩
  rw [rl_4 (lsum_lo _ _ _) (okS_of ho (sp2_mem (p := p1) (by rw [h]; simp)).1) rfl rfl]
  congr 1
  simpa using h2
theorem brk_entry {n : Nat} {total day : Int} {bad p1 p2 : List Nat} (hn : n ≤ 1000) (ho : okS bad = true) (hl : bad.length ≤ 1000000) (h : sp2 bad = [digS (n : Nat), p1, p2]) (h2 : ∀ (m : Nat) (S : Sto), run tb P (m + 18) 24 [.str p2, .bl (decide (n = 0))] S = .ok .non S) : BrkL n total day bad := fun k S a0 a1 a2 x7 x8 x9 => by
  by_cases hs : p1 = digS (lsum n total p2)
  · refine ⟨_, _, _, rl_head (K := k + 17) hn ho hl h (ss_nx (s_if1 ?_) (ss_nx (rl_5 (h2 k S)) (ss_brk (s_ifT ?_ (ss_brk (by simp only [semS]; rfl))))))⟩
    · rw [rl_4 (lsum_lo _ _ _) (okS_of ho (sp2_mem (p := p1) (by rw [h]; simp)).1) rfl rfl]
      congr 1
      simpa using hs
    · simp only [semB, semE, List.getElem?_cons_zero, List.getElem?_cons_succ, bind_ok, coF, fIs_non, DL.isNon, toB_bl]
  · exact brk_sum hn ho hl h hs k S a0 a1 a2 x7 x8 x9
theorem brk_day {n : Nat} {total day dd : Int} {bad p1 p2 : List Nat} {w : DL.D} {r : List DL.D} (hn0 : 0 < n) (hn : n ≤ 1000) (ho : okS bad = true) (hl : bad.length ≤ 1000000) (h : sp2 bad = [digS (n : Nat), p1, p2]) (h2 : ∀ (m : Nat) (S : Sto), run tb P (m + 18) 24 [.str p2, .bl false] S = .ok (.tup (w :: .int dd :: r)) S) (hd : dd < day) : BrkL n total day bad := fun k S a0 a1 a2 x7 x8 x9 => by
  have hnf : decide (n = 0) = false := by simp; omega
  by_cases hs : p1 = digS (lsum n total p2)
  · refine ⟨_, _, _, rl_head (K := k + 17) hn ho hl h (ss_nx (s_if1 ?_) (ss_nx (rl_5 (by rw [hnf]; exact h2 k S)) (ss_nx (s_if1 ?_) (ss_brk (s_ifT ?_ (ss_brk (s_ifT ?_ (ss_brk (by simp only [semS]; rfl)))))))))⟩
    · rw [rl_4 (lsum_lo _ _ _) (okS_of ho (sp2_mem (p := p1) (by rw [h]; simp)).1) rfl rfl]
      congr 1
      simpa using hs
    · simp only [semB, semE, List.getElem?_cons_zero, List.getElem?_cons_succ, bind_ok, coF, fIs_non, DL.isNon, toB_bl]
    · have : ((0 : Int) < (n : Nat)) := by omega
      simp only [semB, semE, List.getElem?_cons_zero, List.getElem?_cons_succ, bind_ok, coF, fGt_int, this, decide_true, toB_bl]
    · have hx : fIx (.tup (w :: .int dd :: r)) (.int 1) S = .ok (.int dd) S := by rw [fIx_tup, at_1]; rfl
      simp only [semB, semE, List.getElem?_cons_zero, List.getElem?_cons_succ, bind_ok, coF, hx, fLt_int, hd, decide_true, toB_bl]
  · exact brk_sum hn ho hl h hs k S a0 a1 a2 x7 x8 x9
/-- a right line is taken -/
theorem rl_go (k : Nat) {n : Nat} {total day s len : Int} {ln p2 : List Nat} {d : DL.D} {E : List DL.D} {S : Sto} (hn : n ≤ 1000) (ho : okS ln = true) (hl : ln.length ≤ 1000000) (hE : E.length ≤ 1000) (h : sp2 ln = [digS (n : Nat), digS s, p2]) (hs : s = lsum n total p2)
    (h2 : run tb P (k + 18) 24 [.str p2, .bl (decide (n = 0))] (S ++ [.lst E]) = .ok d (S ++ [.lst E])) (hT : ∃ ds, d = .tup ds) {dy : Int} (hd : (n = 0 ∧ dy = day) ∨ (0 < n ∧ day ≤ dy ∧ ∃ w r, d = .tup (w :: .int dy :: r))) (a0 x7 x8 x9 : Option DL.D) :
    ∃ y7 y8 y9, semSs rlbody { P with fn := run tb P (k + 18) } [a0, some (.ref S.length), some (.int len), some (.int total), some (.int day), some (.int (n : Nat)), some (.str ln), x7, x8, x9] (S ++ [.lst E])
      = .nx [a0, some (.ref S.length), some (.int (len + ((ln.length : Int) + 1))), some (.int s), some (.int dy), some (.int (n : Nat)), some (.str ln), y7, y8, y9] (S ++ [.lst (E ++ [d])]) := by
  subst hs
  have hl3 : ∀ T, fLen [.str ln] T = .ok (.int ln.length) T := fun T => fLen_str hl
  have hi : ∀ i j S, fIadd (.int i) (.int j) S = .ok (.int (i + j)) S := fun _ _ _ => rfl
  have hap : E.length < 1000000 := by omega
  refine ⟨_, _, _, rl_head (K := k + 17) hn ho hl h (ss_nx (s_if1 ?_) (ss_nx (rl_5 h2) (ss_nx (s_if1 ?_) (ss_nx (S2 := S ++ [.lst E]) (r2 := [a0, some (.ref S.length), some (.int len), some (.int total), some (.int dy), some (.int (n : Nat)), some (.str ln), some (.lst [.str (digS (n : Nat)), .str (digS (lsum n total p2)), .str p2]), some (.int (lsum n total p2)), some d]) ?_ (ss_nx (s_expr (d := .non) (S2 := S ++ [.lst (E ++ [d])]) ?_) (ss_nx (S2 := S ++ [.lst (E ++ [d])]) (r2 := [a0, some (.ref S.length), some (.int (len + ((ln.length : Int) + 1))), some (.int total), some (.int dy), some (.int (n : Nat)), some (.str ln), some (.lst [.str (digS (n : Nat)), .str (digS (lsum n total p2)), .str p2]), some (.int (lsum n total p2)), some d]) ?_ (ss_nx (s_asg0 (.int (lsum n total p2)) ?_ rfl) ss0)))))))⟩
  · rw [rl_4 (lsum_lo _ _ _) (dig_ok (lsum_lo _ _ _).1) rfl rfl]
    simp
  · obtain ⟨ds, rfl⟩ := hT
    simp only [semB, semE, List.getElem?_cons_zero, List.getElem?_cons_succ, bind_ok, coF, fIs_non, DL.isNon, toB_bl]
  · rcases hd with ⟨rfl, rfl⟩ | ⟨h0, h1, w, r, rfl⟩
    · refine s_if1 ?_
      simp only [semB, semE, List.getElem?_cons_zero, List.getElem?_cons_succ, bind_ok, coF, fGt_int, toB_bl]
      rfl
    · have : ((0 : Int) < (n : Nat)) := by omega
      have hx : ∀ S, fIx (.tup (w :: .int dy :: r)) (.int 1) S = .ok (.int dy) S := fun S => by rw [fIx_tup, at_1]; rfl
      have hnl : decide (dy < day) = false := by simp; omega
      refine s_ifT ?_ (ss_nx (s_if1 ?_) (ss_nx (s_asg0 (.int dy) ?_ rfl) ss0))
      · simp only [semB, semE, List.getElem?_cons_zero, List.getElem?_cons_succ, bind_ok, coF, fGt_int, this, decide_true, toB_bl]
      · simp only [semB, semE, List.getElem?_cons_zero, List.getElem?_cons_succ, bind_ok, coF, hx, fLt_int, hnl, toB_bl]
      · simp only [semE, List.getElem?_cons_zero, List.getElem?_cons_succ, bind_ok, hx]
  · simp only [semE, semEs, List.getElem?_cons_zero, List.getElem?_cons_succ, bind_ok, mtOk_ref, get_end, mtT, beq_self_eq_true, if_true, mtF, fAppend_ref, hap, set_end]
  · simp only [semS, semE, semEs, List.getElem?_cons_zero, List.getElem?_cons_succ, bind_ok, biF, hl3, boF, fAdd_int, to_ok, augF, if_true, hi]
    rfl
  · simp only [semE, List.getElem?_cons_zero, List.getElem?_cons_succ]
end K37
set_option Elab.async false
set_option linter.all false
set_option maxRecDepth 100000
set_option maxHeartbeats 4000000
/-! NN: a journal, read. -/
namespace K37
open PySem L2 DL
/-- a journal of the law: its entries, their days -/
structure Jn (es : List DL.D) (dy : Nat → Int) : Prop where
  len : es.length ≤ 8
  ge : ∀ i, i < es.length → GE (decide (i = 0)) (dy i) (eAt es i)
  mono : ∀ i, dy i ≤ dy (i + 1)
  rg : ∀ i, 0 ≤ dy i ∧ dy i ≤ 100
def rday (dy : Nat → Int) (i : Nat) : Int := if i ≤ 1 then 0 else dy (i - 1)
theorem Jn.vd {es : List DL.D} {dy : Nat → Int} (J : Jn es dy) : ∀ d ∈ es, Vd d := fun d hd => by
  obtain ⟨i, hi, rfl⟩ := List.getElem_of_mem hd
  have := J.ge i hi
  have e : eAt es i = es[i] := by rw [eAt, List.getD_eq_getElem?_getD, List.getElem?_eq_getElem hi]; rfl
  rw [e] at this
  exact ⟨this.rv, this.sz⟩
theorem Jn.at_ {es : List DL.D} {dy : Nat → Int} (J : Jn es dy) {i : Nat} (hi : i < es.length) : Vd (eAt es i) := ⟨(J.ge i hi).rv, (J.ge i hi).sz⟩
theorem Jn.nr_ {es : List DL.D} {dy : Nat → Int} (J : Jn es dy) : nrs 0 es = true := by
  rw [nrs_all]
  exact fun d hd => rv_nr (J.vd d hd).rv
/-- the line of an entry -/
structure LnF (n : Nat) (s : Int) (t : List Nat) : Prop where
  len : (lineS n s t).length ≤ 742
  ok : okS (lineS n s t) = true
  n10 : 10 ∉ lineS n s t
  sp : sp2 (lineS n s t) = [digS (n : Nat), digS s, t]
theorem sh_ok {d : DL.D} (h : Vd d) : (showD d).length ≤ 600 ∧ 10 ∉ showD d := ⟨h.len, (show_f 6 d h.rv).2⟩
theorem ln_f {n : Nat} {s : Int} {t : List Nat} (hn : n ≤ 1000) (hs : 0 ≤ s ∧ s < 99991) (ht : t.length ≤ 700) (ho : okS t = true) (h10 : 10 ∉ t) : LnF n s t := by
  have n0 : (0 : Int) ≤ (n : Nat) := by omega
  refine ⟨line_len hn hs.1 hs.2 ht, okS_app (dig_ok n0) (okS_cons (by decide) (okS_app (dig_ok hs.1) (okS_cons (by decide) ho))), ?_, sp2_3 (dig_no n0 (.inl (by decide))) (dig_no hs.1 (.inl (by decide)))⟩
  simp [lineS, dig_no n0 (c := 10) (.inl (by decide)), dig_no hs.1 (c := 10) (.inl (by decide)), h10]
theorem asc_app {a b : List Nat} (ha : asc a = true) (hb : asc b = true) : asc (a ++ b) = true := by
  unfold asc at *
  rw [List.all_append, ha, hb]
  rfl
theorem asc_cons {c : Nat} {b : List Nat} (hc : c < 128) (hb : asc b = true) : asc (c :: b) = true := by
  unfold asc at *
  simp only [List.all_cons, hc, decide_true, Bool.true_and]
  exact hb
theorem asc_ok {a : List Nat} (h : asc a = true) : okS a = true := by
  unfold asc at h
  unfold okS
  rw [List.all_eq_true] at h ⊢
  intro c hc
  have := h c hc
  simp at this ⊢
  omega
theorem dig_asc {i : Int} (h : 0 ≤ i) : asc (digS i) = true := by
  unfold asc
  rw [List.all_eq_true]
  intro c hc
  have := dig_fig h hc
  simp
  omega
mutual
theorem show_asc : ∀ (n : Nat) (d : DL.D), rvD n d = true → asc (showD d) = true
  | _, .non, _ => by simp only [showD]; decide
  | _, .bl b, _ => by cases b <;> simp only [showD] <;> decide
  | n, .int i, h => by
    have h : (0 ≤ i ∧ i.natAbs ≤ 1000000000000) ∨ i = -1 := by
      cases n <;> simpa [rvD] using h
    simp only [showD]
    rcases h with h | rfl
    · exact dig_asc h.1
    · rw [dig_m1]
      decide
  | n, .str s, h => by
    have h : s.all okc = true := by
      cases n <;> (simp only [rvD, Bool.and_eq_true] at h; exact h.1.1)
    simp only [showD]
    refine asc_cons (by decide) (asc_app ?_ (by decide))
    unfold asc
    rw [List.all_eq_true] at h ⊢
    intro c hc
    obtain ⟨d, hd, hm⟩ := List.mem_flatMap.mp hc
    have h3 := h d hd
    split at hm
    · simp at hm
      rcases hm with rfl | rfl <;> decide
    · simp at hm
      subst hm
      unfold okc at h3
      simp at h3 ⊢
      omega
  | n + 1, .tup ds, h => by
    simp only [rvD, Bool.and_eq_true] at h
    simp only [showD]
    exact asc_cons (by decide) (asc_app (shows_asc n ds h.1) (by decide))
  | 0, .tup ds, h => by simp [rvD] at h
  | 0, .lst _, h => by simp [rvD] at h
  | n + 1, .lst _, h => by simp [rvD] at h
  | 0, .ref _, h => by simp [rvD] at h
  | n + 1, .ref _, h => by simp [rvD] at h
  | 0, .fn _, h => by simp [rvD] at h
  | n + 1, .fn _, h => by simp [rvD] at h
  | 0, .scr _, h => by simp [rvD] at h
  | n + 1, .scr _, h => by simp [rvD] at h
  | 0, .exn _ _ _ _, h => by simp [rvD] at h
  | n + 1, .exn _ _ _ _, h => by simp [rvD] at h
theorem shows_asc : ∀ (n : Nat) (ds : List DL.D), rvs n ds = true → asc (shows ds) = true
  | n, [], _ => by simp only [shows]; decide
  | n, d :: ds, h => by
    simp only [rvs, Bool.and_eq_true] at h
    simp only [shows]
    exact asc_app (show_asc n d h.1) (showt_asc n ds h.2)
theorem showt_asc : ∀ (n : Nat) (ds : List DL.D), rvs n ds = true → asc (showt ds) = true
  | n, [], _ => by simp only [showt]; decide
  | n, d :: ds, h => by
    simp only [rvs, Bool.and_eq_true] at h
    simp only [showt]
    exact asc_cons (by decide) (asc_app (show_asc n d h.1) (showt_asc n ds h.2))
end
theorem show_okS {n : Nat} {d : DL.D} (h : rvD n d = true) : okS (showD d) = true := asc_ok (show_asc n d h)
theorem Vd.ln {d : DL.D} (h : Vd d) {n : Nat} {s : Int} (hn : n ≤ 1000) (hs : 0 ≤ s ∧ s < 99991) : LnF n s (showD d) :=
  ln_f hn hs (by have := h.len; omega) (show_okS h.rv) (show_f 6 d h.rv).2
theorem Jn.ln {es : List DL.D} {dy : Nat → Int} (J : Jn es dy) {i : Nat} (hi : i < es.length) : LnF i (sumAt es (i + 1)) (showD (eAt es i)) :=
  (J.at_ hi).ln (by have := J.len; omega) (sum_lo es (i + 1))
theorem Jn.lines {es : List DL.D} {dy : Nat → Int} (J : Jn es dy) : ∀ l ∈ linesOf es, l.length ≤ 742 ∧ okS l = true ∧ 10 ∉ l := fun l hl => by
  obtain ⟨i, hi, rfl⟩ := List.mem_map.mp hl
  have f := J.ln (List.mem_range.mp hi)
  exact ⟨f.len, f.ok, f.n10⟩
theorem enumD_get : ∀ {ds : List DL.D} {k : Int} {i : Nat}, (enumD k ds)[i]? = (ds[i]?).map fun d => .tup [.int (k + i), d]
  | [], _, _ => by simp [enumD]
  | d :: ds, k, 0 => by simp [enumD]
  | d :: ds, k, i + 1 => by
    rw [enumD, List.getElem?_cons_succ, List.getElem?_cons_succ, enumD_get]
    have : k + 1 + (i : Int) = k + ((i + 1 : Nat) : Int) := by omega
    rw [this]
theorem enumD_len : ∀ {ds : List DL.D} {k : Int}, (enumD k ds).length = ds.length
  | [], _ => rfl
  | d :: ds, k => by rw [enumD, List.length_cons, List.length_cons, enumD_len]
theorem cut_init {α : Type} (w : List α) : cut w none (some (-1)) = w.dropLast := by
  unfold cut
  rw [HT.sIx_none]
  show (w.drop 0).take ((if (-1 : Int) < 0 then ((-1 : Int) + (w.length : Int)).toNat else min (-1 : Int).toNat w.length) - 0) = _
  rw [if_pos (by decide), List.drop_zero, List.dropLast_eq_take]
  congr 1
  omega
theorem slL_init {S : Sto} {ds : List DL.D} : fSl (.lst ds) none (some (-1)) S = .ok (.lst ds.dropLast) S := by
  unfold fSl
  simp only [vw_lst, cut_init]
/-- what stands behind the right lines -/
def RestB (n : Nat) (total day : Int) (rest : List Nat) : Prop := 10 ∉ rest ∨ ∃ bad tail, rest = bad ++ 10 :: tail ∧ 10 ∉ bad ∧ BrkL n total day bad
theorem take_succ' {α : Type} {l : List α} {i : Nat} {x : α} (h : l[i]? = some x) : l.take (i + 1) = l.take i ++ [x] := by
  rw [List.take_succ, h]
  rfl
theorem readlines_ok (k : Nat) {es : List DL.D} {dy : Nat → Int} (J : Jn es dy) {m : Nat} (hm : m ≤ es.length) {rest : List Nat} (hb : RestB m (sumAt es m) (rday dy m) rest) (hl : rest.length ≤ 800000) (S : Sto) :
    ∃ tot, run tb P (k + 19) 23 [.str (joinN ((linesOf es).take m) ++ rest)] S = .ok (.tup [.tup (es.take m), .int ((joinN ((linesOf es).take m)).length : Nat), .int tot]) S := by
  have hl8 := J.len
  have hLs : ∀ l ∈ linesOf es, 10 ∉ l := fun l hl => (J.lines l hl).2.2
  have htl : (joinN ((linesOf es).take m)).length ≤ 743 * 8 := by
    have h1 := joinN_len (c := 742) (ls := (linesOf es).take m) fun l hl => (J.lines l (List.mem_of_mem_take hl)).1
    have h2 : ((linesOf es).take m).length ≤ 8 := by
      rw [List.length_take, linesOf_len]
      omega
    have h3 : 743 * ((linesOf es).take m).length ≤ 743 * 8 := Nat.mul_le_mul_left _ h2
    omega
  have hbl : (joinN ((linesOf es).take m) ++ rest).length ≤ 1000000 := by
    rw [List.length_append]
    omega
  have hsp : splC 10 (joinN ((linesOf es).take m) ++ rest) = (linesOf es).take m ++ splC 10 rest := split_joinR fun l hl => hLs l (List.mem_of_mem_take hl)
  obtain ⟨L, hL⟩ : ∃ L, L = (linesOf es).take m ++ (splC 10 rest).dropLast := ⟨_, rfl⟩
  have hdl : (splC 10 (joinN ((linesOf es).take m) ++ rest)).dropLast = L := by
    rw [hsp, hL, List.dropLast_append_of_ne_nil (splC_ne 10 rest)]
  have hgood : ∀ i, i < m → L[i]? = some (lineAt es i) := fun i hi => by
    rw [hL, List.getElem?_append_left (by rw [List.length_take, linesOf_len]; omega), List.getElem?_take, if_pos hi]
    exact linesOf_get (by omega)
  have hmL : m ≤ L.length := by
    rw [hL, List.length_append, List.length_take, linesOf_len]
    omega
  have hbad : ∀ ln, L[m]? = some ln → BrkL m (sumAt es m) (rday dy m) ln := fun ln h => by
    rw [hL, List.getElem?_append_right (by rw [List.length_take, linesOf_len]; omega), List.length_take, linesOf_len, Nat.min_eq_left hm, Nat.sub_self] at h
    rcases hb with hb | ⟨bad, tail, rfl, h10, hb⟩
    · rw [splC_last hb] at h
      simp at h
    · rw [splC_app h10] at h
      obtain ⟨p, ps, e⟩ := splC_hd 10 tail
      rw [e] at h
      simp at h
      subst h
      exact hb
  generalize joinN ((linesOf es).take m) ++ rest = text at *
  have key := forG_inv2 (gd := none) (t := .tup (.cons (.name 5) (.cons (.name 6) .nil))) (its := enumD 0 (L.map .str)) (r := [some (.str text), some (.ref S.length), some (.int 0), some (.int 0), some (.int 0), none, none, none, none, none]) (S := S ++ [.lst []])
    (b := semSs rlbody { P with fn := run tb P (k + 18) })
    (fun i rr SS => i ≤ m ∧ ∃ x5 x6 x7 x8 x9, rr = [some (.str text), some (.ref S.length), some (.int ((joinN ((linesOf es).take i)).length : Nat)), some (.int (sumAt es i)), some (.int (rday dy i)), x5, x6, x7, x8, x9] ∧ SS = S ++ [.lst (es.take i)])
    (fun rr SS => ∃ tot x4 x5 x6 x7 x8 x9, rr = [some (.str text), some (.ref S.length), some (.int ((joinN ((linesOf es).take m)).length : Nat)), some (.int tot), x4, x5, x6, x7, x8, x9] ∧ SS = S ++ [.lst (es.take m)])
    ⟨Nat.zero_le _, none, none, none, none, none, rfl, rfl⟩ (fun _ _ _ _ _ => trivial) (fun rr SS ⟨h0, x5, x6, x7, x8, x9, h1, h2⟩ => ?_) ?_
  · obtain ⟨r3, S3, e, tot, x4, x5, x6, x7, x8, x9, rfl, rfl⟩ := key
    refine ⟨tot, run_of (d := d_23) (x := .ret (.tup [.tup (es.take m), .int ((joinN ((linesOf es).take m)).length : Nat), .int tot]) (S ++ [.lst (es.take m)])) rfl rfl ?_ (fin_plT ?_)⟩
    · refine ss_nx (s_asg (d := .ref S.length) (S2 := S ++ [.lst []]) (by simp [semE, semEs]) rfl) ?_
      refine ss_nx (r2 := [some (.str text), some (.ref S.length), some (.int 0), some (.int 0), some (.int 0), none, none, none, none, none]) (S2 := S ++ [.lst []]) ?_ ?_
      · simp only [semS, semE, to_ok]
        rfl
      have hI : semI { P with fn := run tb P (k + 18) } (.enum (.sl (.mth .split (.var 0) (.cons (.str [10]) .nil)) .none (.some (.neg (.int 1))))) [some (.str text), some (.ref S.length), some (.int 0), some (.int 0), some (.int 0), none, none, none, none, none] (S ++ [.lst []]) = .ok (enumD 0 (L.map .str), none) (S ++ [.lst []]) := by
        have h1 := fSplit_ok (c := 10) (by decide) hbl (S := S ++ [.lst []])
        have h2 : ((splC 10 text).map DL.D.str).dropLast = L.map .str := by
          rw [← hdl, List.map_dropLast]
        simp only [semI, semE, semEs, semO, List.getElem?_cons_zero, List.getElem?_cons_succ, bind_ok, mtOk_str, mtT, beq_self_eq_true, if_true, mtF, h1, fNeg_int, slL_init, h2]
      refine ss_nx (s_for hI e) (ss_ret (s_ret0 ?_))
      have ft : fTuple [.ref S.length] (S ++ [.lst (es.take m)]) = .ok (.tup (es.take m)) (S ++ [.lst (es.take m)]) := by
        unfold fTuple
        dsimp only
        rw [vw_ref get_end]
      simp only [semE, semEs, List.getElem?_cons_zero, List.getElem?_cons_succ, bind_ok, biF, ft]
    · have := nrs_all.mp J.nr_
      simp only [nr, nrs, Bool.and_true]
      rw [nrs_all]
      exact fun d hd => this d (List.mem_of_mem_take hd)
  · rw [enumD_len, List.length_map] at h0 h1 h2
    have : L.length = m := by omega
    rw [this] at h1 h2
    exact ⟨_, _, x5, x6, x7, x8, x9, h1, h2⟩
  · rintro i rr SS d hd ⟨hi, x5, x6, x7, x8, x9, rfl, rfl⟩
    rw [enumD_get, List.getElem?_map] at hd
    obtain ⟨q, hq, rfl⟩ := Option.map_eq_some_iff.mp hd
    obtain ⟨ln, hln, rfl⟩ := Option.map_eq_some_iff.mp hq
    rw [show (0 : Int) + (i : Int) = ((i : Nat) : Int) by omega]
    refine ⟨[some (.str text), some (.ref S.length), some (.int ((joinN ((linesOf es).take i)).length : Nat)), some (.int (sumAt es i)), some (.int (rday dy i)), some (.int (i : Nat)), some (.str ln), x7, x8, x9], rfl, ?_⟩
    by_cases him : i = m
    · subst him
      obtain ⟨y7, y8, y9, e⟩ := hbad ln hln k (S ++ [.lst (es.take i)]) (some (.str text)) (some (.ref S.length)) (some (.int ((joinN ((linesOf es).take i)).length : Nat))) x7 x8 x9
      exact ⟨_, _, .inr ⟨e, _, _, _, _, _, _, _, rfl, rfl⟩⟩
    · have hlt : i < m := by omega
      have hie : i < es.length := by omega
      have h1 := hgood i hlt
      rw [hln] at h1
      cases h1
      have F := J.ln hie
      have G := J.ge i hie
      have gT := G.tp
      have hdy : ∃ v, ((i = 0 ∧ v = rday dy i) ∨ (0 < i ∧ rday dy i ≤ v ∧ ∃ w r, eAt es i = .tup (w :: .int v :: r))) ∧ v = rday dy (i + 1) := by
        by_cases h0 : i = 0
        · subst h0
          exact ⟨0, .inl ⟨rfl, rfl⟩, rfl⟩
        · refine ⟨dy i, .inr ⟨by omega, ?_, G.dy (by simp [h0])⟩, ?_⟩
          · unfold rday
            split
            · exact (J.rg i).1
            · have := J.mono (i - 1)
              rw [show i - 1 + 1 = i by omega] at this
              exact this
          · unfold rday
            rw [if_neg (by omega)]
            rfl
      obtain ⟨v, hv, hv2⟩ := hdy
      obtain ⟨y7, y8, y9, e⟩ := rl_go k (n := i) (total := sumAt es i) (day := rday dy i) (s := sumAt es (i + 1)) (len := ((joinN ((linesOf es).take i)).length : Nat)) (ln := lineAt es i) (p2 := showD (eAt es i)) (d := eAt es i) (E := es.take i) (S := S) (by omega) F.ok (Nat.le_trans F.len (by decide)) (by rw [List.length_take]; omega) F.sp rfl (G.eo k _) gT hv (some (.str text)) x7 x8 x9
      refine ⟨_, _, .inl ⟨.inl e, by omega, some (.int (i : Nat)), some (.str (lineAt es i)), y7, y8, y9, ?_, ?_⟩⟩
      · have ht : (linesOf es).take (i + 1) = (linesOf es).take i ++ [lineAt es i] := take_succ' (linesOf_get hie)
        have hlen : (((joinN ((linesOf es).take (i + 1))).length : Nat) : Int) = ((joinN ((linesOf es).take i)).length : Nat) + (((lineAt es i).length : Int) + 1) := by
          rw [ht, joinN_app, List.length_append, joinN_cons]
          simp [joinN]
        rw [hlen, hv2]
      · have : es.take (i + 1) = es.take i ++ [eAt es i] := take_succ' (by rw [eAt, List.getD_eq_getElem?_getD, List.getElem?_eq_getElem hie]; rfl)
        rw [this]
/-- read_journal tells the longest beginning of right lines, and its number of signs -/
theorem readj_ok (k : Nat) {es : List DL.D} {dy : Nat → Int} (J : Jn es dy) {m : Nat} (hm : m ≤ es.length) {rest : List Nat} (hb : RestB m (sumAt es m) (rday dy m) rest) (hl : rest.length ≤ 800000) (S : Sto) :
    run tb P (k + 20) 22 [.str (joinN ((linesOf es).take m) ++ rest)] S = .ok (.tup [.tup (es.take m), .int ((joinN ((linesOf es).take m)).length : Nat)]) S := by
  obtain ⟨tot, e⟩ := readlines_ok k J hm hb hl S
  generalize joinN ((linesOf es).take m) ++ rest = text at *
  have hn : nr 0 (.tup [.tup (es.take m), .int ((joinN ((linesOf es).take m)).length : Nat)]) = true := by
    have := nrs_all.mp J.nr_
    simp only [nr, nrs, Bool.and_true]
    rw [nrs_all]
    exact fun d hd => this d (List.mem_of_mem_take hd)
  refine run_of (d := d_22) rfl rfl (ss_nx (s_asg0 (.tup [.tup (es.take m), .int ((joinN ((linesOf es).take m)).length : Nat), .int tot]) ?_ rfl) (ss_ret (s_ret0 (d := .tup [.tup (es.take m), .int ((joinN ((linesOf es).take m)).length : Nat)]) ?_))) (fin_pl hn)
  · show semE _ _ [some (.str text), none, none, none] S = _
    simp only [semE, semEs, List.getElem?_cons_zero, bind_ok, e]
  · show semE _ _ [some (.str text), some (.tup (es.take m)), some (.int ((joinN ((linesOf es).take m)).length : Nat)), some (.int tot)] S = _
    simp only [semE, semEs, List.getElem?_cons_zero, List.getElem?_cons_succ, bind_ok]
end K37
set_option Elab.async false
set_option linter.all false
set_option maxRecDepth 100000
set_option maxHeartbeats 4000000
/-! NO: what is due; texts with their right lines. -/
namespace K37
open PySem L2 DL
theorem slL_to {S : Sto} {ds : List DL.D} (k : Nat) : fSl (.lst ds) none (some (k : Int)) S = .ok (.lst (ds.take k)) S := by
  unfold fSl
  simp only [vw_lst, cut_to]
theorem slR_to {S : Sto} {b : Nat} {ds : List DL.D} (h : S[b]? = some (.lst ds)) (k : Nat) : fSl (.ref b) none (some (k : Int)) S = .ok (.lst (ds.take k)) S := by
  unfold fSl
  simp only [vw_ref h, cut_to]
theorem slL_from {S : Sto} {ds : List DL.D} (k : Nat) : fSl (.lst ds) (some (k : Int)) none S = .ok (.lst (ds.drop k)) S := by
  unfold fSl
  simp only [vw_lst, cut_from]
/-- a text that begins with m right lines, and not with one more -/
structure Sh (es : List DL.D) (dy : Nat → Int) (text : List Nat) (m : Nat) (rest : List Nat) : Prop where
  mm : m ≤ es.length
  t : text = joinN ((linesOf es).take m) ++ rest
  b : RestB m (sumAt es m) (rday dy m) rest
  no : m < es.length → rest.take ((lineAt es m).length + 1) ≠ lineAt es m ++ [10]
  ok : okS rest = true
  l : rest.length ≤ 400000
theorem cut10_ne {bad tail l : List Nat} (h1 : 10 ∉ bad) (h2 : 10 ∉ l) (h : bad ≠ l) : (bad ++ 10 :: tail).take (l.length + 1) ≠ l ++ [10] := fun e => by
  have e1 : bad ++ 10 :: tail = l ++ 10 :: (bad ++ 10 :: tail).drop (l.length + 1) := by
    have := List.take_append_drop (l.length + 1) (bad ++ 10 :: tail)
    rw [e] at this
    simpa using this.symm
  have c1 := cutC_app (c := 10) (r := tail) h1
  rw [e1, cutC_app h2] at c1
  exact h (Prod.mk.inj (Option.some.inj c1)).1.symm
theorem cut10_no {rest l : List Nat} (h : 10 ∉ rest) : rest.take (l.length + 1) ≠ l ++ [10] := fun e => by
  have : 10 ∈ rest.take (l.length + 1) := by rw [e]; simp
  exact h (List.mem_of_mem_take this)
def dubody : Sms := match a_law_due_u with
  | .cons _ (.cons _ (.cons (.forr _ _ b) _)) => b
  | _ => .nil
theorem due_ok (k : Nat) {es : List DL.D} {dy : Nat → Int} (J : Jn es dy) {text : List Nat} {m : Nat} {rest : List Nat} (h : Sh es dy text m rest) {S : Sto} {b : Nat} (hS : S[b]? = some (.lst es)) :
    run tb P (k + 1) 38 [.ref b, .lst ((linesOf es).map .str), .str text] S = .ok (.tup [.tup (es.take m), .int ((joinN ((linesOf es).take m)).length : Nat)]) S := by
  have hl8 := J.len
  have hm := h.mm
  have htl : ∀ i, (joinN ((linesOf es).take i)).length ≤ 743 * 8 := fun i => by
    have h1 := joinN_len (c := 742) (ls := (linesOf es).take i) fun l hl => (J.lines l (List.mem_of_mem_take hl)).1
    have h2 : ((linesOf es).take i).length ≤ 8 := by
      rw [List.length_take, linesOf_len]
      omega
    have h3 : 743 * ((linesOf es).take i).length ≤ 743 * 8 := Nat.mul_le_mul_left _ h2
    omega
  have hbl : text.length ≤ 900000 := by
    rw [h.t, List.length_append]
    have := htl m
    have := h.l
    omega
  have key := forG_inv2 (gd := none) (t := .name 5) (its := (linesOf es).map .str) (r := [some (.ref b), some (.lst ((linesOf es).map .str)), some (.str text), some (.int 0), some (.int 0), none]) (S := S)
    (b := semSs dubody { P with fn := run tb P k })
    (fun i rr SS => i ≤ m ∧ ∃ x5, rr = [some (.ref b), some (.lst ((linesOf es).map .str)), some (.str text), some (.int (i : Nat)), some (.int ((joinN ((linesOf es).take i)).length : Nat)), x5] ∧ SS = S)
    (fun rr SS => ∃ x5, rr = [some (.ref b), some (.lst ((linesOf es).map .str)), some (.str text), some (.int (m : Nat)), some (.int ((joinN ((linesOf es).take m)).length : Nat)), x5] ∧ SS = S)
    ⟨Nat.zero_le _, none, rfl, rfl⟩ (fun _ _ _ _ _ => trivial) (fun rr SS ⟨h0, x5, h1, h2⟩ => ?_) ?_
  · obtain ⟨r3, S3, e, x5, rfl, rfl⟩ := key
    refine run_of (d := d_38) (x := .ret (.tup [.tup (es.take m), .int ((joinN ((linesOf es).take m)).length : Nat)]) S3) rfl rfl ?_ (fin_pl ?_)
    · refine ss_nx (s_asg0 (.int 0) (by simp [semE]) rfl) (ss_nx (s_asg0 (.int 0) (by simp [semE]) rfl) ?_)
      show semSs _ _ [some (.ref b), some (.lst ((linesOf es).map .str)), some (.str text), some (.int 0), some (.int 0), none] S3 = _
      have hI : semI { P with fn := run tb P k } (.plain (.var 1)) [some (.ref b), some (.lst ((linesOf es).map .str)), some (.str text), some (.int 0), some (.int 0), none] S3 = .ok ((linesOf es).map .str, none) S3 := by
        simp only [semI, semE, List.getElem?_cons_zero, List.getElem?_cons_succ, bind_ok, walk]
      refine ss_nx (s_for hI e) (ss_ret (s_ret0 ?_))
      have ft : fTuple [.lst (es.take m)] S3 = .ok (.tup (es.take m)) S3 := rfl
      simp only [semE, semEs, semO, List.getElem?_cons_zero, List.getElem?_cons_succ, bind_ok, slR_to hS, biF, ft]
    · have := nrs_all.mp J.nr_
      simp only [nr, nrs, Bool.and_true]
      rw [nrs_all]
      exact fun d hd => this d (List.mem_of_mem_take hd)
  · rw [List.length_map, linesOf_len] at h0 h1
    have : es.length = m := by omega
    rw [this] at h1
    exact ⟨x5, h1, h2⟩
  · rintro i rr SS d hd ⟨hi, x5, rfl, rfl⟩
    rw [List.getElem?_map] at hd
    obtain ⟨ln, hln, rfl⟩ := Option.map_eq_some_iff.mp hd
    have hie : i < es.length := by
      have := (List.getElem?_eq_some_iff.mp hln).1
      rw [linesOf_len] at this
      exact this
    rw [linesOf_get hie] at hln
    cases hln
    have F := J.ln hie
    have Fl : (lineAt es i).length ≤ 742 := F.len
    have Fo : okS (lineAt es i) = true := F.ok
    refine ⟨_, rfl, ?_⟩
    have hlen : fLen [.str (lineAt es i)] SS = .ok (.int (lineAt es i).length) SS := fLen_str (by omega)
    have ha : fAdd (.str (lineAt es i)) (.str [10]) SS = .ok (.str (lineAt es i ++ [10])) SS := fAdd_str (by simp; omega)
    have cond : ∀ {x : List Nat} {c : Bool}, text.length ≤ 900000 → okS x = true → (∀ lo hi : Int, lo = ((joinN ((linesOf es).take i)).length : Nat) → hi = ((joinN ((linesOf es).take i)).length : Nat) + (lineAt es i).length + 1 → fSl (.str text) (some lo) (some hi) SS = .ok (.str x) SS) → (x == lineAt es i ++ [10]) = c →
        semB { P with fn := run tb P k } (.cmp .ne (.sl (.var 2) (.some (.var 4)) (.some (.bin .add (.bin .add (.var 4) (.blt .len (.cons (.var 5) .nil))) (.int 1)))) (.bin .add (.var 5) (.str [10]))) [some (.ref b), some (.lst ((linesOf es).map .str)), some (.str text), some (.int (i : Nat)), some (.int ((joinN ((linesOf es).take i)).length : Nat)), some (.str (lineAt es i))] SS = .ok (!c) SS := fun {x c} _ ho hs hc => by
      have hne : fNe (.str x) (.str (lineAt es i ++ [10])) SS = .ok (.bl (!c)) SS := by
        rw [fNe_str ho (okS_app Fo (by decide)), hc]
      have hs' := hs _ _ rfl rfl
      simp only [semB, semE, semEs, semO, List.getElem?_cons_zero, List.getElem?_cons_succ, bind_ok, biF, hlen, boF, fAdd_int, ha, coF, hs', hne, toB_bl]
    by_cases him : i = m
    · subst him
      refine ⟨_, _, .inr ⟨ss_brk (s_ifT (cond (x := rest.take ((lineAt es i).length + 1)) (c := false) hbl (okS_of h.ok fun d hd => List.mem_of_mem_take hd) (fun lo hi h1 h2 => ?_) ?_) (ss_brk (by simp only [semS]; rfl))), some (.str (lineAt es i)), rfl, rfl⟩⟩
      · rw [h.t]
        exact sl_take (by rw [← h.t]; omega) h1 (by rw [h2]; omega)
      · rw [beq_eq_false_iff_ne]
        exact h.no hie
    · have hlt : i < m := by omega
      have htk : (linesOf es).take m = (linesOf es).take i ++ (lineAt es i :: ((linesOf es).take m).drop (i + 1)) := by
        have h1 : ((linesOf es).take m)[i]? = some (lineAt es i) := by rw [List.getElem?_take, if_pos hlt, linesOf_get hie]
        obtain ⟨hl1, hl2⟩ := List.getElem?_eq_some_iff.mp h1
        have h2 := (List.take_append_drop i ((linesOf es).take m)).symm
        rw [List.take_take, Nat.min_eq_left (by omega), List.drop_eq_getElem_cons hl1, hl2] at h2
        exact h2
      have htx : text = joinN ((linesOf es).take i) ++ ((lineAt es i ++ [10]) ++ (joinN (((linesOf es).take m).drop (i + 1)) ++ rest)) := by
        have e := h.t
        rw [htk, joinN_app, joinN_cons] at e
        rw [e]
        simp
      have ht2 : (linesOf es).take (i + 1) = (linesOf es).take i ++ [lineAt es i] := take_succ' (linesOf_get hie)
      have hlen2 : (((joinN ((linesOf es).take (i + 1))).length : Nat) : Int) = ((joinN ((linesOf es).take i)).length : Nat) + (lineAt es i).length + 1 := by
        rw [ht2, joinN_app, List.length_append, joinN_cons]
        simp [joinN]
        omega
      refine ⟨[some (.ref b), some (.lst ((linesOf es).map .str)), some (.str text), some (.int ((i + 1 : Nat) : Int)), some (.int ((joinN ((linesOf es).take (i + 1))).length : Nat)), some (.str (lineAt es i))], SS, .inl ⟨.inl (ss_nx (s_if1 (cond (x := lineAt es i ++ [10]) (c := true) hbl (okS_app Fo (by decide)) (fun lo hi h1 h2 => ?_) (by simp))) (ss_nx (s_asg0 (.int ((i + 1 : Nat) : Int)) ?_ rfl) (ss_nx (s_asg0 (.int ((joinN ((linesOf es).take (i + 1))).length : Nat)) ?_ rfl) ss0))), by omega, some (.str (lineAt es i)), rfl, rfl⟩⟩
      · rw [htx]
        exact sl_mid (by rw [← htx]; omega) h1 (by rw [h2, List.length_append, List.length_singleton]; omega)
      · simp only [semE, List.getElem?_cons_zero, List.getElem?_cons_succ, bind_ok, boF, fAdd_int]
        rfl
      · show semE _ _ [some (.ref b), some (.lst ((linesOf es).map .str)), some (.str text), some (.int ((i + 1 : Nat) : Int)), some (.int ((joinN ((linesOf es).take i)).length : Nat)), some (.str (lineAt es i))] SS = _
        rw [hlen2]
        simp only [semE, semEs, List.getElem?_cons_zero, List.getElem?_cons_succ, bind_ok, biF, hlen, boF, fAdd_int]
/-- the text is read as it is due -/
theorem Sh.read {es : List DL.D} {dy : Nat → Int} (J : Jn es dy) {text : List Nat} {m : Nat} {rest : List Nat} (h : Sh es dy text m rest) (k : Nat) (S : Sto) : run tb P (k + 20) 22 [.str text] S = .ok (.tup [.tup (es.take m), .int ((joinN ((linesOf es).take m)).length : Nat)]) S := by
  rw [h.t]
  exact readj_ok k J h.mm h.b (by have := h.l; omega) S
end K37
set_option Elab.async false
set_option linter.all false
set_option maxRecDepth 100000
set_option maxHeartbeats 4000000
/-! NP: lines that are changed. -/
namespace K37
open PySem L2 DL
theorem lsum_ne {n b : Int} {t u : List Nat} (h : sgs 1 t ≠ sgs 1 u) (h2 : (sgs 1 t - sgs 1 u).natAbs < 99991) : lsum n b t ≠ lsum n b u := by
  unfold lsum
  omega
theorem sgs_put {a r : List Nat} {c d : Nat} {k : Int} : sgs k (a ++ c :: r) - sgs k (a ++ d :: r) = (k + a.length) * ((c : Int) - (d : Int)) := by
  rw [sgs_app, sgs_app, sgs, sgs, Int.mul_sub]
  omega
theorem cutC_pre {c : Nat} {t : List Nat} : ∀ {a : List Nat}, c ∉ a → cutC c (a ++ t) = (cutC c t).map fun p => (a ++ p.1, p.2)
  | [], _ => by
    cases h : cutC c t <;> simp [h]
  | d :: a, h => by
    simp only [List.mem_cons, not_or] at h
    rw [List.cons_append, cutC, if_neg (Ne.symm h.1), cutC_pre h.2]
    cases h : cutC c t <;> simp
theorem sp2_head {t a r : List Nat} (h : cutC 32 t = some (a, r)) : (sp2 t).head? = some a := by
  rw [sp2, h]
  dsimp only
  cases cutC 32 r with
  | none => rfl
  | some p => rfl
theorem num5 {s : Int} (h : 0 ≤ s ∧ s < 99991) : (digS s).length ≤ 5 := by
  obtain ⟨n, rfl⟩ : ∃ n : Nat, s = n := ⟨s.toNat, by omega⟩
  rw [digS_nat]
  exact TL.numL_len (by decide) (by omega)
theorem dig_dgs {s : Int} (h : 0 ≤ s) : dgs (digS s) = true := by
  unfold dgs
  rw [List.all_eq_true]
  intro c hc
  have := dig_fig h hc
  simp
  omega
theorem mem_set {l : List Nat} {p x c : Nat} (h : c ∈ l.set p x) : c ∈ l ∨ c = x := List.mem_or_eq_of_mem_set h
theorem set_cut {l : List Nat} {p x : Nat} (h : p < l.length) : l.set p x = l.take p ++ x :: l.drop (p + 1) := by
  rw [List.set_eq_take_append_cons_drop, if_pos h]
theorem brk_sign {i : Nat} {s total day : Int} {t' : List Nat} {p x : Nat} (hi : i < 10) (hs : s = lsum i total (40 :: t')) (ha : asc (40 :: t') = true) (hl : (40 :: t').length ≤ 700) (hx : x < 128) (hp : p < (lineS i s (40 :: t')).length) (hne : (lineS i s (40 :: t')).set p x ≠ lineS i s (40 :: t')) :
    BrkL i total day ((lineS i s (40 :: t')).set p x) := by
  have hsb : 0 ≤ s ∧ s < 99991 := by rw [hs]; exact lsum_lo _ _ _
  have hd5 := num5 hsb
  have n32 : 32 ∉ digS s := dig_no hsb.1 (.inl (by decide))
  have hok : okS ((lineS i s (40 :: t')).set p x) = true := by
    have h1 : okS (lineS i s (40 :: t')) = true := okS_app (dig_ok (by omega)) (okS_cons (by decide) (okS_app (dig_ok hsb.1) (okS_cons (by decide) (asc_ok ha))))
    unfold okS at h1 ⊢
    rw [List.all_eq_true] at h1 ⊢
    intro c hc
    rcases mem_set hc with hc | rfl
    · exact h1 c hc
    · simp
      omega
  have hlen : ((lineS i s (40 :: t')).set p x).length ≤ 1000000 := by
    rw [List.length_set]
    have := line_len (n := i) (by omega) hsb.1 hsb.2 hl
    omega
  have hd : digS (i : Int) = [48 + i] := dig_10 hi
  have e : lineS i s (40 :: t') = (48 + i) :: 32 :: (digS s ++ 32 :: 40 :: t') := by
    rw [lineS, hd]
    rfl
  have n1 : 32 ∉ [48 + i] := by simp; omega
  rw [e] at hp hne hok hlen ⊢
  match p, hp, hne, hok, hlen with
  | 0, hp, hne, hok, hlen =>
    simp only [List.set_cons_zero] at hne hok hlen ⊢
    refine brk_parts (by omega) hok hlen (.inr ?_)
    by_cases h32 : x = 32
    · have h1 : cutC 32 (x :: 32 :: (digS s ++ 32 :: 40 :: t')) = some ([], 32 :: (digS s ++ 32 :: 40 :: t')) := by
        rw [h32]
        simp [cutC]
      rw [sp2_head h1, hd]
      simp
    · have h1 : cutC 32 (x :: 32 :: (digS s ++ 32 :: 40 :: t')) = some ([x], digS s ++ 32 :: 40 :: t') := cutC_app (a := [x]) (by simp; omega)
      rw [sp2_head h1, hd]
      intro h
      cases h
      exact hne rfl
  | 1, hp, hne, hok, hlen =>
    simp only [List.set_cons_succ, List.set_cons_zero] at hne hok hlen ⊢
    have h32 : x ≠ 32 := fun h => hne (by rw [h])
    refine brk_parts (by omega) hok hlen (.inr ?_)
    have h1 : cutC 32 ((48 + i) :: x :: (digS s ++ 32 :: 40 :: t')) = some ((48 + i) :: x :: digS s, 40 :: t') := cutC_app (a := (48 + i) :: x :: digS s) (by simp [n32]; omega)
    rw [sp2_head h1, hd]
    simp
  | p + 2, hp, hne, hok, hlen =>
    simp only [List.set_cons_succ] at hne hok hlen ⊢
    by_cases hq : p < (digS s).length
    · rw [List.set_append, if_pos hq] at hne hok hlen ⊢
      by_cases h32 : x = 32
      · subst h32
        rw [set_cut hq] at hok hlen ⊢
        have e2 : (48 + i) :: 32 :: ((digS s).take p ++ 32 :: (digS s).drop (p + 1) ++ 32 :: 40 :: t') = [48 + i] ++ 32 :: ((digS s).take p ++ 32 :: ((digS s).drop (p + 1) ++ 32 :: 40 :: t')) := by simp
        rw [e2] at hok hlen ⊢
        have hsp := sp2_3 (a := [48 + i]) (b := (digS s).take p) (r := (digS s).drop (p + 1) ++ 32 :: 40 :: t') n1 fun h => n32 (List.mem_of_mem_take h)
        rw [← hd] at hsp hok hlen ⊢
        refine brk_entry (by omega) hok hlen hsp fun m S => ?_
        have hdd : dgs ((digS s).drop (p + 1)) = true := by
          have := dig_dgs hsb.1
          unfold dgs at this ⊢
          rw [List.all_eq_true] at this ⊢
          exact fun c hc => this c (List.mem_of_mem_drop hc)
        obtain ⟨q, hq⟩ := plain_figs (m + 14) (w := (digS s).drop (p + 1)) (p := 40 :: t') (S := S) (by simp at hl ⊢; omega) hdd (by simp; omega)
        exact eo_bad hq
      · have n2 : 32 ∉ (digS s).set p x := fun h => by
          rcases mem_set h with h | h
          · exact n32 h
          · exact h32 h.symm
        have e2 : (48 + i) :: 32 :: ((digS s).set p x ++ 32 :: 40 :: t') = [48 + i] ++ 32 :: ((digS s).set p x ++ 32 :: 40 :: t') := rfl
        rw [e2] at hok hlen ⊢
        have hsp := sp2_3 (a := [48 + i]) (b := (digS s).set p x) (r := 40 :: t') n1 n2
        rw [← hd] at hsp hok hlen ⊢
        refine brk_sum (by omega) hok hlen hsp ?_
        rw [← hs]
        exact fun h => hne (by rw [h])
    · rw [List.set_append, if_neg hq] at hne hok hlen ⊢
      have hp2 : p - (digS s).length < (32 :: 40 :: t').length := by
        simp only [List.length_cons, List.length_append] at hp ⊢
        omega
      match hq2 : p - (digS s).length, hp2, hne, hok, hlen with
      | 0, _, hne, hok, hlen =>
        simp only [List.set_cons_zero] at hne hok hlen ⊢
        have h32 : x ≠ 32 := fun h => hne (by rw [h])
        have e2 : (48 + i) :: 32 :: (digS s ++ x :: 40 :: t') = [48 + i] ++ 32 :: (digS s ++ x :: 40 :: t') := rfl
        have e3 : digS s ++ x :: 40 :: t' = (digS s ++ [x, 40]) ++ t' := by simp
        have n3 : 32 ∉ digS s ++ [x, 40] := by simp [n32]; omega
        have hc := cutC_pre (c := 32) (t := t') n3
        rw [← e3] at hc
        rw [e2, ← hd] at hok hlen ⊢
        cases h : cutC 32 t' with
        | none =>
          rw [h] at hc
          have hsp : sp2 (digS (i : Int) ++ 32 :: (digS s ++ x :: 40 :: t')) = [digS (i : Int), digS s ++ x :: 40 :: t'] := by
            rw [hd]
            exact sp2_2 n1 (cutC_no hc)
          exact brk_parts (by omega) hok hlen (.inl (by rw [hsp]; simp))
        | some q =>
          obtain ⟨u, r⟩ := q
          rw [h] at hc
          obtain ⟨h1, h2⟩ := cutC_some hc
          have hsp : sp2 (digS (i : Int) ++ 32 :: (digS s ++ x :: 40 :: t')) = [digS (i : Int), digS s ++ [x, 40] ++ u, r] := by
            rw [hd, h1]
            exact sp2_3 n1 h2
          refine brk_sum (by omega) hok hlen hsp fun h => ?_
          have : 40 ∈ digS (lsum (i : Nat) total r) := by rw [← h]; simp
          exact dig_no (lsum_lo _ _ _).1 (.inl (by decide)) this
      | q + 1, hp2, hne, hok, hlen =>
        simp only [List.set_cons_succ] at hne hok hlen ⊢
        have e2 : (48 + i) :: 32 :: (digS s ++ 32 :: (40 :: t').set q x) = [48 + i] ++ 32 :: (digS s ++ 32 :: (40 :: t').set q x) := rfl
        rw [e2] at hok hlen ⊢
        have hsp := sp2_3 (a := [48 + i]) (b := digS s) (r := (40 :: t').set q x) n1 n32
        rw [← hd] at hsp hok hlen ⊢
        refine brk_sum (by omega) hok hlen hsp fun h => ?_
        have hne2 : (40 :: t').set q x ≠ 40 :: t' := fun h => hne (by rw [h])
        generalize 40 :: t' = t at *
        have h1 := dig_inj hsb.1 (lsum_lo _ _ _).1 h
        have hqt : q < t.length := by
          simp only [List.length_cons] at hp2
          omega
        have ht : t = t.take q ++ t[q] :: t.drop (q + 1) := by
          rw [← List.drop_eq_getElem_cons hqt, List.take_append_drop]
        have hxq : x ≠ t[q] := fun h => hne2 (by rw [h, List.set_getElem_self])
        have hq128 : t[q] < 128 := by
          unfold asc at ha
          rw [List.all_eq_true] at ha
          simpa using ha _ (List.getElem_mem hqt)
        have key : sgs 1 (t.set q x) - sgs 1 t = (1 + ((t.take q).length : Int)) * ((x : Int) - (t[q] : Int)) := by
          have := sgs_put (a := t.take q) (r := t.drop (q + 1)) (c := x) (d := t[q]) (k := 1)
          rw [← ht, ← set_cut hqt] at this
          exact this
        have hA : (1 + ((t.take q).length : Int)).natAbs ≤ 701 := by
          rw [List.length_take]
          omega
        have hA0 : (1 + ((t.take q).length : Int)) ≠ 0 := by omega
        have hB : ((x : Int) - (t[q] : Int)).natAbs ≤ 128 := by omega
        have hB0 : (x : Int) - (t[q] : Int) ≠ 0 := by omega
        have hmul : ((1 + ((t.take q).length : Int)) * ((x : Int) - (t[q] : Int))).natAbs ≤ 701 * 128 := by
          rw [Int.natAbs_mul]
          exact Nat.mul_le_mul hA hB
        have hm0 : (1 + ((t.take q).length : Int)) * ((x : Int) - (t[q] : Int)) ≠ 0 := Int.mul_ne_zero hA0 hB0
        rw [← key] at hmul hm0
        rw [hs] at h1
        exact lsum_ne (n := (i : Nat)) (b := total) (t := t.set q x) (u := t) (by omega) (by omega) h1.symm
end K37
set_option Elab.async false
set_option linter.all false
set_option maxRecDepth 100000
set_option maxHeartbeats 4000000
/-! NQ: texts whose lines are changed. -/
namespace K37
open PySem L2 DL
def Shx (es : List DL.D) (dy : Nat → Int) (text : List Nat) : Prop := ∃ m rest, Sh es dy text m rest
section
variable {es : List DL.D} {dy : Nat → Int}
theorem lines_ok (J : Jn es dy) {ls : List (List Nat)} (h : ∀ l ∈ ls, l ∈ linesOf es) : okS (joinN ls) = true ∧ (joinN ls).length ≤ 743 * ls.length := by
  refine ⟨?_, joinN_len (c := 742) fun l hl => (J.lines l (h l hl)).1⟩
  induction ls with
  | nil => rfl
  | cons l ls ih =>
    rw [joinN_cons]
    exact okS_app (J.lines l (h l (by simp))).2.1 (okS_cons (by decide) (ih fun x hx => h x (List.mem_cons_of_mem _ hx)))
theorem sh_bad (J : Jn es dy) {m : Nat} (hm : m ≤ es.length) {bad tail : List Nat} (h10 : 10 ∉ bad) (hb : BrkL m (sumAt es m) (rday dy m) bad) (hne : m < es.length → bad ≠ lineAt es m) (ho : okS bad = true) (ht : okS tail = true) (hl : bad.length + tail.length ≤ 300000) :
    Sh es dy (joinN ((linesOf es).take m) ++ (bad ++ 10 :: tail)) m (bad ++ 10 :: tail) :=
  ⟨hm, rfl, .inr ⟨bad, tail, rfl, h10, hb⟩, fun h => cut10_ne h10 (J.ln h).n10 (hne h), okS_app ho (okS_cons (by decide) ht), by simp; omega⟩
theorem sh_end {m : Nat} (hm : m ≤ es.length) {rest : List Nat} (h10 : 10 ∉ rest) (ho : okS rest = true) (hl : rest.length ≤ 300000) :
    Sh es dy (joinN ((linesOf es).take m) ++ rest) m rest :=
  ⟨hm, rfl, .inl h10, fun h => cut10_no h10, ho, by omega⟩
theorem sh_full : Sh es dy (joinN (linesOf es)) es.length [] := by
  have := sh_end (es := es) (dy := dy) (Nat.le_refl es.length) (rest := []) (by simp) rfl (by simp)
  rw [List.take_of_length_le (by rw [linesOf_len]; exact Nat.le_refl _), List.append_nil] at this
  exact this
/-- a line that stands at another number's place -/
theorem brk_num (J : Jn es dy) {j m : Nat} (hj : j < es.length) (hm : m ≤ es.length) (h : j ≠ m) (total day : Int) : BrkL m total day (lineAt es j) := by
  have F := J.ln hj
  have hl := J.len
  refine brk_parts (by omega) F.ok (Nat.le_trans F.len (by decide)) (.inr ?_)
  rw [show sp2 (lineAt es j) = [digS (j : Nat), digS (sumAt es (j + 1)), showD (eAt es j)] from F.sp]
  intro e
  have := dig_inj (by omega) (by omega) (Option.some.inj e)
  omega
theorem line_ne (J : Jn es dy) {j m : Nat} (hj : j < es.length) (hm : m < es.length) (h : j ≠ m) : lineAt es j ≠ lineAt es m := fun e => by
  have h1 : sp2 (lineAt es j) = [digS (j : Nat), digS (sumAt es (j + 1)), showD (eAt es j)] := (J.ln hj).sp
  have h2 : sp2 (lineAt es m) = [digS (m : Nat), digS (sumAt es (m + 1)), showD (eAt es m)] := (J.ln hm).sp
  rw [e, h2] at h1
  have := dig_inj (by omega) (by omega) (List.cons.inj h1).1
  omega
/-- a line of another number behind m right ones -/
theorem sh_num (J : Jn es dy) {j m : Nat} (hj : j < es.length) (hm : m ≤ es.length) (h : j ≠ m) {post : List (List Nat)} (hp : ∀ l ∈ post, l ∈ linesOf es) (hpl : post.length ≤ 20) : Shx es dy (joinN ((linesOf es).take m ++ lineAt es j :: post)) := by
  have F := J.ln hj
  have Fl : (lineAt es j).length ≤ 742 := F.len
  obtain ⟨h1, h2⟩ := lines_ok J hp
  have h3 : 743 * post.length ≤ 743 * 20 := Nat.mul_le_mul_left _ hpl
  rw [joinN_app, joinN_cons]
  exact ⟨_, _, sh_bad J hm F.n10 (brk_num J hj hm h _ _) (fun hm2 => line_ne J hj hm2 h) F.ok h1 (by omega)⟩
theorem drop_lines {i : Nat} (h : i < es.length) : (linesOf es).drop i = lineAt es i :: (linesOf es).drop (i + 1) := by
  have h1 := linesOf_get h
  obtain ⟨h2, h3⟩ := List.getElem?_eq_some_iff.mp h1
  rw [List.drop_eq_getElem_cons h2, h3]
theorem kind0 (J : Jn es dy) {i : Nat} (h : i < es.length) : Shx es dy (joinN ((linesOf es).take i ++ (linesOf es).drop (i + 1))) := by
  by_cases h2 : i + 1 < es.length
  · rw [drop_lines h2]
    exact sh_num J h2 (by omega) (by omega) (fun l hl => List.mem_of_mem_drop hl) (by rw [List.length_drop, linesOf_len]; have := J.len; omega)
  · rw [List.drop_of_length_le (by rw [linesOf_len]; omega), List.append_nil]
    have := sh_end (es := es) (dy := dy) (m := i) (by omega) (rest := []) (by simp) rfl (by simp)
    rw [List.append_nil] at this
    exact ⟨_, _, this⟩
theorem kind1 (J : Jn es dy) {i : Nat} (h : i < es.length) : Shx es dy (joinN ((linesOf es).take (i + 1) ++ (linesOf es).drop i)) := by
  rw [drop_lines h]
  exact sh_num J h (by omega) (by omega) (fun l hl => List.mem_of_mem_drop hl) (by rw [List.length_drop, linesOf_len]; have := J.len; omega)
theorem kind2 (J : Jn es dy) {i : Nat} (h : i + 1 < es.length) : Shx es dy (joinN ((linesOf es).take i ++ [lineAt es (i + 1), lineAt es i] ++ (linesOf es).drop (i + 2))) := by
  rw [List.append_assoc, List.cons_append]
  have hi : i < es.length := by omega
  exact sh_num J h (by omega) (by omega) (fun l hl => by
    rcases List.mem_append.mp hl with hl | hl
    · rw [List.mem_singleton.mp hl]
      exact List.mem_of_getElem? (linesOf_get hi)
    · exact List.mem_of_mem_drop hl) (by rw [List.length_append, List.length_drop, linesOf_len]; have := J.len; simp; omega)
theorem kind34 (J : Jn es dy) {i : Nat} (h : i < es.length) {bad : List Nat} (hb : bad = lineAt es i ∨ (bad ≠ lineAt es i ∧ 10 ∉ bad ∧ okS bad = true ∧ bad.length ≤ 2000 ∧ BrkL i (sumAt es i) (rday dy i) bad)) : Shx es dy (joinN ((linesOf es).take i ++ [bad] ++ (linesOf es).drop (i + 1))) := by
  rcases hb with rfl | ⟨h1, h2, h3, h4, h5⟩
  · rw [List.append_assoc, List.singleton_append, ← drop_lines h, List.take_append_drop]
    exact ⟨_, _, sh_full⟩
  · obtain ⟨q1, q2⟩ := lines_ok J (ls := (linesOf es).drop (i + 1)) fun l hl => List.mem_of_mem_drop hl
    have q3 : 743 * ((linesOf es).drop (i + 1)).length ≤ 743 * 20 := Nat.mul_le_mul_left _ (by rw [List.length_drop, linesOf_len]; have := J.len; omega)
    rw [List.append_assoc, joinN_app, List.singleton_append, joinN_cons]
    exact ⟨_, _, sh_bad J (by omega) h2 h5 (fun _ => h1) h3 q1 (by omega)⟩
theorem cut_join : ∀ (ls : List (List Nat)), (∀ l ∈ ls, 10 ∉ l) → ∀ c : Nat, ∃ m rest, m ≤ ls.length ∧ (joinN ls).take c = joinN (ls.take m) ++ rest ∧ 10 ∉ rest ∧ (∀ x ∈ rest, x ∈ joinN ls) ∧ rest.length ≤ c
  | [], _, c => ⟨0, [], by simp, by simp [joinN], by simp, by simp, by simp⟩
  | l :: ls, h, c => by
    rw [joinN_cons]
    by_cases hc : c ≤ l.length
    · refine ⟨0, l.take c, by simp, ?_, fun hm => h l (by simp) (List.mem_of_mem_take hm), fun x hx => by simp [List.mem_of_mem_take hx], by rw [List.length_take]; omega⟩
      rw [List.take_append_of_le_length hc]
      simp [joinN]
    · obtain ⟨m, rest, h1, h2, h3, h4, h5⟩ := cut_join ls (fun x hx => h x (List.mem_cons_of_mem _ hx)) (c - (l.length + 1))
      refine ⟨m + 1, rest, by simp; omega, ?_, h3, fun x hx => by simp [h4 x hx], by omega⟩
      have e : l ++ 10 :: joinN ls = (l ++ [10]) ++ joinN ls := by simp
      rw [List.take_succ_cons, joinN_cons, e, List.take_append, List.take_of_length_le (by simp; omega), List.length_append, List.length_singleton, h2]
      simp
theorem kcut (J : Jn es dy) (c : Nat) : Shx es dy ((joinN (linesOf es)).take c) := by
  obtain ⟨q1, q2⟩ := lines_ok J (ls := linesOf es) fun l hl => hl
  have q3 : 743 * (linesOf es).length ≤ 743 * 20 := Nat.mul_le_mul_left _ (by rw [linesOf_len]; have := J.len; omega)
  obtain ⟨m, rest, h1, h2, h3, h4, h5⟩ := cut_join (linesOf es) (fun l hl => (J.lines l hl).2.2) (min c (joinN (linesOf es)).length)
  have e : (joinN (linesOf es)).take (min c (joinN (linesOf es)).length) = (joinN (linesOf es)).take c := by
    rw [List.take_eq_take_iff]
    omega
  rw [e] at h2
  rw [h2]
  rw [linesOf_len] at h1
  exact ⟨_, _, sh_end h1 h3 (okS_of q1 h4) (by omega)⟩
/-! ### one line changed -/
theorem single (J : Jn es dy) {i : Nat} (h : i < es.length) : i < 10 := by
  have := J.len
  omega
/-- the line of a number, and what may be put in its place -/
theorem bad_0 (J : Jn es dy) {i : Nat} (h : i < es.length) {b : Nat} (hb : b < 5) {x : List Nat}
    (hx : [48 :: lineAt es i, digS (i : Nat) ++ [32, 32] ++ digS (sumAt es (i + 1)) ++ [32] ++ showD (eAt es i), digS (i : Nat) ++ [32, 48] ++ digS (sumAt es (i + 1)) ++ [32] ++ showD (eAt es i), lineAt es i ++ [32], []][b]? = some x) :
    x ≠ lineAt es i ∧ 10 ∉ x ∧ okS x = true ∧ x.length ≤ 2000 ∧ BrkL i (sumAt es i) (rday dy i) x := by
  have F := J.ln h
  have hs := sum_lo es (i + 1)
  have hi := single J h
  have Fl : (lineAt es i).length ≤ 742 := F.len
  have Fn : 10 ∉ lineAt es i := F.n10
  have Fo : okS (lineAt es i) = true := F.ok
  have n1 : 32 ∉ digS ((i : Nat) : Int) := dig_no (by omega) (.inl (by decide))
  have n2 : 32 ∉ digS (sumAt es (i + 1)) := dig_no hs.1 (.inl (by decide))
  have m1 : 10 ∉ digS ((i : Nat) : Int) := dig_no (by omega) (.inl (by decide))
  have m2 : 10 ∉ digS (sumAt es (i + 1)) := dig_no hs.1 (.inl (by decide))
  have V := J.at_ h
  have V2 := sh_ok V
  have V3 := show_okS V.rv
  have hL : lineAt es i = digS (i : Nat) ++ 32 :: (digS (sumAt es (i + 1)) ++ 32 :: showD (eAt es i)) := rfl
  have l1 := num5 hs
  have l2 := num5 (s := (i : Nat)) (by omega)
  have o1 := dig_ok (i := ((i : Nat) : Int)) (by omega)
  have o2 := dig_ok hs.1
  match b, hb, hx with
  | 0, _, hx =>
    simp only [List.getElem?_cons_zero, Option.some.injEq] at hx
    subst hx
    refine ⟨fun e => ?_, by simp [Fn], okS_cons (by decide) Fo, by simp; omega, ?_⟩
    · have := congrArg List.length e
      simp at this
    · refine brk_parts (by omega) (okS_cons (by decide) Fo) (by simp; omega) (.inr ?_)
      have h1 : cutC 32 (48 :: lineAt es i) = some (48 :: digS (i : Nat), digS (sumAt es (i + 1)) ++ 32 :: showD (eAt es i)) := by
        rw [hL]
        exact cutC_app (a := 48 :: digS (i : Nat)) (by simp [n1])
      rw [sp2_head h1]
      intro e
      have := congrArg List.length (Option.some.inj e)
      simp at this
  | 1, _, hx =>
    simp only [List.getElem?_cons_zero, List.getElem?_cons_succ, Option.some.injEq] at hx
    subst hx
    have hok : okS (digS (i : Nat) ++ [32, 32] ++ digS (sumAt es (i + 1)) ++ [32] ++ showD (eAt es i)) = true := okS_app (okS_app (okS_app (okS_app o1 (by decide)) o2) (by decide)) V3
    have hsp : sp2 (digS (i : Nat) ++ [32, 32] ++ digS (sumAt es (i + 1)) ++ [32] ++ showD (eAt es i)) = [digS (i : Nat), [], digS (sumAt es (i + 1)) ++ 32 :: showD (eAt es i)] := by
      have := sp2_3 (b := []) (r := digS (sumAt es (i + 1)) ++ 32 :: showD (eAt es i)) n1 (by simp)
      rw [← this]
      simp
    refine ⟨fun e => ?_, by simp [m1, m2, V2.2], hok, by simp; omega, brk_sum (by omega) hok (by simp; omega) hsp ?_⟩
    · have := congrArg List.length e
      rw [hL] at this
      simp at this
    · intro e
      exact (num_f (lsum_lo (i : Nat) (sumAt es i) (digS (sumAt es (i + 1)) ++ 32 :: showD (eAt es i))).1 (by have := (lsum_lo (i : Nat) (sumAt es i) (digS (sumAt es (i + 1)) ++ 32 :: showD (eAt es i))); omega)).ne e.symm
  | 2, _, hx =>
    simp only [List.getElem?_cons_zero, List.getElem?_cons_succ, Option.some.injEq] at hx
    subst hx
    have hok : okS (digS (i : Nat) ++ [32, 48] ++ digS (sumAt es (i + 1)) ++ [32] ++ showD (eAt es i)) = true := okS_app (okS_app (okS_app (okS_app o1 (by decide)) o2) (by decide)) V3
    have hsp : sp2 (digS (i : Nat) ++ [32, 48] ++ digS (sumAt es (i + 1)) ++ [32] ++ showD (eAt es i)) = [digS (i : Nat), 48 :: digS (sumAt es (i + 1)), showD (eAt es i)] := by
      have := sp2_3 (b := 48 :: digS (sumAt es (i + 1))) (r := showD (eAt es i)) n1 (by simp [n2])
      rw [← this]
      simp
    refine ⟨fun e => ?_, by simp [m1, m2, V2.2], hok, by simp; omega, brk_sum (by omega) hok (by simp; omega) hsp ?_⟩
    · have := congrArg List.length e
      rw [hL] at this
      simp at this
    · intro e
      have h1 : lsum (i : Nat) (sumAt es i) (showD (eAt es i)) = sumAt es (i + 1) := rfl
      rw [h1] at e
      have := congrArg List.length e
      simp at this
  | 3, _, hx =>
    simp only [List.getElem?_cons_zero, List.getElem?_cons_succ, Option.some.injEq] at hx
    subst hx
    have hok : okS (lineAt es i ++ [32]) = true := okS_app Fo (by decide)
    have hsp : sp2 (lineAt es i ++ [32]) = [digS (i : Nat), digS (sumAt es (i + 1)), showD (eAt es i) ++ [32]] := by
      have := sp2_3 (r := showD (eAt es i) ++ [32]) n1 n2
      rw [← this, hL]
      simp
    refine ⟨fun e => ?_, by simp [Fn], hok, by simp; omega, brk_sum (by omega) hok (by simp; omega) hsp fun e => ?_⟩
    · have := congrArg List.length e
      simp at this
    · have h1 := dig_inj hs.1 (lsum_lo _ _ _).1 e
      have h2 : sumAt es (i + 1) = lsum (i : Nat) (sumAt es i) (showD (eAt es i)) := rfl
      rw [h2] at h1
      have h3 : sgs 1 (showD (eAt es i) ++ [32]) = sgs 1 (showD (eAt es i)) + (1 + ((showD (eAt es i)).length : Int)) * 32 := by
        rw [sgs_snoc]
        rfl
      have h4 := V2.1
      exact lsum_ne (n := (i : Nat)) (b := sumAt es i) (t := showD (eAt es i)) (u := showD (eAt es i) ++ [32]) (by rw [h3]; omega) (by rw [h3]; omega) h1
  | 4, _, hx =>
    simp only [List.getElem?_cons_zero, List.getElem?_cons_succ, Option.some.injEq] at hx
    subst hx
    refine ⟨fun e => ?_, by simp, rfl, by simp, brk_parts (by omega) rfl (by simp) (.inl (by decide))⟩
    rw [hL] at e
    simp at e
theorem bad_sign (J : Jn es dy) {i p x : Nat} (h : i < es.length) (hp : p < (lineAt es i).length) (hx : x < 128) (hx10 : x ≠ 10) : (lineAt es i).take p ++ [x] ++ (lineAt es i).drop (p + 1) = lineAt es i ∨
    ((lineAt es i).take p ++ [x] ++ (lineAt es i).drop (p + 1) ≠ lineAt es i ∧ 10 ∉ (lineAt es i).take p ++ [x] ++ (lineAt es i).drop (p + 1) ∧ okS ((lineAt es i).take p ++ [x] ++ (lineAt es i).drop (p + 1)) = true ∧ ((lineAt es i).take p ++ [x] ++ (lineAt es i).drop (p + 1)).length ≤ 2000 ∧ BrkL i (sumAt es i) (rday dy i) ((lineAt es i).take p ++ [x] ++ (lineAt es i).drop (p + 1))) := by
  have F := J.ln h
  have Fl : (lineAt es i).length ≤ 742 := F.len
  have Fn : 10 ∉ lineAt es i := F.n10
  have Fo : okS (lineAt es i) = true := F.ok
  have e : (lineAt es i).take p ++ [x] ++ (lineAt es i).drop (p + 1) = (lineAt es i).set p x := by
    rw [set_cut hp]
    simp
  rw [e]
  by_cases hq : (lineAt es i).set p x = lineAt es i
  · exact .inl hq
  · refine .inr ⟨hq, fun hm => ?_, ?_, by rw [List.length_set]; omega, ?_⟩
    · rcases mem_set hm with hm | hm
      · exact Fn hm
      · exact hx10 hm.symm
    · unfold okS at Fo ⊢
      rw [List.all_eq_true] at Fo ⊢
      intro c hc
      rcases mem_set hc with hc | rfl
      · exact Fo c hc
      · simp
        omega
    · obtain ⟨ds, hd⟩ := (J.ge i h).tp
      have V := J.at_ h
      have ha := show_asc 6 _ V.rv
      have V2 := V.len
      have hL : lineAt es i = lineS i (sumAt es (i + 1)) (showD (eAt es i)) := rfl
      have hS : sumAt es (i + 1) = lsum i (sumAt es i) (showD (eAt es i)) := rfl
      have h40 : showD (eAt es i) = 40 :: (shows ds ++ [41]) := by rw [hd, showD]
      rw [hL] at hp hq ⊢
      generalize sumAt es (i + 1) = s at *
      rw [h40] at ha V2 hS hp hq ⊢
      exact brk_sign (single J h) hS ha (by omega) hx hp hq
end
end K37
set_option Elab.async false
set_option linter.all false
set_option maxRecDepth 100000
set_option maxHeartbeats 4000000
/-! NR: _law_shifted. -/
namespace K37
open PySem L2 DL
section
variable {S : Sto} {a c : List (List Nat)}
theorem addM (h : a.length + c.length ≤ 1000) : fAdd (.lst (a.map .str)) (.lst (c.map .str)) S = .ok (.lst ((a ++ c).map .str)) S := by
  rw [fAdd_lst (by simp; omega), List.map_append]
theorem toM (i : Nat) : fSl (.lst (a.map .str)) none (some (i : Int)) S = .ok (.lst ((a.take i).map .str)) S := by
  rw [slL_to, List.map_take]
theorem fromM (i : Nat) : fSl (.lst (a.map .str)) (some (i : Int)) none S = .ok (.lst ((a.drop i).map .str)) S := by
  rw [slL_from, List.map_drop]
theorem ixM {i : Nat} {x : List Nat} (h : a[i]? = some x) : fIx (.lst (a.map .str)) (.int (i : Nat)) S = .ok (.str x) S := by
  rw [fIx_lst, at_nat, List.getElem?_map, h]
  rfl
theorem lenM : fLen [.lst (a.map .str)] S = .ok (.int (a.length : Nat)) S := by
  rw [fLen_lst, List.length_map]
end
def shif : Sm := match a_law_shifted_u with
  | .cons _ (.cons _ (.cons _ (.cons i _))) => i
  | _ => .hole
theorem addS {s t : List Nat} (h : s.length + t.length ≤ 1000000) {S : Sto} : fAdd (.str s) (.str t) S = .ok (.str (s ++ t)) S := fAdd_str h
theorem sl_to {S : Sto} {w : List Nat} (h : w.length ≤ 1000000) (k : Nat) : fSl (.str w) none (some (k : Int)) S = .ok (.str (w.take k)) S := by
  unfold fSl
  simp only [vw_str, h, if_true, cut_to]
theorem shifs_ok (k : Nat) {es : List DL.D} {dy : Nat → Int} (J : Jn es dy) {i : Nat} (hi : i < es.length) {v : Int} (h0 : 0 ≤ v) (h9 : v < 9) {S : Sto} {b : Nat} (hB : Bx S b) :
    ∃ ls S3 x7 x8, semS shif { P with fn := run tb P (k + 2) } [some (.ref b), some (.lst ((linesOf es).map .str)), some (.int (i : Nat)), some (.int v), some (.lst ((sp2 (lineAt es i)).map .str)), none, none, none, none] S
      = .nx [some (.ref b), some (.lst (ls.map .str)), some (.int (i : Nat)), some (.int v), some (.lst ((sp2 (lineAt es i)).map .str)), none, none, x7, x8] S3 ∧ Bs S S3 b ∧ (v = 5 ∨ v = 6 → ls = linesOf es) ∧ Shx es dy (joinN ls) ∧ ls.length ≤ 20 ∧ ∀ l ∈ ls, l.length ≤ 2000 := by
  have hl8 := J.len
  have F := J.ln hi
  have Fl : (lineAt es i).length ≤ 742 := F.len
  have hsp : sp2 (lineAt es i) = [digS (i : Nat), digS (sumAt es (i + 1)), showD (eAt es i)] := F.sp
  have hL : ∀ l ∈ linesOf es, l.length ≤ 2000 := fun l hl => Nat.le_trans (J.lines l hl).1 (by decide)
  have hLn := linesOf_len es
  have hx := linesOf_get hi
  have hRefl := Bs.refl hB
  have fT : ∀ (S : Sto) (j : Nat), fSl (.lst ((linesOf es).map .str)) none (some (j : Int)) S = .ok (.lst (((linesOf es).take j).map .str)) S := fun S j => toM j
  have fF : ∀ (S : Sto) (j : Nat), fSl (.lst ((linesOf es).map .str)) (some (j : Int)) none S = .ok (.lst (((linesOf es).drop j).map .str)) S := fun S j => fromM j
  have fT1 : ∀ (S : Sto), fSl (.lst ((linesOf es).map .str)) none (some ((i : Int) + 1)) S = .ok (.lst (((linesOf es).take (i + 1)).map .str)) S := fun S => toM (i + 1)
  have fF1 : ∀ (S : Sto), fSl (.lst ((linesOf es).map .str)) (some ((i : Int) + 1)) none S = .ok (.lst (((linesOf es).drop (i + 1)).map .str)) S := fun S => fromM (i + 1)
  have fF2 : ∀ (S : Sto), fSl (.lst ((linesOf es).map .str)) (some ((i : Int) + 2)) none S = .ok (.lst (((linesOf es).drop (i + 2)).map .str)) S := fun S => fromM (i + 2)
  have fX : ∀ (S : Sto), fIx (.lst ((linesOf es).map .str)) (.int (i : Nat)) S = .ok (.str (lineAt es i)) S := fun S => ixM hx
  have hLl : ∀ j, ((linesOf es).take j).length ≤ 8 ∧ ((linesOf es).drop j).length ≤ 8 := fun j => by
    rw [List.length_take, List.length_drop, hLn]
    omega
  have mT : ∀ j, ∀ l ∈ (linesOf es).take j, l.length ≤ 2000 := fun j l hl => hL l (List.mem_of_mem_take hl)
  have mD : ∀ j, ∀ l ∈ (linesOf es).drop j, l.length ≤ 2000 := fun j l hl => hL l (List.mem_of_mem_drop hl)
  have cnd : ∀ c : Int, semB { P with fn := run tb P (k + 2) } (.cmp .eq (.var 3) (.int c)) [some (.ref b), some (.lst ((linesOf es).map .str)), some (.int (i : Nat)), some (.int v), some (.lst ((sp2 (lineAt es i)).map .str)), none, none, none, none] S = .ok (v == c) S := fun c => by
    simp only [semB, semE, List.getElem?_cons_zero, List.getElem?_cons_succ, bind_ok, coF, fEq_int, toB_bl]
  have cT : ∀ c : Int, v = c → semB { P with fn := run tb P (k + 2) } (.cmp .eq (.var 3) (.int c)) [some (.ref b), some (.lst ((linesOf es).map .str)), some (.int (i : Nat)), some (.int v), some (.lst ((sp2 (lineAt es i)).map .str)), none, none, none, none] S = .ok true S := fun c hc => by rw [cnd, hc]; simp
  have cF : ∀ c : Int, v ≠ c → semB { P with fn := run tb P (k + 2) } (.cmp .eq (.var 3) (.int c)) [some (.ref b), some (.lst ((linesOf es).map .str)), some (.int (i : Nat)), some (.int v), some (.lst ((sp2 (lineAt es i)).map .str)), none, none, none, none] S = .ok false S := fun c hc => by
    have : (v == c) = false := by rw [beq_eq_false_iff_ne]; exact hc
    rw [cnd, this]
  have l2 : semB { P with fn := run tb P (k + 2) } (.and (.cons (.cmp .eq (.var 3) (.int 2)) (.cons (.cmp .lt (.bin .add (.var 2) (.int 1)) (.blt .len (.cons (.var 1) .nil))) .nil))) [some (.ref b), some (.lst ((linesOf es).map .str)), some (.int (i : Nat)), some (.int v), some (.lst ((sp2 (lineAt es i)).map .str)), none, none, none, none] S = .ok (v == 2 && decide (i + 1 < es.length)) S := by
    have e1 := cnd 2
    have e2 : semB { P with fn := run tb P (k + 2) } (.cmp .lt (.bin .add (.var 2) (.int 1)) (.blt .len (.cons (.var 1) .nil))) [some (.ref b), some (.lst ((linesOf es).map .str)), some (.int (i : Nat)), some (.int v), some (.lst ((sp2 (lineAt es i)).map .str)), none, none, none, none] S = .ok (decide (i + 1 < es.length)) S := by
      have : (decide ((i : Int) + 1 < ((linesOf es).length : Nat))) = decide (i + 1 < es.length) := by
        rw [hLn]
        congr 1
        rw [eq_iff_iff]
        omega
      simp only [semB, semE, semEs, List.getElem?_cons_zero, List.getElem?_cons_succ, bind_ok, boF, fAdd_int, biF, lenM, coF, fLt_int, toB_bl, this]
    rw [semB]
    dsimp only
    rw [semAll]
    dsimp only
    rw [e1]
    cases v == 2 with
    | false => rfl
    | true =>
      simp only [bind_ok, if_true]
      rw [semAll]
      dsimp only
      rw [e2]
      simp only [bind_ok, Bool.true_and]
      cases decide (i + 1 < es.length) <;> simp [semAll]
  by_cases k0 : v = 0
  · refine ⟨(linesOf es).take i ++ (linesOf es).drop (i + 1), S, none, none, s_ifT (cT 0 k0) (ss_nx (s_asg0 (.lst (((linesOf es).take i ++ (linesOf es).drop (i + 1)).map .str)) ?_ rfl) ss0), hRefl, by omega, kind0 J hi, by have := hLl i; have := hLl (i + 1); rw [List.length_append]; omega, fun l hl => ?_⟩
    · simp only [semE, semO, List.getElem?_cons_zero, List.getElem?_cons_succ, bind_ok, boF, fAdd_int, fT, fF1]
      rw [addM (by have := hLl i; have := hLl (i + 1); omega)]
    · rcases List.mem_append.mp hl with hl | hl
      · exact mT _ l hl
      · exact mD _ l hl
  by_cases k1 : v = 1
  · refine ⟨(linesOf es).take (i + 1) ++ (linesOf es).drop i, S, none, none, s_ifF (cF 0 k0) (ss_nx (s_ifT (cT 1 k1) (ss_nx (s_asg0 (.lst (((linesOf es).take (i + 1) ++ (linesOf es).drop i).map .str)) ?_ rfl) ss0)) ss0), hRefl, by omega, kind1 J hi, by have := hLl i; have := hLl (i + 1); rw [List.length_append]; omega, fun l hl => ?_⟩
    · simp only [semE, semO, List.getElem?_cons_zero, List.getElem?_cons_succ, bind_ok, boF, fAdd_int, fT1, fF]
      rw [addM (by have := hLl i; have := hLl (i + 1); omega)]
    · rcases List.mem_append.mp hl with hl | hl
      · exact mT _ l hl
      · exact mD _ l hl
  by_cases k2 : v = 2 ∧ i + 1 < es.length
  · have hx1 := linesOf_get k2.2
    have fX1 : ∀ (S : Sto), fIx (.lst ((linesOf es).map .str)) (.int ((i : Int) + 1)) S = .ok (.str (lineAt es (i + 1))) S := fun S => ixM (i := i + 1) hx1
    have a1 : fAdd (.lst (((linesOf es).take i).map .str)) (.lst [.str (lineAt es (i + 1)), .str (lineAt es i)]) S = .ok (.lst (((linesOf es).take i ++ [lineAt es (i + 1), lineAt es i]).map .str)) S := addM (c := [lineAt es (i + 1), lineAt es i]) (by have := hLl i; simp; omega)
    refine ⟨(linesOf es).take i ++ [lineAt es (i + 1), lineAt es i] ++ (linesOf es).drop (i + 2), S, none, none, s_ifF (cF 0 k0) (ss_nx (s_ifF (cF 1 k1) (ss_nx (s_ifT ?_ (ss_nx (s_asg0 (.lst (((linesOf es).take i ++ [lineAt es (i + 1), lineAt es i] ++ (linesOf es).drop (i + 2)).map .str)) ?_ rfl) ss0)) ss0)) ss0), hRefl, by omega, kind2 J k2.2, by have := hLl i; have := hLl (i + 2); simp only [List.length_append, List.length_cons, List.length_nil]; omega, fun l hl => ?_⟩
    · rw [l2, k2.1]
      simp [k2.2]
    · simp only [semE, semO, semEs, List.getElem?_cons_zero, List.getElem?_cons_succ, bind_ok, boF, fAdd_int, fT, fF2, fX, fX1, a1]
      rw [addM (by have := hLl i; have := hLl (i + 2); simp only [List.length_append, List.length_cons, List.length_nil]; omega)]
    · rcases List.mem_append.mp hl with hl | hl
      · rcases List.mem_append.mp hl with hl | hl
        · exact mT _ l hl
        · have h1 : (lineAt es (i + 1)).length ≤ 742 := (J.ln k2.2).len
          simp only [List.mem_cons, List.not_mem_nil, or_false] at hl
          rcases hl with rfl | rfl <;> omega
      · exact mD _ l hl
  have c2 : semB { P with fn := run tb P (k + 2) } (.and (.cons (.cmp .eq (.var 3) (.int 2)) (.cons (.cmp .lt (.bin .add (.var 2) (.int 1)) (.blt .len (.cons (.var 1) .nil))) .nil))) [some (.ref b), some (.lst ((linesOf es).map .str)), some (.int (i : Nat)), some (.int v), some (.lst ((sp2 (lineAt es i)).map .str)), none, none, none, none] S = .ok false S := by
    rw [l2]
    congr 1
    by_cases hv : v = 2
    · have : ¬ i + 1 < es.length := fun h => k2 ⟨hv, h⟩
      simp [this]
    · have : (v == 2) = false := by rw [beq_eq_false_iff_ne]; exact hv
      rw [this]
      rfl
  have fin : ∀ (bad : List Nat) (S3 : Sto), bad.length ≤ 2000 → (((linesOf es).take i ++ [bad] ++ (linesOf es).drop (i + 1)).length ≤ 20 ∧ ∀ l ∈ (linesOf es).take i ++ [bad] ++ (linesOf es).drop (i + 1), l.length ≤ 2000) := fun bad S3 hb => by
    refine ⟨by have := hLl i; have := hLl (i + 1); simp only [List.length_append, List.length_cons, List.length_nil]; omega, fun l hl => ?_⟩
    rcases List.mem_append.mp hl with hl | hl
    · rcases List.mem_append.mp hl with hl | hl
      · exact mT _ l hl
      · rw [List.mem_singleton.mp hl]
        exact hb
    · exact mD _ l hl
  have a2 : ∀ (bad : List Nat) (S : Sto), fAdd (.lst (((linesOf es).take i).map .str)) (.lst [.str bad]) S = .ok (.lst (((linesOf es).take i ++ [bad]).map .str)) S := fun bad S => addM (c := [bad]) (by have := hLl i; simp; omega)
  have a3 : ∀ (bad : List Nat) (S : Sto), fAdd (.lst (((linesOf es).take i ++ [bad]).map .str)) (.lst (((linesOf es).drop (i + 1)).map .str)) S = .ok (.lst (((linesOf es).take i ++ [bad] ++ (linesOf es).drop (i + 1)).map .str)) S := fun bad S => addM (by have := hLl i; have := hLl (i + 1); simp only [List.length_append, List.length_cons, List.length_nil]; omega)
  by_cases k3 : v = 3
  · have ld := num5 (s := (i : Nat)) (by omega)
    have ls := num5 (sum_lo es (i + 1))
    have lv := (J.at_ hi).len
    obtain ⟨y, S3, hy, hb, hr⟩ := pick_ok k (S := S) (b := b) (ds := [48 :: lineAt es i, digS (i : Nat) ++ [32, 32] ++ digS (sumAt es (i + 1)) ++ [32] ++ showD (eAt es i), digS (i : Nat) ++ [32, 48] ++ digS (sumAt es (i + 1)) ++ [32] ++ showD (eAt es i), lineAt es i ++ [32], []].map DL.D.str) hB (by simp) (nrs_strs _)
    obtain ⟨bad, hbad, rfl⟩ := List.mem_map.mp hy
    obtain ⟨j, hj⟩ := List.getElem?_of_mem hbad
    have hj5 : j < 5 := by
      have := (List.getElem?_eq_some_iff.mp hj).1
      simpa using this
    have B0 := bad_0 J hi hj5 hj
    have w0 : ∀ S, fIx (.lst ((sp2 (lineAt es i)).map .str)) (.int 0) S = .ok (.str (digS (i : Nat))) S := fun S => by rw [hsp]; rfl
    have w1 : ∀ S, fIx (.lst ((sp2 (lineAt es i)).map .str)) (.int 1) S = .ok (.str (digS (sumAt es (i + 1)))) S := fun S => by rw [hsp]; rfl
    have w2 : ∀ S, fIx (.lst ((sp2 (lineAt es i)).map .str)) (.int 2) S = .ok (.str (showD (eAt es i))) S := fun S => by rw [hsp]; rfl
    have b1 : ∀ S, fAdd (.str [48]) (.str (lineAt es i)) S = .ok (.str (48 :: lineAt es i)) S := fun S => addS (by simp; omega)
    have b2 : ∀ S, fAdd (.str (digS (i : Nat))) (.str [32, 32]) S = .ok (.str (digS (i : Nat) ++ [32, 32])) S := fun S => addS (by simp; omega)
    have b3 : ∀ S, fAdd (.str (digS (i : Nat) ++ [32, 32])) (.str (digS (sumAt es (i + 1)))) S = .ok (.str (digS (i : Nat) ++ [32, 32] ++ digS (sumAt es (i + 1)))) S := fun S => addS (by simp; omega)
    have b4 : ∀ S, fAdd (.str (digS (i : Nat) ++ [32, 32] ++ digS (sumAt es (i + 1)))) (.str [32]) S = .ok (.str (digS (i : Nat) ++ [32, 32] ++ digS (sumAt es (i + 1)) ++ [32])) S := fun S => addS (by simp; omega)
    have b5 : ∀ S, fAdd (.str (digS (i : Nat) ++ [32, 32] ++ digS (sumAt es (i + 1)) ++ [32])) (.str (showD (eAt es i))) S = .ok (.str (digS (i : Nat) ++ [32, 32] ++ digS (sumAt es (i + 1)) ++ [32] ++ showD (eAt es i))) S := fun S => addS (by simp; omega)
    have d2 : ∀ S, fAdd (.str (digS (i : Nat))) (.str [32, 48]) S = .ok (.str (digS (i : Nat) ++ [32, 48])) S := fun S => addS (by simp; omega)
    have d3 : ∀ S, fAdd (.str (digS (i : Nat) ++ [32, 48])) (.str (digS (sumAt es (i + 1)))) S = .ok (.str (digS (i : Nat) ++ [32, 48] ++ digS (sumAt es (i + 1)))) S := fun S => addS (by simp; omega)
    have d4 : ∀ S, fAdd (.str (digS (i : Nat) ++ [32, 48] ++ digS (sumAt es (i + 1)))) (.str [32]) S = .ok (.str (digS (i : Nat) ++ [32, 48] ++ digS (sumAt es (i + 1)) ++ [32])) S := fun S => addS (by simp; omega)
    have d5 : ∀ S, fAdd (.str (digS (i : Nat) ++ [32, 48] ++ digS (sumAt es (i + 1)) ++ [32])) (.str (showD (eAt es i))) S = .ok (.str (digS (i : Nat) ++ [32, 48] ++ digS (sumAt es (i + 1)) ++ [32] ++ showD (eAt es i))) S := fun S => addS (by simp; omega)
    have b6 : ∀ S, fAdd (.str (lineAt es i)) (.str [32]) S = .ok (.str (lineAt es i ++ [32])) S := fun S => addS (by simp; omega)
    obtain ⟨f1, f2⟩ := fin bad S3 B0.2.2.2.1
    have hr' : run tb P (k + 2) 31 [.ref b, .lst [.str (48 :: lineAt es i), .str (digS (i : Nat) ++ [32, 32] ++ digS (sumAt es (i + 1)) ++ [32] ++ showD (eAt es i)), .str (digS (i : Nat) ++ [32, 48] ++ digS (sumAt es (i + 1)) ++ [32] ++ showD (eAt es i)), .str (lineAt es i ++ [32]), .str []]] S = .ok (.str bad) S3 := hr
    refine ⟨(linesOf es).take i ++ [bad] ++ (linesOf es).drop (i + 1), S3, none, none, s_ifF (cF 0 k0) (ss_nx (s_ifF (cF 1 k1) (ss_nx (s_ifF c2 (ss_nx (s_ifT (cT 3 k3) (ss_nx (s_asg (d := .lst (((linesOf es).take i ++ [bad] ++ (linesOf es).drop (i + 1)).map .str)) (S2 := S3) ?_ rfl) ss0)) ss0)) ss0)) ss0), hb, by omega, kind34 J hi (.inr B0), f1, f2⟩
    simp only [semE, semO, semEs, List.getElem?_cons_zero, List.getElem?_cons_succ, bind_ok, boF, fAdd_int, fT, fF1, fX, w0, w1, w2, b1, b2, b3, b4, b5, b6, d2, d3, d4, d5, hr', a2, a3]
  by_cases k4 : v = 4
  · obtain ⟨p, S3, p0, p9, hb3, hr3⟩ := draw_ok (k + 1) (many := 900) hB (by decide)
    have hB3 := hb3.bx hB
    have hne : 0 < (lineAt es i).length := by
      show 0 < (lineS _ _ _).length
      simp [lineS]
      omega
    obtain ⟨q, hq⟩ : ∃ q : Nat, p % ((lineAt es i).length : Int) = (q : Nat) := ⟨(p % ((lineAt es i).length : Int)).toNat, by have := Int.emod_nonneg p (b := ((lineAt es i).length : Int)) (by omega); omega⟩
    have hql : q < (lineAt es i).length := by
      have := Int.emod_lt_of_pos p (b := ((lineAt es i).length : Int)) (by omega)
      omega
    obtain ⟨y, S4, hy, hb4, hr4⟩ := pick_ok k (S := S3) (b := b) (ds := [48, 49, 55, 32, 112].map fun c : Nat => DL.D.str [c]) hB3 (by simp) rfl
    obtain ⟨x, hx2, rfl⟩ := List.mem_map.mp hy
    have hx128 : x < 128 ∧ x ≠ 10 := by
      simp only [List.mem_cons, List.not_mem_nil, or_false] at hx2
      omega
    have B4 := bad_sign J hi hql hx128.1 hx128.2
    have hr4' : run tb P (k + 2) 31 [.ref b, .lst [.str [48], .str [49], .str [55], .str [32], .str [112]]] S3 = .ok (.str [x]) S4 := hr4
    have bl : ((lineAt es i).take q ++ [x] ++ (lineAt es i).drop (q + 1)).length ≤ 2000 := by
      simp
      omega
    obtain ⟨f1, f2⟩ := fin _ S4 bl
    have hlen : ∀ S, fLen [.str (lineAt es i)] S = .ok (.int (lineAt es i).length) S := fun S => fLen_str (by omega)
    have hmod : ∀ S, fMod (.int p) (.int ((lineAt es i).length : Nat)) S = .ok (.int (q : Nat)) S := fun S => by rw [fMod_int (by omega), hq]
    have s1 : ∀ S, fSl (.str (lineAt es i)) none (some (q : Int)) S = .ok (.str ((lineAt es i).take q)) S := fun S => sl_to (by omega) q
    have s2 : ∀ S, fSl (.str (lineAt es i)) (some ((q : Int) + 1)) none S = .ok (.str ((lineAt es i).drop (q + 1))) S := fun S => sl_from (by omega) (q + 1)
    have b1 : ∀ S, fAdd (.str ((lineAt es i).take q)) (.str [x]) S = .ok (.str ((lineAt es i).take q ++ [x])) S := fun S => addS (by simp; omega)
    have b2 : ∀ S, fAdd (.str ((lineAt es i).take q ++ [x])) (.str ((lineAt es i).drop (q + 1))) S = .ok (.str ((lineAt es i).take q ++ [x] ++ (lineAt es i).drop (q + 1))) S := fun S => addS (by simp; omega)
    refine ⟨(linesOf es).take i ++ [(lineAt es i).take q ++ [x] ++ (lineAt es i).drop (q + 1)] ++ (linesOf es).drop (i + 1), S4, some (.int (q : Nat)), some (.str [x]), s_ifF (cF 0 k0) (ss_nx (s_ifF (cF 1 k1) (ss_nx (s_ifF c2 (ss_nx (s_ifF (cF 3 k3) (ss_nx (s_ifT (cT 4 k4) (ss_nx (s_asg (d := .int (q : Nat)) (S2 := S3) ?_ rfl) (ss_nx (s_asg (d := .str [x]) (S2 := S4) ?_ rfl) (ss_nx (s_asg0 (.lst (((linesOf es).take i ++ [(lineAt es i).take q ++ [x] ++ (lineAt es i).drop (q + 1)] ++ (linesOf es).drop (i + 1)).map .str)) ?_ rfl) ss0)))) ss0)) ss0)) ss0)) ss0), hb3.trans hb4, by omega, kind34 J hi B4, f1, f2⟩
    · simp only [semE, semEs, List.getElem?_cons_zero, List.getElem?_cons_succ, bind_ok, boF, biF, hr3, fInt_int, fX, hlen, hmod]
    · show semE _ _ [some (.ref b), some (.lst ((linesOf es).map .str)), some (.int (i : Nat)), some (.int v), some (.lst ((sp2 (lineAt es i)).map .str)), none, none, some (.int (q : Nat)), none] S3 = _
      simp only [semE, semEs, List.getElem?_cons_zero, List.getElem?_cons_succ, bind_ok, hr4']
    · show semE _ _ [some (.ref b), some (.lst ((linesOf es).map .str)), some (.int (i : Nat)), some (.int v), some (.lst ((sp2 (lineAt es i)).map .str)), none, none, some (.int (q : Nat)), some (.str [x])] S4 = _
      simp only [semE, semO, semEs, List.getElem?_cons_zero, List.getElem?_cons_succ, bind_ok, boF, fAdd_int, fT, fF1, fX, s1, s2, b1, b2, a2, a3]
  · exact ⟨linesOf es, S, none, none, s_ifF (cF 0 k0) (ss_nx (s_ifF (cF 1 k1) (ss_nx (s_ifF c2 (ss_nx (s_ifF (cF 3 k3) (ss_nx (s_if1 (cF 4 k4)) ss0)) ss0)) ss0)) ss0), hRefl, fun _ => rfl, ⟨_, _, sh_full⟩, by rw [hLn]; omega, hL⟩
end K37
set_option Elab.async false
set_option linter.all false
set_option maxRecDepth 100000
set_option maxHeartbeats 4000000
/-! NS: lines joined; a text shifted; a line told. -/
namespace K37
open PySem L2 DL
theorem joinN_flat (ls : List (List Nat)) : (ls.map fun l => l ++ [10]).flatten = joinN ls := by
  rw [joinN, List.flatMap_def]
theorem fm_nl : ∀ ls : List (List Nat), (ls.map DL.D.str).filterMap (fun d => match d with
    | .str s => some (DL.D.str (s ++ [10]))
    | _ => none) = (ls.map fun l => l ++ [10]).map .str
  | [] => rfl
  | l :: ls => by
    rw [List.map_cons, List.filterMap_cons]
    simp only [List.map_cons]
    rw [fm_nl ls]
theorem sum_nl : ∀ {ls : List (List Nat)}, (∀ l ∈ ls, l.length ≤ 2000) → ((ls.map fun l => l ++ [10]).map (·.length)).sum ≤ 2001 * ls.length
  | [], _ => by simp
  | l :: ls, h => by
    have h1 := h l (by simp)
    have ih := sum_nl (ls := ls) fun x hx => h x (List.mem_cons_of_mem _ hx)
    simp only [List.map_cons, List.sum_cons, List.length_append, List.length_singleton, List.length_nil, List.length_cons, Nat.mul_add]
    omega
/-- "".join([line + "\n" for line in e]) -/
theorem join_nl {Q : Par} {r : DL.Loc} {S : Sto} {j : Nat} {e : Ex} {ls : List (List Nat)} (hj : j < r.length) (he : semE Q e r S = .ok (.lst (ls.map .str)) S) (hl : ls.length ≤ 100) (h : ∀ l ∈ ls, l.length ≤ 2000) :
    semE Q (.mth .join (.str []) (.cons (.comp false [j] (.bin .add (.var j) (.str [10])) (.name j) (.plain e) .none) .nil)) r S = .ok (.str (joinN ls)) S := by
  have hI : semI Q (.plain e) r S = .ok (ls.map .str, none) S := by
    simp only [semI, he, bind_ok, walk]
  have eC : ∀ (g' : DL.D → Sto → Re (Option DL.D)) (f : DL.D → Option DL.D), (∀ d ∈ ls.map DL.D.str, g' d S = .ok (f d) S) → compG none g' (ls.map DL.D.str) S = .ok ((ls.map DL.D.str).filterMap f) S := fun g' f hg => compG_map (gd := none) trivial hg
  have ec : semE Q (.comp false [j] (.bin .add (.var j) (.str [10])) (.name j) (.plain e) .none) r S = .ok (.lst ((ls.map fun l => l ++ [10]).map .str)) S := by
    simp only [semE, hI, bind_ok]
    rw [if_pos (by rw [List.length_map]; omega), eC _ (fun d => match d with
      | .str s => some (DL.D.str (s ++ [10]))
      | _ => none)]
    · rw [fm_nl]
      simp [pushD]
    · intro d hd
      obtain ⟨l, hm, rfl⟩ := List.mem_map.mp hd
      have hll := h l hm
      have ha : fAdd (.str l) (.str [10]) S = .ok (.str (l ++ [10])) S := addS (by simp; omega)
      have hg : ((wipeL r [j]).set j (some (.str l)))[j]? = some (some (.str l)) := List.getElem?_set_self (by simp [wipeL]; exact hj)
      simp only [asg, semC, bind_ok, if_true, semE, hg, boF, ha]
      rfl
  have hs := sum_nl h
  have hj2 : fJoin (.str []) [.lst ((ls.map fun l => l ++ [10]).map .str)] S = .ok (.str (joinN ls)) S := by
    unfold fJoin
    dsimp only
    rw [vw_lst]
    dsimp only
    rw [strs_map]
    dsimp only
    rw [if_pos (by simp only [List.length_nil, Nat.mul_zero]; omega), join_nil, joinN_flat]
  have e0 : semE Q (.str []) r S = .ok (.str []) S := by simp only [semE]
  have e1 : mtOk .join (.str []) S = true := rfl
  rw [semE]
  dsimp only
  rw [e0]
  simp only [bind_ok, e1, if_true, semEs]
  rw [ec]
  simp only [bind_ok, mtF, hj2]
theorem shifted_ok (k : Nat) {es : List DL.D} {dy : Nat → Int} (J : Jn es dy) (hne : 0 < es.length) {S : Sto} {b : Nat} (hB : Bx S b) :
    ∃ text S2, Shx es dy text ∧ Bs S S2 b ∧ run tb P (k + 3) 37 [.ref b, .lst ((linesOf es).map .str)] S = .ok (.str text) S2 := by
  have hl8 := J.len
  have hLn := linesOf_len es
  obtain ⟨v1, S1, p1, q1, hb1, r1⟩ := draw_ok (k + 1) (many := 900) hB (by decide)
  have hB1 := hb1.bx hB
  obtain ⟨v2, S2, p2, q2, hb2, r2⟩ := draw_ok (k + 1) (many := 9) hB1 (by decide)
  have hB2 := hb2.bx hB1
  have hpos : (0 : Int) < ((linesOf es).length : Nat) := by rw [hLn]; omega
  obtain ⟨i, hi⟩ : ∃ i : Nat, v1 % ((linesOf es).length : Int) = (i : Nat) := ⟨(v1 % ((linesOf es).length : Int)).toNat, by have := Int.emod_nonneg v1 (b := ((linesOf es).length : Int)) (by omega); omega⟩
  have hil : i < es.length := by
    have := Int.emod_lt_of_pos v1 hpos
    omega
  obtain ⟨ls, S3, x7, x8, e3, hb3, h56, hsh, hls, hll⟩ := shifs_ok k J hil p2 q2 hB2
  have hB3 := hb3.bx hB2
  have hb : Bs S S3 b := (hb1.trans hb2).trans hb3
  have F := J.ln hil
  have hx := linesOf_get hil
  have fX : fIx (.lst ((linesOf es).map .str)) (.int (i : Nat)) S2 = .ok (.str (lineAt es i)) S2 := ixM hx
  have hsp := splitMax_ok (t := lineAt es i) (Nat.le_trans F.len (by decide)) (S := S2)
  have hmod : ∀ S, fMod (.int v1) (.int ((linesOf es).length : Nat)) S = .ok (.int (i : Nat)) S := fun S => by rw [fMod_int hpos, hi]
  have start : ∀ {x : Rs}, semSs (match a_law_shifted_u with
      | .cons _ (.cons _ (.cons _ (.cons _ (.cons _ r)))) => r
      | _ => .nil) { P with fn := run tb P (k + 2) } [some (.ref b), some (.lst (ls.map .str)), some (.int (i : Nat)), some (.int v2), some (.lst ((sp2 (lineAt es i)).map .str)), some (.str (joinN ls)), none, x7, x8] S3 = x →
      semSs a_law_shifted_u { P with fn := run tb P (k + 2) } [some (.ref b), some (.lst ((linesOf es).map .str)), none, none, none, none, none, none, none] S = x := fun {x} hx => by
    refine ss_nx (s_asg (d := .int (i : Nat)) (S2 := S1) ?_ rfl) (ss_nx (s_asg (d := .int v2) (S2 := S2) ?_ rfl) (ss_nx (s_asg0 (.lst ((sp2 (lineAt es i)).map .str)) ?_ rfl) (ss_nx e3 (ss_nx (s_asg0 (.str (joinN ls)) ?_ rfl) hx))))
    · simp only [semE, semEs, List.getElem?_cons_zero, List.getElem?_cons_succ, bind_ok, boF, biF, r1, fInt_int, lenM, hmod]
    · show semE _ _ [some (.ref b), some (.lst ((linesOf es).map .str)), some (.int (i : Nat)), none, none, none, none, none, none] S1 = _
      simp only [semE, semEs, List.getElem?_cons_zero, List.getElem?_cons_succ, bind_ok, r2]
    · show semE _ _ [some (.ref b), some (.lst ((linesOf es).map .str)), some (.int (i : Nat)), some (.int v2), none, none, none, none, none] S2 = _
      simp only [semE, semEs, List.getElem?_cons_zero, List.getElem?_cons_succ, bind_ok, fX, mtOk_str, mtT, beq_self_eq_true, if_true, mtF, hsp]
    · exact join_nl (by simp) (by simp only [semE, List.getElem?_cons_zero, List.getElem?_cons_succ]) (by omega) hll
  have hjl : (joinN ls).length ≤ 100000 := by
    have := joinN_len (c := 2000) hll
    have h3 : 2001 * ls.length ≤ 2001 * 20 := Nat.mul_le_mul_left _ hls
    omega
  by_cases k5 : v2 = 5
  · have hLs := h56 (.inl k5)
    subst hLs
    obtain ⟨v4, S4, p4, q4, hb4, r4⟩ := draw_ok (k + 1) (many := 900) hB3 (by decide)
    obtain ⟨c, hc⟩ : ∃ c : Nat, v4 % (((joinN (linesOf es)).length : Int) + 1) = (c : Nat) := ⟨(v4 % (((joinN (linesOf es)).length : Int) + 1)).toNat, by have := Int.emod_nonneg v4 (b := (((joinN (linesOf es)).length : Int) + 1)) (by omega); omega⟩
    refine ⟨(joinN (linesOf es)).take c, S4, kcut J c, hb.trans hb4, run_of (d := d_37) (x := .ret (.str ((joinN (linesOf es)).take c)) S4) rfl rfl (start (ss_ret (s_ifT ?_ (ss_ret (s_ret ?_))))) ((hb.trans hb4).fin rfl)⟩
    · rw [k5]
      simp only [semB, semE, List.getElem?_cons_zero, List.getElem?_cons_succ, bind_ok, coF, fEq_int, toB_bl]
      rfl
    · have hlen : ∀ S, fLen [.str (joinN (linesOf es))] S = .ok (.int (joinN (linesOf es)).length) S := fun S => fLen_str (by omega)
      have hm2 : ∀ S, fMod (.int v4) (.int (((joinN (linesOf es)).length : Int) + 1)) S = .ok (.int (c : Nat)) S := fun S => by rw [fMod_int (by omega), hc]
      have s1 : ∀ S, fSl (.str (joinN (linesOf es))) none (some (c : Int)) S = .ok (.str ((joinN (linesOf es)).take c)) S := fun S => sl_to (by omega) c
      simp only [semE, semO, semEs, List.getElem?_cons_zero, List.getElem?_cons_succ, bind_ok, boF, biF, r4, fInt_int, hlen, fAdd_int, hm2, s1]
  have c5 : semB { P with fn := run tb P (k + 2) } (.cmp .eq (.var 3) (.int 5)) [some (.ref b), some (.lst (ls.map .str)), some (.int (i : Nat)), some (.int v2), some (.lst ((sp2 (lineAt es i)).map .str)), some (.str (joinN ls)), none, x7, x8] S3 = .ok false S3 := by
    have : (v2 == 5) = false := by rw [beq_eq_false_iff_ne]; exact k5
    simp only [semB, semE, List.getElem?_cons_zero, List.getElem?_cons_succ, bind_ok, coF, fEq_int, toB_bl, this]
  by_cases k6 : v2 = 6
  · have hLs := h56 (.inr k6)
    subst hLs
    refine ⟨(joinN (linesOf es)).take ((joinN (linesOf es)).length - 1), S3, kcut J _, hb, run_of (d := d_37) (x := .ret (.str ((joinN (linesOf es)).take ((joinN (linesOf es)).length - 1))) S3) rfl rfl (start (ss_nx (s_if1 c5) (ss_ret (s_ifT ?_ (ss_ret (s_ret0 ?_)))))) (hb.fin rfl)⟩
    · rw [k6]
      simp only [semB, semE, List.getElem?_cons_zero, List.getElem?_cons_succ, bind_ok, coF, fEq_int, toB_bl]
      rfl
    · have s1 : fSl (.str (joinN (linesOf es))) none (some (-1)) S3 = .ok (.str ((joinN (linesOf es)).take ((joinN (linesOf es)).length - 1))) S3 := by
        unfold fSl
        simp only [vw_str]
        rw [if_pos (by omega), cut_init, List.dropLast_eq_take]
      simp only [semE, semO, List.getElem?_cons_zero, List.getElem?_cons_succ, bind_ok, fNeg_int, s1]
  · refine ⟨joinN ls, S3, hsh, hb, run_of (d := d_37) (x := .ret (.str (joinN ls)) S3) rfl rfl (start (ss_nx (s_if1 c5) (ss_nx (s_if1 ?_) (ss_ret (s_ret0 ?_))))) (hb.fin rfl)⟩
    · have : (v2 == 6) = false := by rw [beq_eq_false_iff_ne]; exact k6
      simp only [semB, semE, List.getElem?_cons_zero, List.getElem?_cons_succ, bind_ok, coF, fEq_int, toB_bl, this]
    · simp only [semE, List.getElem?_cons_zero, List.getElem?_cons_succ]
/-- journal_line -/
theorem jline_ok (k : Nat) {n : Nat} {before : Int} {d : DL.D} (V : Vd d) (hn : n ≤ 1000) (S : Sto) : run tb P (k + 8) 20 [.int (n : Nat), .int before, d] S = .ok (.str (lineS n (lsum n before (showD d)) (showD d) ++ [10])) S := by
  have hs := V.show_ k S
  have hl := V.len
  have hu := linesum_ok (k + 6) (text := showD d) (by omega) (n : Nat) before (S := S)
  have hb := lsum_lo (n : Nat) before (showD d)
  have l1 := num_l (i := ((n : Nat) : Int)) (by omega) (by omega)
  have l2 := num5 hb
  have f1 : fFmt (.int (n : Nat)) S = .ok (.str (digS (n : Nat))) S := fFmt_i (by omega)
  have f2 : fFmt (.int (lsum n before (showD d))) S = .ok (.str (digS (lsum n before (showD d)))) S := fFmt_i (by omega)
  have f3 : fFmt (.str (showD d)) S = .ok (.str (showD d)) S := if_pos (by omega)
  have fc : fCat [digS (n : Nat), [32], digS (lsum n before (showD d)), [32], showD d, [10]] S = .ok (.str (lineS n (lsum n before (showD d)) (showD d) ++ [10])) S := by
    unfold fCat
    rw [if_pos (by simp; omega)]
    simp [lineS]
  refine run_of (d := d_20) rfl rfl (ss_nx (s_asg0 (.str (showD d)) ?_ rfl) (ss_ret (s_ret0 (d := .str (lineS n (lsum n before (showD d)) (showD d) ++ [10])) ?_))) (fin_pl rfl)
  · show semE _ _ [some (.int (n : Nat)), some (.int before), some d, none] S = _
    simp only [semE, semEs, List.getElem?_cons_zero, List.getElem?_cons_succ, bind_ok, hs]
  · show semE _ _ [some (.int (n : Nat)), some (.int before), some d, some (.str (showD d))] S = _
    have o1 : (digS ((n : Nat) : Int)).length ≤ 100000 := by omega
    have o2 : (digS (lsum n before (showD d))).length ≤ 100000 := by omega
    have o3 : (showD d).length ≤ 100000 := by omega
    have o4 : ([32] : List Nat).length ≤ 100000 := by decide
    have o5 : ([10] : List Nat).length ≤ 100000 := by decide
    simp only [semE, semJ, semEs, List.getElem?_cons_zero, List.getElem?_cons_succ, bind_ok, f1, f2, f3, hu, o1, o2, o3, o4, o5, if_true, fc]
end K37
set_option Elab.async false
set_option linter.all false
set_option maxRecDepth 100000
set_option maxHeartbeats 4000000
/-! NT: the entries of a turn. -/
namespace K37
open PySem L2 DL
noncomputable abbrev QQ : Par := { P with fn := run tb P 30 }
theorem Bx.lt {S : Sto} {b : Nat} (h : Bx S b) : b < S.length := by
  obtain ⟨dg, a, e⟩ := h
  exact (List.getElem?_eq_some_iff.mp e).1
theorem Bx.app {S T : Sto} {b : Nat} (h : Bx S b) : Bx (S ++ T) b := by
  obtain ⟨dg, a, e⟩ := h
  exact ⟨dg, a, by rw [List.getElem?_append_left (List.getElem?_eq_some_iff.mp e).1, e]⟩
/-- the box is drawn from, other things stand -/
theorem Bx.step {U X S2 : Sto} (hB : Bx U 0) (h : Bs (U ++ X) S2 0) : ∃ U2, S2 = U2 ++ X ∧ Bx U2 0 ∧ U2.length = U.length := by
  obtain ⟨U2, rfl, h2⟩ := h.app hB.lt
  exact ⟨U2, rfl, h2.bx hB, h2.len⟩
theorem drawA {U X : Sto} {many : Int} (hB : Bx U 0) (hm : 0 < many) : ∃ v U2, 0 ≤ v ∧ v < many ∧ Bx U2 0 ∧ U2.length = U.length ∧ run tb P 30 30 [.ref 0, .int many] (U ++ X) = .ok (.int v) (U2 ++ X) := by
  obtain ⟨v, S2, h0, h1, hb, hr⟩ := draw_ok 29 (hB.app (T := X)) hm
  obtain ⟨U2, rfl, h2, h3⟩ := hB.step hb
  exact ⟨v, U2, h0, h1, h2, h3, hr⟩
theorem eAt_end {es : List DL.D} {d : DL.D} : eAt (es ++ [d]) es.length = d := by simp [eAt]
theorem Jn.nil (day : Int) (h : 0 ≤ day ∧ day ≤ 100) : Jn [] (fun _ => day) := ⟨by simp, fun i hi => absurd hi (by simp), fun _ => Int.le_refl _, fun _ => h⟩
theorem Jn.snoc {es : List DL.D} {dy : Nat → Int} {day day2 : Int} {d : DL.D} (J : Jn es dy) (C : ∀ j, es.length ≤ j + 1 → dy j = day) (hl : es.length < 8) (h1 : day ≤ day2) (h2 : 0 ≤ day2 ∧ day2 ≤ 100) (G : GE (decide (es.length = 0)) day2 d) :
    Jn (es ++ [d]) (fun j => if j < es.length then dy j else day2) := by
  refine ⟨by simp; omega, fun i hi => ?_, fun i => ?_, fun i => ?_⟩
  · by_cases h : i < es.length
    · rw [eAt_app h]
      simp only [h, if_true]
      exact J.ge i h
    · have : i = es.length := by simp at hi; omega
      subst this
      rw [eAt_end]
      simp only [Nat.lt_irrefl, if_false]
      exact G
  · by_cases h : i + 1 < es.length
    · rw [if_pos (by omega), if_pos h]
      exact J.mono i
    · rw [if_neg h]
      by_cases h3 : i < es.length
      · rw [if_pos h3, C i (by omega)]
        exact h1
      · rw [if_neg h3]
        exact Int.le_refl _
  · split
    · exact J.rg i
    · exact h2
def lwbody : Sms := match a_law with
  | .cons _ (.cons (.forr _ _ b) _) => b
  | _ => .nil
def enbody : Sms := match lwbody with
  | .cons _ (.cons _ (.cons (.forr _ _ b) _)) => b
  | _ => .nil
/-- the entries so far -/
structure En (L i : Nat) (U : Sto) (es : List DL.D) (dy : Nat → Int) (day : Int) : Prop where
  j : Jn es dy
  c : ∀ j, es.length ≤ j + 1 → dy j = day
  l : es.length = i
  d : 0 ≤ day ∧ day ≤ 8 + 2 * i
  b : Bx U 0
  u : U.length = L
theorem En.get {L i : Nat} {U : Sto} {es : List DL.D} {dy : Nat → Int} {day : Int} (h : En L i U es dy day) : (U ++ [.lst es])[L]? = some (.lst es) := by
  rw [← h.u]
  simp
theorem entries_ok (L n : Nat) (hn : n ≤ 7) {U : Sto} {day : Int} (hU : En L 0 U [] (fun _ => day) day) (x0 x2 x5 x6 x7 x8 x9 x10 x11 : Option DL.D) :
    ∃ U2 es dy day2 y5, En L n U2 es dy day2 ∧ forG none (.name 5) (semSs enbody QQ) (rangeD 0 n) [x0, some (.ref 0), x2, some (.ref L), some (.int day), x5, x6, x7, x8, x9, x10, x11] (U ++ [.lst []])
      = .nx [x0, some (.ref 0), x2, some (.ref L), some (.int day2), y5, x6, x7, x8, x9, x10, x11] (U2 ++ [.lst es]) := by
  have key := forG_inv (gd := none) (t := .name 5) (its := rangeD 0 n) (b := semSs enbody QQ) (r := [x0, some (.ref 0), x2, some (.ref L), some (.int day), x5, x6, x7, x8, x9, x10, x11]) (S := U ++ [.lst []])
    (fun i rr SS => ∃ U es dy day y5, En L i U es dy day ∧ rr = [x0, some (.ref 0), x2, some (.ref L), some (.int day), y5, x6, x7, x8, x9, x10, x11] ∧ SS = U ++ [.lst es])
    ⟨U, [], _, day, x5, hU, rfl, rfl⟩ (fun _ _ _ _ _ => trivial) ?_
  · obtain ⟨r3, S3, e, U2, es, dy, day2, y5, h1, rfl, rfl⟩ := key
    rw [rangeD_length] at h1
    exact ⟨U2, es, dy, day2, y5, h1, e⟩
  · rintro i rr SS dd hd ⟨V, es, dy, dv, y5, E, rfl, rfl⟩
    obtain ⟨hi, rfl⟩ := range_item hd
    obtain ⟨v, V2, p, q, hB2, hl2, hr⟩ := drawA (X := [.lst es]) (many := 3) E.b (by decide)
    have hd2 : 0 ≤ dv + v ∧ dv + v ≤ 100 := by have := E.d; omega
    obtain ⟨en, S3, hbs, hr3, hnr, hG⟩ := lentry_ok 28 (S := V2 ++ [.lst es]) (b := 0) (at_ := i) (day := dv + v) hB2.app hd2 (by omega)
    obtain ⟨V3, rfl, hB3, hl3⟩ := hB2.step hbs
    have hV2 : V2.length = L := by rw [hl2, E.u]
    have hV3 : V3.length = L := by rw [hl3, hV2]
    have g2 : (V2 ++ [Ob.lst es])[L]? = some (.lst es) := by rw [← hV2]; simp
    have g3 : (V3 ++ [Ob.lst es])[L]? = some (.lst es) := by rw [← hV3]; simp
    have s3 : (V3 ++ [Ob.lst es]).set L (.lst (es ++ [en])) = V3 ++ [.lst (es ++ [en])] := by rw [← hV3]; exact set_end
    have hle : es.length < 1000000 := by have := E.l; omega
    refine ⟨_, rfl, _, V3 ++ [.lst (es ++ [en])], .inl (ss_nx (s_asg (d := .int (dv + v)) (S2 := V2 ++ [.lst es]) ?_ rfl) (ss_nx (s_expr (d := .non) ?_) ss0)), V3, es ++ [en], (fun j => if j < es.length then dy j else dv + v), dv + v, some (.int (i : Nat)), ⟨E.j.snoc E.c (by have := E.l; omega) (by omega) hd2 (by rw [E.l]; exact hG), fun j hj => ?_, by rw [List.length_append, E.l]; rfl, by have := E.d; omega, hB3, hV3⟩, rfl, rfl⟩
    · show semE _ _ [x0, some (.ref 0), x2, some (.ref L), some (.int dv), some (.int (i : Nat)), x6, x7, x8, x9, x10, x11] _ = _
      simp only [semE, semEs, List.getElem?_cons_zero, List.getElem?_cons_succ, bind_ok, boF, hr, fAdd_int]
    · show semE _ _ [x0, some (.ref 0), x2, some (.ref L), some (.int (dv + v)), some (.int (i : Nat)), x6, x7, x8, x9, x10, x11] _ = _
      simp only [semE, semEs, List.getElem?_cons_zero, List.getElem?_cons_succ, bind_ok, mtOk_ref, g2, mtT, beq_self_eq_true, if_true, hr3, mtF, fAppend_ref, g3, hle, s3]
    · rw [List.length_append, List.length_singleton] at hj
      rw [if_neg (by omega)]
/-! ### what is told is like what is due -/
mutual
theorem pv_pln : ∀ (n : Nat) (d : DL.D) (m : Nat), pvD n d = true → pln (n + m) d = true
  | n, .non, m, _ => by cases h : n + m <;> rfl
  | n, .bl _, m, _ => by cases h : n + m <;> rfl
  | n, .int i, m, h => by cases h : n + m <;> rfl
  | n, .str s, m, h => by
    have h : (s.all okc && decide (s.length ≤ 200)) = true := by cases n <;> exact h
    simp only [Bool.and_eq_true, decide_eq_true_eq] at h
    have ho : okS s = true := by
      unfold okS
      have h1 := h.1
      rw [List.all_eq_true] at h1 ⊢
      intro c hc
      have := h1 c hc
      unfold okc at this
      simp at this ⊢
      omega
    have hl : s.length ≤ 1000000 := by omega
    cases q : n + m <;> simp [pln, ho, hl]
  | n + 1, .tup ds, m, h => by
    rw [show n + 1 + m = (n + m) + 1 by omega]
    simp only [pvD, Bool.and_eq_true, decide_eq_true_eq] at h
    simp only [pln, Bool.and_eq_true, decide_eq_true_eq]
    exact ⟨by omega, pvs_pln n ds m h.1⟩
  | 0, .tup ds, m, h => by simp [pvD] at h
  | 0, .lst _, m, h => by simp [pvD] at h
  | n + 1, .lst _, m, h => by simp [pvD] at h
  | 0, .ref _, m, h => by simp [pvD] at h
  | n + 1, .ref _, m, h => by simp [pvD] at h
  | 0, .fn _, m, h => by simp [pvD] at h
  | n + 1, .fn _, m, h => by simp [pvD] at h
  | 0, .scr _, m, h => by simp [pvD] at h
  | n + 1, .scr _, m, h => by simp [pvD] at h
  | 0, .exn _ _ _ _, m, h => by simp [pvD] at h
  | n + 1, .exn _ _ _ _, m, h => by simp [pvD] at h
theorem pvs_pln : ∀ (n : Nat) (ds : List DL.D) (m : Nat), pvs n ds = true → plns (n + m) ds = true
  | n, [], m, _ => by cases h : n + m <;> rfl
  | n, d :: ds, m, h => by
    simp only [pvs, Bool.and_eq_true] at h
    simp only [plns, Bool.and_eq_true]
    exact ⟨pv_pln n d m h.1, pvs_pln n ds m h.2⟩
end
theorem Vd.pl {d : DL.D} (h : Vd d) : pln 27 d = true := pv_pln 6 d 21 (rv_pv 6 d h.rv)
theorem pln_ret {es : List DL.D} {i : Int} (h : ∀ d ∈ es, Vd d) (hl : es.length ≤ 1000) : pln 29 (.tup [.tup es, .int i]) = true := by
  have h1 : plns 27 es = true := plns_all.mpr fun d hd => (h d hd).pl
  have h2 : es.length ≤ 1000000 := by omega
  simp [pln, plns, h1, h2]
theorem s_notCall {Q : Par} {f : Nat} {es : Exs} {r : DL.Loc} {S S2 : Sto} (h : semE Q (.call f es) r S = .ok (.bl true) S2) : semB Q (.not (.call f es)) r S = .ok false S2 := by
  rw [semB]
  have e : semB Q (.call f es) r S = (semE Q (.call f es) r S).bind truD := by simp only [semB, semE]
  dsimp only
  rw [e, h]
  rfl
theorem like_if {A B : Ex} {d : DL.D} {r : DL.Loc} {S : Sto} {b : Sms} (hA : semE QQ A r S = .ok d S) (hB : semE QQ B r S = .ok d S) (hp : pln 29 d = true) : semS (.ifs (.not (.call 32 (.cons A (.cons B .nil)))) b .nil) QQ r S = .nx r S := by
  have hl := like_self S 29 d hp
  refine s_if1 (s_notCall ?_)
  rw [semE]
  simp only [semEs]
  rw [hA]
  simp only [bind_ok]
  rw [hB]
  simp only [bind_ok, hl]
/-! ### the words of a line -/
theorem line_w {n : Nat} {s : Int} {t : List Nat} (hs : 0 ≤ s) : splC 32 (lineS n s t) = digS (n : Nat) :: digS s :: splC 32 t := by
  rw [lineS, splC_app (dig_no (by omega) (.inl (by decide))), splC_app (dig_no hs (.inl (by decide)))]
theorem int_dig {s : Int} (h : 0 ≤ s ∧ s < 99991) {S : Sto} : fInt [.str (digS s)] S = .ok (.int s) S := by
  have f := num_f h.1 (by omega)
  have hb : bare (digS s) = digS s := by
    unfold bare
    rw [if_neg]
    intro e
    have := dig_fig h.1 (List.mem_of_mem_head? e)
    omega
  have := int_of (w := digS s) (S := S) (by rw [hb]; exact f.dg) (by rw [hb]; exact f.ne) (by rw [hb]; have := f.len; omega)
  rw [this, f.val]
def nbody : Sms := match lwbody with
  | .cons _ (.cons _ (.cons _ (.cons _ (.cons _ (.cons (.forr _ _ b) _))))) => b
  | _ => .nil
theorem loopn_ok {es : List DL.D} {dy : Nat → Int} (J : Jn es dy) {S : Sto} {e : Nat} (hS : S[e]? = some (.lst es)) (x0 x1 x2 x4 x5 x8 x9 x10 x11 : Option DL.D) :
    ∃ y7 y8, forG none (.name 8) (semSs nbody QQ) (rangeD 0 es.length) [x0, x1, x2, some (.ref e), x4, x5, some (.lst ((linesOf es).map .str)), some (.int 0), x8, x9, x10, x11] S
      = .nx [x0, x1, x2, some (.ref e), x4, x5, some (.lst ((linesOf es).map .str)), y7, y8, x9, x10, x11] S := by
  have hl8 := J.len
  have key := forG_inv (gd := none) (t := .name 8) (its := rangeD 0 es.length) (b := semSs nbody QQ) (r := [x0, x1, x2, some (.ref e), x4, x5, some (.lst ((linesOf es).map .str)), some (.int 0), x8, x9, x10, x11]) (S := S)
    (fun i rr SS => ∃ y8, rr = [x0, x1, x2, some (.ref e), x4, x5, some (.lst ((linesOf es).map .str)), some (.int (sumAt es i)), y8, x9, x10, x11] ∧ SS = S)
    ⟨x8, rfl, rfl⟩ (fun _ _ _ _ _ => trivial) ?_
  · obtain ⟨r3, S3, e3, y8, rfl, rfl⟩ := key
    exact ⟨_, y8, e3⟩
  · rintro i rr SS dd hd ⟨y8, rfl, rfl⟩
    obtain ⟨hi, rfl⟩ := range_item hd
    have V := J.at_ hi
    have F := J.ln hi
    have Fl : (lineAt es i).length ≤ 742 := F.len
    have Fo : okS (lineAt es i) = true := F.ok
    have hjl := jline_ok 22 (n := i) (before := sumAt es i) V (by omega) SS
    have hx : fIx (.ref e) (.int (i : Nat)) SS = .ok (eAt es i) SS := by
      have := (show Sq SS (.ref e) es from .inr ⟨e, rfl, hS⟩).ix (T := []) hi
      rw [List.append_nil] at this
      exact this
    have hxl : fIx (.lst ((linesOf es).map .str)) (.int (i : Nat)) SS = .ok (.str (lineAt es i)) SS := ixM (linesOf_get hi)
    have ha : fAdd (.str (lineAt es i)) (.str [10]) SS = .ok (.str (lineAt es i ++ [10])) SS := addS (by simp; omega)
    have hsp := fSplit_ok (c := 32) (by decide) (x := lineAt es i) (by omega) (S := SS)
    have hw : splC 32 (lineAt es i) = digS (i : Nat) :: digS (sumAt es (i + 1)) :: splC 32 (showD (eAt es i)) := line_w (sum_lo es (i + 1)).1
    have hw1 : fIx (.lst ((splC 32 (lineAt es i)).map .str)) (.int 1) SS = .ok (.str (digS (sumAt es (i + 1)))) SS := by
      rw [hw]
      exact ixM (i := 1) rfl
    have hin := int_dig (sum_lo es (i + 1)) (S := SS)
    refine ⟨_, rfl, _, SS, .inl (ss_nx (like_if (d := .str (lineAt es i ++ [10])) ?_ ?_ ?_) (ss_nx (s_asg0 (.int (sumAt es (i + 1))) ?_ rfl) ss0)), some (.int (i : Nat)), rfl, rfl⟩
    · show semE _ _ [x0, x1, x2, some (.ref e), x4, x5, some (.lst ((linesOf es).map .str)), some (.int (sumAt es i)), some (.int (i : Nat)), x9, x10, x11] _ = _
      simp only [semE, semEs, List.getElem?_cons_zero, List.getElem?_cons_succ, bind_ok, hx, hjl]
      rfl
    · show semE _ _ [x0, x1, x2, some (.ref e), x4, x5, some (.lst ((linesOf es).map .str)), some (.int (sumAt es i)), some (.int (i : Nat)), x9, x10, x11] _ = _
      simp only [semE, semEs, List.getElem?_cons_zero, List.getElem?_cons_succ, bind_ok, hxl, boF, ha]
    · have : okS (lineAt es i ++ [10]) = true := okS_app Fo (by decide)
      have h2 : (lineAt es i ++ [10]).length ≤ 1000000 := by simp; omega
      simp only [pln, this, h2, decide_true, Bool.and_self]
    · show semE _ _ [x0, x1, x2, some (.ref e), x4, x5, some (.lst ((linesOf es).map .str)), some (.int (sumAt es i)), some (.int (i : Nat)), x9, x10, x11] _ = _
      simp only [semE, semEs, List.getElem?_cons_zero, List.getElem?_cons_succ, bind_ok, hxl, mtOk_str, mtT, beq_self_eq_true, if_true, mtF, hsp, hw1, biF, hin]
end K37
set_option Elab.async false
set_option linter.all false
set_option maxRecDepth 100000
set_option maxHeartbeats 400000
/-! NU: a turn of the law. -/
namespace K37
open PySem L2 DL
theorem wrong_brk {es : List DL.D} {dy : Nat → Int} {day : Int} (J : Jn es dy) (C : ∀ j, es.length ≤ j + 1 → dy j = day) (hpos : 0 < es.length) {w : DL.D} (h : GW 0 w ∨ (2 ≤ es.length ∧ GW day w)) :
    Vd w ∧ BrkL es.length (sumAt es es.length) (rday dy es.length) (lineAt (es ++ [w]) es.length) ∧ LnF es.length (sumAt (es ++ [w]) (es.length + 1)) (showD w) := by
  have hl := J.len
  have V : Vd w := by
    rcases h with h | ⟨_, h⟩
    · exact ⟨h.rv, h.sz⟩
    · exact ⟨h.rv, h.sz⟩
  have hs := sum_lo (es ++ [w]) (es.length + 1)
  have F := V.ln (n := es.length) (by omega) hs
  have hL : lineAt (es ++ [w]) es.length = lineS es.length (sumAt (es ++ [w]) (es.length + 1)) (showD w) := by
    rw [lineAt, eAt_end]
  have hnf : decide (es.length = 0) = false := decide_eq_false (by omega)
  have hr0 : 0 ≤ rday dy es.length := by
    unfold rday
    split
    · exact Int.le_refl 0
    · exact (J.rg _).1
  refine ⟨V, ?_, F⟩
  rw [hL]
  have two : ∀ {dd : Int} {ww : DL.D} {r : List DL.D}, (∀ (m : Nat) (S : Sto), run tb P (m + 18) 24 [.str (showD w), .bl false] S = .ok w S) → w = .tup (ww :: .int dd :: r) → dd < rday dy es.length → BrkL es.length (sumAt es es.length) (rday dy es.length) (lineS es.length (sumAt (es ++ [w]) (es.length + 1)) (showD w)) := fun {dd ww r} h1 h2 h3 => by
    refine brk_day (dd := dd) (w := ww) (r := r) hpos (by omega) F.ok (Nat.le_trans F.len (by decide)) F.sp (fun m S => ?_) h3
    rw [← h2]
    exact h1 m S
  have one : (∀ (m : Nat) (S : Sto), run tb P (m + 18) 24 [.str (showD w), .bl false] S = .ok .non S) → BrkL es.length (sumAt es es.length) (rday dy es.length) (lineS es.length (sumAt (es ++ [w]) (es.length + 1)) (showD w)) := fun h1 =>
    brk_entry (by omega) F.ok (Nat.le_trans F.len (by decide)) F.sp (fun m S => by rw [hnf]; exact h1 m S)
  rcases h with h | ⟨h2, h⟩
  · rcases h.eo with h1 | ⟨h1, ww, r, dd, e, hd⟩
    · exact one h1
    · exact two h1 e (by omega)
  · rcases h.eo with h1 | ⟨h1, ww, r, dd, e, hd⟩
    · exact one h1
    · refine two h1 e ?_
      unfold rday
      rw [if_neg (by omega), C _ (by omega)]
      exact hd
/-! ### a turn, part by part -/
section
variable {L n : Nat} {U : Sto} {es : List DL.D} {dy : Nat → Int} {day t : Int} {x0 x5 x7 x8 x9 x10 x11 : Option DL.D}
theorem fAdd_r {S : Sto} {b : Nat} {ds es : List DL.D} (h : S[b]? = some (.lst ds)) (hl : ds.length + es.length ≤ 1000) : fAdd (.ref b) (.lst es) S = .ok (.lst (ds ++ es)) S := by
  unfold fAdd
  simp only [vw_ref h, vw_lst]
  rw [if_pos (by omega)]
theorem fLen_r {S : Sto} {b : Nat} {ds : List DL.D} (h : S[b]? = some (.lst ds)) : fLen [.ref b] S = .ok (.int ds.length) S := by
  rw [fLen_ref, h]
/-- the rest of a turn's statements -/
def tl3 : Sms := match lwbody with
  | .cons _ (.cons _ (.cons _ r)) => r
  | _ => .nil
def tl6 : Sms := match lwbody with
  | .cons _ (.cons _ (.cons _ (.cons _ (.cons _ (.cons _ r))))) => r
  | _ => .nil
def tl8 : Sms := match lwbody with
  | .cons _ (.cons _ (.cons _ (.cons _ (.cons _ (.cons _ (.cons _ (.cons _ r))))))) => r
  | _ => .nil
def tl10 : Sms := match lwbody with
  | .cons _ (.cons _ (.cons _ (.cons _ (.cons _ (.cons _ (.cons _ (.cons _ (.cons _ (.cons _ r))))))))) => r
  | _ => .nil
def tl12 : Sms := match lwbody with
  | .cons _ (.cons _ (.cons _ (.cons _ (.cons _ (.cons _ (.cons _ (.cons _ (.cons _ (.cons _ (.cons _ (.cons _ r))))))))))) => r
  | _ => .nil
theorem seg2 (E : En L n U es dy day) (hn : 0 < n) : ∃ (text : List Nat) (U2 : Sto), En L n U2 es dy day ∧ semSs tl6 QQ [x0, some (.ref 0), some (.int t), some (.ref L), some (.int day), x5, some (.lst ((linesOf es).map .str)), x7, x8, x9, x10, x11] (U ++ [.lst es]) = semSs tl8 QQ [x0, some (.ref 0), some (.int t), some (.ref L), some (.int day), x5, some (.lst ((linesOf es).map .str)), x7, x8, some (.str text), x10, x11] (U2 ++ [.lst es]) := by
  have J := E.j
  obtain ⟨text, S2, ⟨m, rest, hsh⟩, hbs, hr⟩ := shifted_ok 27 J (by rw [E.l]; exact hn) (E.b.app (T := [.lst es]))
  obtain ⟨U2, rfl, hB2, hl2⟩ := E.b.step hbs
  have E2 : En L n U2 es dy day := ⟨E.j, E.c, E.l, E.d, hB2, by rw [hl2, E.u]⟩
  have g2 := E2.get
  have hrd := hsh.read J 10 (U2 ++ [.lst es])
  have hdu := due_ok 29 J hsh g2
  have e1 : semS (.asg (.name 9) (.call 37 (.cons (.var 1) (.cons (.var 6) .nil)))) QQ [x0, some (.ref 0), some (.int t), some (.ref L), some (.int day), x5, some (.lst ((linesOf es).map .str)), x7, x8, x9, x10, x11] (U ++ [.lst es]) = .nx [x0, some (.ref 0), some (.int t), some (.ref L), some (.int day), x5, some (.lst ((linesOf es).map .str)), x7, x8, some (.str text), x10, x11] (U2 ++ [.lst es]) := by
    refine s_asg (d := .str text) ?_ rfl
    simp only [semE, semEs, List.getElem?_cons_zero, List.getElem?_cons_succ, bind_ok, hr]
  have eA : semE QQ (.call 22 (.cons (.var 9) .nil)) [x0, some (.ref 0), some (.int t), some (.ref L), some (.int day), x5, some (.lst ((linesOf es).map .str)), x7, x8, some (.str text), x10, x11] (U2 ++ [.lst es]) = .ok (.tup [.tup (es.take m), .int ((joinN ((linesOf es).take m)).length : Nat)]) (U2 ++ [.lst es]) := by
    simp only [semE, semEs, List.getElem?_cons_zero, List.getElem?_cons_succ, bind_ok, hrd]
  have eB : semE QQ (.call 38 (.cons (.var 3) (.cons (.var 6) (.cons (.var 9) .nil)))) [x0, some (.ref 0), some (.int t), some (.ref L), some (.int day), x5, some (.lst ((linesOf es).map .str)), x7, x8, some (.str text), x10, x11] (U2 ++ [.lst es]) = .ok (.tup [.tup (es.take m), .int ((joinN ((linesOf es).take m)).length : Nat)]) (U2 ++ [.lst es]) := by
    simp only [semE, semEs, List.getElem?_cons_zero, List.getElem?_cons_succ, bind_ok, hdu]
  have eP : pln 29 (.tup [.tup (es.take m), .int ((joinN ((linesOf es).take m)).length : Nat)]) = true := pln_ret (fun d hd => J.vd d (List.mem_of_mem_take hd)) (by rw [List.length_take]; have := J.len; omega)
  have e2 := like_if (b := .cons (.ret (.bl false)) .nil) eA eB eP
  exact ⟨text, U2, E2, ss_nx e1 (ss_nx e2 rfl)⟩
/-- what is wrong behind the entries -/
theorem seg3 (E : En L n U es dy day) (hn : 0 < n) (hn7 : n ≤ 7) : ∃ (w : DL.D) (U2 : Sto), En L n U2 es dy day ∧ (GW 0 w ∨ (2 ≤ es.length ∧ GW day w)) ∧ semSs tl8 QQ [x0, some (.ref 0), some (.int t), some (.ref L), some (.int day), x5, some (.lst ((linesOf es).map .str)), x7, x8, x9, x10, x11] (U ++ [.lst es]) = semSs tl10 QQ [x0, some (.ref 0), some (.int t), some (.ref L), some (.int day), x5, some (.lst ((linesOf es).map .str)), x7, x8, x9, some (.lst (es ++ [w])), x11] (U2 ++ [.lst es]) := by
  have hd := E.d
  have hel := E.l
  obtain ⟨w, S2, hbs, hr, hnr, hG⟩ := lwrong_ok 27 (S := U ++ [.lst es]) (b := 0) (at_ := es.length) (day := day) E.b.app (by omega) (by omega)
  obtain ⟨U2, rfl, hB2, hl2⟩ := E.b.step hbs
  have E2 : En L n U2 es dy day := ⟨E.j, E.c, E.l, E.d, hB2, by rw [hl2, E.u]⟩
  obtain ⟨v, U3, v0, v1, hB3, hl3, hr3⟩ := drawA (X := [.lst es]) (many := 3) hB2 (by decide)
  have E3 : En L n U3 es dy day := ⟨E.j, E.c, E.l, E.d, hB3, by rw [hl3, hl2, E.u]⟩
  have g1 := E.get
  have g2 := E2.get
  have g3 := E3.get
  have a2 : ∀ w : DL.D, fAdd (.ref L) (.lst [w]) (U2 ++ [.lst es]) = .ok (.lst (es ++ [w])) (U2 ++ [.lst es]) := fun w => fAdd_r g2 (by simp; omega)
  have a3 : ∀ w : DL.D, fAdd (.ref L) (.lst [w]) (U3 ++ [.lst es]) = .ok (.lst (es ++ [w])) (U3 ++ [.lst es]) := fun w => fAdd_r g3 (by simp; omega)
  have l1 := fLen_r g1
  have l3 := fLen_r g3
  have e1 : semS (.asg (.name 10) (.bin .add (.var 3) (.lst (.cons (.call 34 (.cons (.var 1) (.cons (.blt .len (.cons (.var 3) .nil)) (.cons (.var 4) .nil)))) .nil)))) QQ [x0, some (.ref 0), some (.int t), some (.ref L), some (.int day), x5, some (.lst ((linesOf es).map .str)), x7, x8, x9, x10, x11] (U ++ [.lst es]) = .nx [x0, some (.ref 0), some (.int t), some (.ref L), some (.int day), x5, some (.lst ((linesOf es).map .str)), x7, x8, x9, some (.lst (es ++ [w])), x11] (U2 ++ [.lst es]) := by
    refine s_asg (d := .lst (es ++ [w])) ?_ rfl
    simp only [semE, semEs, List.getElem?_cons_zero, List.getElem?_cons_succ, bind_ok, biF, l1, hr, boF, a2]
  have c1 : semB QQ (.cmp .eq (.call 30 (.cons (.var 1) (.cons (.int 3) .nil))) (.int 0)) [x0, some (.ref 0), some (.int t), some (.ref L), some (.int day), x5, some (.lst ((linesOf es).map .str)), x7, x8, x9, some (.lst (es ++ [w])), x11] (U2 ++ [.lst es]) = .ok (v == 0) (U3 ++ [.lst es]) := by
    simp only [semB, semE, semEs, List.getElem?_cons_zero, List.getElem?_cons_succ, bind_ok, hr3, coF, fEq_int, toB_bl]
  have c2 : semB QQ (.cmp .gt (.var 4) (.int 0)) [x0, some (.ref 0), some (.int t), some (.ref L), some (.int day), x5, some (.lst ((linesOf es).map .str)), x7, x8, x9, some (.lst (es ++ [w])), x11] (U3 ++ [.lst es]) = .ok (decide (0 < day)) (U3 ++ [.lst es]) := by
    simp only [semB, semE, semEs, List.getElem?_cons_zero, List.getElem?_cons_succ, bind_ok, coF, fGt_int, toB_bl]
  have cond : semB QQ (.and (.cons (.cmp .eq (.call 30 (.cons (.var 1) (.cons (.int 3) .nil))) (.int 0)) (.cons (.cmp .gt (.var 4) (.int 0)) .nil))) [x0, some (.ref 0), some (.int t), some (.ref L), some (.int day), x5, some (.lst ((linesOf es).map .str)), x7, x8, x9, some (.lst (es ++ [w])), x11] (U2 ++ [.lst es]) = .ok (v == 0 && decide (0 < day)) (U3 ++ [.lst es]) := by
    rw [semB]
    dsimp only
    rw [semAll]
    dsimp only
    rw [c1]
    cases v == 0 with
    | false => rfl
    | true =>
      simp only [bind_ok, if_true]
      rw [semAll]
      dsimp only
      rw [c2]
      simp only [bind_ok, Bool.true_and]
      cases decide (0 < day) <;> simp [semAll]
  have eA : semS (.asg (.name 10) (.bin .add (.var 3) (.lst (.cons (.tup (.cons (.str [112, 97, 105, 100]) (.cons (.bin .sub (.var 4) (.int 1)) (.cons (.str [112, 97]) (.cons (.int 7) .nil))))) .nil)))) QQ [x0, some (.ref 0), some (.int t), some (.ref L), some (.int day), x5, some (.lst ((linesOf es).map .str)), x7, x8, x9, some (.lst (es ++ [w])), x11] (U3 ++ [.lst es]) = .nx [x0, some (.ref 0), some (.int t), some (.ref L), some (.int day), x5, some (.lst ((linesOf es).map .str)), x7, x8, x9, some (.lst (es ++ [.tup [.str wPaid, .int (day - 1), .str wPa, .int 7]])), x11] (U3 ++ [.lst es]) := by
    refine s_asg0 (.lst (es ++ [.tup [.str wPaid, .int (day - 1), .str wPa, .int 7]])) ?_ rfl
    simp only [semE, semEs, List.getElem?_cons_zero, List.getElem?_cons_succ, bind_ok, boF, fSub_int, a3]
  have eB : semS (.asg (.name 10) (.bin .add (.var 3) (.lst (.cons (.tup (.cons (.str [112, 97, 105, 100]) (.cons (.neg (.int 1)) (.cons (.str [112, 97]) (.cons (.int 7) .nil))))) .nil)))) QQ [x0, some (.ref 0), some (.int t), some (.ref L), some (.int day), x5, some (.lst ((linesOf es).map .str)), x7, x8, x9, some (.lst (es ++ [.tup [.str wPaid, .int (day - 1), .str wPa, .int 7]])), x11] (U3 ++ [.lst es]) = .nx [x0, some (.ref 0), some (.int t), some (.ref L), some (.int day), x5, some (.lst ((linesOf es).map .str)), x7, x8, x9, some (.lst (es ++ [.tup [.str wPaid, .int (-1), .str wPa, .int 7]])), x11] (U3 ++ [.lst es]) := by
    refine s_asg0 (.lst (es ++ [.tup [.str wPaid, .int (-1), .str wPa, .int 7]])) ?_ rfl
    simp only [semE, semEs, List.getElem?_cons_zero, List.getElem?_cons_succ, bind_ok, boF, fNeg_int, a3]
  have cb : semB QQ (.cmp .eq (.blt .len (.cons (.var 3) .nil)) (.int 1)) [x0, some (.ref 0), some (.int t), some (.ref L), some (.int day), x5, some (.lst ((linesOf es).map .str)), x7, x8, x9, some (.lst (es ++ [.tup [.str wPaid, .int (day - 1), .str wPa, .int 7]])), x11] (U3 ++ [.lst es]) = .ok ((es.length : Int) == 1) (U3 ++ [.lst es]) := by
    simp only [semB, semE, semEs, List.getElem?_cons_zero, List.getElem?_cons_succ, bind_ok, biF, l3, coF, fEq_int, toB_bl]
  by_cases hc : (v == 0 && decide (0 < day)) = true
  · rw [hc] at cond
    simp only [Bool.and_eq_true, decide_eq_true_eq] at hc
    by_cases h1 : es.length = 1
    · have cb1 : ((es.length : Int) == 1) = true := by rw [h1]; rfl
      rw [cb1] at cb
      have e2 : semS (.ifs (.and (.cons (.cmp .eq (.call 30 (.cons (.var 1) (.cons (.int 3) .nil))) (.int 0)) (.cons (.cmp .gt (.var 4) (.int 0)) .nil))) (.cons (.asg (.name 10) (.bin .add (.var 3) (.lst (.cons (.tup (.cons (.str [112, 97, 105, 100]) (.cons (.bin .sub (.var 4) (.int 1)) (.cons (.str [112, 97]) (.cons (.int 7) .nil))))) .nil)))) (.cons (.ifs (.cmp .eq (.blt .len (.cons (.var 3) .nil)) (.int 1)) (.cons (.asg (.name 10) (.bin .add (.var 3) (.lst (.cons (.tup (.cons (.str [112, 97, 105, 100]) (.cons (.neg (.int 1)) (.cons (.str [112, 97]) (.cons (.int 7) .nil))))) .nil)))) .nil) .nil) .nil)) .nil) QQ [x0, some (.ref 0), some (.int t), some (.ref L), some (.int day), x5, some (.lst ((linesOf es).map .str)), x7, x8, x9, some (.lst (es ++ [w])), x11] (U2 ++ [.lst es]) = .nx [x0, some (.ref 0), some (.int t), some (.ref L), some (.int day), x5, some (.lst ((linesOf es).map .str)), x7, x8, x9, some (.lst (es ++ [.tup [.str wPaid, .int (-1), .str wPa, .int 7]])), x11] (U3 ++ [.lst es]) :=
        s_if cond (by rw [if_pos rfl]; exact ss_nx eA (ss_nx (s_ifT cb (ss_nx eB ss0)) ss0))
      exact ⟨.tup [.str wPaid, .int (-1), .str wPa, .int 7], U3, E3, .inl gw_neg, ss_nx e1 (ss_nx e2 rfl)⟩
    · have cb1 : ((es.length : Int) == 1) = false := by rw [beq_eq_false_iff_ne]; omega
      rw [cb1] at cb
      have e2 : semS (.ifs (.and (.cons (.cmp .eq (.call 30 (.cons (.var 1) (.cons (.int 3) .nil))) (.int 0)) (.cons (.cmp .gt (.var 4) (.int 0)) .nil))) (.cons (.asg (.name 10) (.bin .add (.var 3) (.lst (.cons (.tup (.cons (.str [112, 97, 105, 100]) (.cons (.bin .sub (.var 4) (.int 1)) (.cons (.str [112, 97]) (.cons (.int 7) .nil))))) .nil)))) (.cons (.ifs (.cmp .eq (.blt .len (.cons (.var 3) .nil)) (.int 1)) (.cons (.asg (.name 10) (.bin .add (.var 3) (.lst (.cons (.tup (.cons (.str [112, 97, 105, 100]) (.cons (.neg (.int 1)) (.cons (.str [112, 97]) (.cons (.int 7) .nil))))) .nil)))) .nil) .nil) .nil)) .nil) QQ [x0, some (.ref 0), some (.int t), some (.ref L), some (.int day), x5, some (.lst ((linesOf es).map .str)), x7, x8, x9, some (.lst (es ++ [w])), x11] (U2 ++ [.lst es]) = .nx [x0, some (.ref 0), some (.int t), some (.ref L), some (.int day), x5, some (.lst ((linesOf es).map .str)), x7, x8, x9, some (.lst (es ++ [.tup [.str wPaid, .int (day - 1), .str wPa, .int 7]])), x11] (U3 ++ [.lst es]) :=
        s_if cond (by rw [if_pos rfl]; exact ss_nx eA (ss_nx (s_if1 cb) ss0))
      exact ⟨.tup [.str wPaid, .int (day - 1), .str wPa, .int 7], U3, E3, .inr ⟨by omega, gw_less (by omega)⟩, ss_nx e1 (ss_nx e2 rfl)⟩
  · have hc : (v == 0 && decide (0 < day)) = false := by simpa using hc
    rw [hc] at cond
    have e2 : semS (.ifs (.and (.cons (.cmp .eq (.call 30 (.cons (.var 1) (.cons (.int 3) .nil))) (.int 0)) (.cons (.cmp .gt (.var 4) (.int 0)) .nil))) (.cons (.asg (.name 10) (.bin .add (.var 3) (.lst (.cons (.tup (.cons (.str [112, 97, 105, 100]) (.cons (.bin .sub (.var 4) (.int 1)) (.cons (.str [112, 97]) (.cons (.int 7) .nil))))) .nil)))) (.cons (.ifs (.cmp .eq (.blt .len (.cons (.var 3) .nil)) (.int 1)) (.cons (.asg (.name 10) (.bin .add (.var 3) (.lst (.cons (.tup (.cons (.str [112, 97, 105, 100]) (.cons (.neg (.int 1)) (.cons (.str [112, 97]) (.cons (.int 7) .nil))))) .nil)))) .nil) .nil) .nil)) .nil) QQ [x0, some (.ref 0), some (.int t), some (.ref L), some (.int day), x5, some (.lst ((linesOf es).map .str)), x7, x8, x9, some (.lst (es ++ [w])), x11] (U2 ++ [.lst es]) = .nx [x0, some (.ref 0), some (.int t), some (.ref L), some (.int day), x5, some (.lst ((linesOf es).map .str)), x7, x8, x9, some (.lst (es ++ [w])), x11] (U3 ++ [.lst es]) :=
      s_if cond (by rw [if_neg (by decide)]; exact ss0)
    exact ⟨w, U3, E3, .inl hG, ss_nx e1 (ss_nx e2 rfl)⟩
theorem lines_len (J : Jn es dy) : ∀ l ∈ linesOf es, l.length ≤ 2000 := fun l hl => Nat.le_trans (J.lines l hl).1 (by decide)
/-- the wrong one is not read -/
theorem seg4 (E : En L n U es dy day) (hn : 0 < n) (hn7 : n ≤ 7) {w : DL.D} (hw : GW 0 w ∨ (2 ≤ es.length ∧ GW day w)) : ∃ text : List Nat, semSs tl10 QQ [x0, some (.ref 0), some (.int t), some (.ref L), some (.int day), x5, some (.lst ((linesOf es).map .str)), x7, x8, x9, some (.lst (es ++ [w])), x11] (U ++ [.lst es]) = semSs tl12 QQ [x0, some (.ref 0), some (.int t), some (.ref L), some (.int day), x5, some (.lst ((linesOf es).map .str)), x7, x8, some (.str text), some (.lst (es ++ [w])), x11] (U ++ [.lst es]) := by
  have J := E.j
  have hel := E.l
  obtain ⟨V, hb, F⟩ := wrong_brk J E.c (by omega) hw
  have hL : lineAt (es ++ [w]) es.length = lineS es.length (sumAt (es ++ [w]) (es.length + 1)) (showD w) := by
    rw [lineAt, eAt_end]
  have hll := lawlines_ok 22 (S := U ++ [.lst es]) (q := .lst (es ++ [w])) (es := es ++ [w]) (.inl rfl) (fun d hd => by
    rcases List.mem_append.mp hd with hd | hd
    · exact J.vd d hd
    · rw [List.mem_singleton.mp hd]
      exact V) (by simp; omega)
  have hbl : (lineAt (es ++ [w]) es.length).length ≤ 742 := by rw [hL]; exact F.len
  have hjt : joinN (linesOf (es ++ [w])) = joinN ((linesOf es).take es.length) ++ (lineAt (es ++ [w]) es.length ++ [10]) := by
    rw [linesOf_snoc, joinN_app, joinN_cons, List.take_of_length_le (by rw [linesOf_len]; exact Nat.le_refl _)]
    rfl
  have hrd := readj_ok 10 J (Nat.le_refl es.length) (rest := lineAt (es ++ [w]) es.length ++ [10]) (.inr ⟨_, [], rfl, by rw [hL]; exact F.n10, hb⟩) (by simp; omega) (U ++ [.lst es])
  rw [← hjt] at hrd
  have hdu := due_ok 29 J (sh_full (es := es) (dy := dy)) E.get
  have h2 : ∀ l ∈ linesOf (es ++ [w]), l.length ≤ 2000 := fun l hl => by
    rw [linesOf_snoc] at hl
    rcases List.mem_append.mp hl with hl | hl
    · exact lines_len J l hl
    · rw [List.mem_singleton.mp hl]
      omega
  have e0 : semE QQ (.call 36 (.cons (.var 10) .nil)) [x0, some (.ref 0), some (.int t), some (.ref L), some (.int day), x5, some (.lst ((linesOf es).map .str)), x7, x8, x9, some (.lst (es ++ [w])), x11] (U ++ [.lst es]) = .ok (.lst ((linesOf (es ++ [w])).map .str)) (U ++ [.lst es]) := by
    simp only [semE, semEs, List.getElem?_cons_zero, List.getElem?_cons_succ, bind_ok, hll]
  have e1 : semS (.asg (.name 9) (.mth .join (.str []) (.cons (.comp false [11] (.bin .add (.var 11) (.str [10])) (.name 11) (.plain (.call 36 (.cons (.var 10) .nil))) .none) .nil))) QQ [x0, some (.ref 0), some (.int t), some (.ref L), some (.int day), x5, some (.lst ((linesOf es).map .str)), x7, x8, x9, some (.lst (es ++ [w])), x11] (U ++ [.lst es]) = .nx [x0, some (.ref 0), some (.int t), some (.ref L), some (.int day), x5, some (.lst ((linesOf es).map .str)), x7, x8, some (.str (joinN (linesOf (es ++ [w])))), some (.lst (es ++ [w])), x11] (U ++ [.lst es]) :=
    s_asg0 (.str (joinN (linesOf (es ++ [w])))) (join_nl (by simp) e0 (by rw [linesOf_len]; simp; omega) h2) rfl
  have eA : semE QQ (.call 22 (.cons (.var 9) .nil)) [x0, some (.ref 0), some (.int t), some (.ref L), some (.int day), x5, some (.lst ((linesOf es).map .str)), x7, x8, some (.str (joinN (linesOf (es ++ [w])))), some (.lst (es ++ [w])), x11] (U ++ [.lst es]) = .ok (.tup [.tup (es.take es.length), .int ((joinN ((linesOf es).take es.length)).length : Nat)]) (U ++ [.lst es]) := by
    simp only [semE, semEs, List.getElem?_cons_zero, List.getElem?_cons_succ, bind_ok, hrd]
  have ej : semE QQ (.mth .join (.str []) (.cons (.comp false [11] (.bin .add (.var 11) (.str [10])) (.name 11) (.plain (.var 6)) .none) .nil)) [x0, some (.ref 0), some (.int t), some (.ref L), some (.int day), x5, some (.lst ((linesOf es).map .str)), x7, x8, some (.str (joinN (linesOf (es ++ [w])))), some (.lst (es ++ [w])), x11] (U ++ [.lst es]) = .ok (.str (joinN (linesOf es))) (U ++ [.lst es]) :=
    join_nl (by simp) (by simp only [semE, List.getElem?_cons_zero, List.getElem?_cons_succ]) (by rw [linesOf_len]; omega) (lines_len J)
  have v3 : semE QQ (.var 3) [x0, some (.ref 0), some (.int t), some (.ref L), some (.int day), x5, some (.lst ((linesOf es).map .str)), x7, x8, some (.str (joinN (linesOf (es ++ [w])))), some (.lst (es ++ [w])), x11] (U ++ [.lst es]) = .ok (.ref L) (U ++ [.lst es]) := by simp only [semE, List.getElem?_cons_zero, List.getElem?_cons_succ]
  have v6 : semE QQ (.var 6) [x0, some (.ref 0), some (.int t), some (.ref L), some (.int day), x5, some (.lst ((linesOf es).map .str)), x7, x8, some (.str (joinN (linesOf (es ++ [w])))), some (.lst (es ++ [w])), x11] (U ++ [.lst es]) = .ok (.lst ((linesOf es).map .str)) (U ++ [.lst es]) := by simp only [semE, List.getElem?_cons_zero, List.getElem?_cons_succ]
  have eB : semE QQ (.call 38 (.cons (.var 3) (.cons (.var 6) (.cons (.mth .join (.str []) (.cons (.comp false [11] (.bin .add (.var 11) (.str [10])) (.name 11) (.plain (.var 6)) .none) .nil)) .nil)))) [x0, some (.ref 0), some (.int t), some (.ref L), some (.int day), x5, some (.lst ((linesOf es).map .str)), x7, x8, some (.str (joinN (linesOf (es ++ [w])))), some (.lst (es ++ [w])), x11] (U ++ [.lst es]) = .ok (.tup [.tup (es.take es.length), .int ((joinN ((linesOf es).take es.length)).length : Nat)]) (U ++ [.lst es]) := by
    rw [semE]
    simp only [semEs]
    rw [v3]
    simp only [bind_ok]
    rw [v6]
    simp only [bind_ok]
    rw [ej]
    simp only [bind_ok, hdu]
  have eP : pln 29 (.tup [.tup (es.take es.length), .int ((joinN ((linesOf es).take es.length)).length : Nat)]) = true := pln_ret (fun d hd => J.vd d (List.mem_of_mem_take hd)) (by rw [List.length_take]; omega)
  have e2 := like_if (b := .cons (.ret (.bl false)) .nil) eA eB eP
  exact ⟨_, ss_nx e1 (ss_nx e2 rfl)⟩
end
end K37
set_option Elab.async false
set_option linter.all false
set_option maxRecDepth 100000
set_option maxHeartbeats 400000
/-! NV: elder lines behind a short text. -/
namespace K37
open PySem L2 DL
section
variable {Q : Par} {A B : Ex} {r : DL.Loc} {S : Sto}
theorem e_split {x : List Nat} {c : Nat} (hA : semE Q A r S = .ok (.str x) S) (hc : c < 256) (hl : x.length ≤ 1000000) : semE Q (.mth .split A (.cons (.str [c]) .nil)) r S = .ok (.lst ((splC c x).map .str)) S := by
  have h := fSplit_ok hc hl (S := S)
  rw [semE]
  dsimp only
  rw [hA]
  simp only [bind_ok, mtOk_str, mtT, beq_self_eq_true, if_true, semEs, semE, mtF, h]
theorem e_ix {d v : DL.D} {i : Int} (hA : semE Q A r S = .ok d S) (h : fIx d (.int i) S = .ok v S) : semE Q (.ix A (.int i)) r S = .ok v S := by
  rw [semE]
  dsimp only
  rw [hA]
  simp only [bind_ok, semE, h]
theorem e_add {a b v : DL.D} (hA : semE Q A r S = .ok a S) (hB : semE Q B r S = .ok b S) (h : fAdd a b S = .ok v S) : semE Q (.bin .add A B) r S = .ok v S := by
  rw [semE]
  dsimp only
  rw [hA]
  simp only [bind_ok]
  rw [hB]
  simp only [bind_ok, boF, h]
theorem e_len {a v : DL.D} (hA : semE Q A r S = .ok a S) (h : fLen [a] S = .ok v S) : semE Q (.blt .len (.cons A .nil)) r S = .ok v S := by
  rw [semE]
  simp only [semEs]
  rw [hA]
  simp only [bind_ok, biF, h]
theorem b_ne {a b : DL.D} {v : Bool} (hA : semE Q A r S = .ok a S) (hB : semE Q B r S = .ok b S) (h : fNe a b S = .ok (.bl v) S) : semB Q (.cmp .ne A B) r S = .ok v S := by
  rw [semB]
  dsimp only
  rw [hA]
  simp only [bind_ok]
  rw [hB]
  simp only [bind_ok, coF, h, toB_bl]
theorem b_gt {a b : Int} (hA : semE Q A r S = .ok (.int a) S) (hB : semE Q B r S = .ok (.int b) S) : semB Q (.cmp .gt A B) r S = .ok (decide (b < a)) S := by
  rw [semB]
  dsimp only
  rw [hA]
  simp only [bind_ok]
  rw [hB]
  simp only [bind_ok, coF, fGt_int, toB_bl]
end
def shD (t : Int) : DL.D := .tup [.str wShort, .tup [.int t, .int 7]]
def text3 (es : List DL.D) (t : Int) : List Nat := lineAt [shD t] 0 ++ 10 :: joinN ((linesOf es).drop 1)
theorem J2 {t : Int} (h0 : 0 ≤ t ∧ t ≤ 100) : Jn [shD t] (fun _ => 0) := by
  refine ⟨by simp, fun i hi => ?_, fun _ => Int.le_refl _, fun _ => by omega⟩
  have : i = 0 := by simpa using hi
  subst this
  exact ge_sh2 0 h0.1 h0.2
section
variable {es : List DL.D} {dy : Nat → Int} {t : Int}
theorem eAt_j {i : Nat} (h1 : 1 ≤ i) : eAt (shD t :: es.drop 1) i = eAt es i := by
  obtain ⟨j, rfl⟩ : ∃ j, i = j + 1 := ⟨i - 1, by omega⟩
  simp only [eAt, List.getD_eq_getElem?_getD, List.getElem?_cons_succ, List.getElem?_drop]
  rw [Nat.add_comm 1 j]
theorem sumAt_j (h : sumAt [shD t] 1 = sumAt es 1) : ∀ i, 1 ≤ i → sumAt (shD t :: es.drop 1) i = sumAt es i
  | 1, _ => by rw [← h]; rfl
  | i + 2, _ => by
    rw [sumAt, sumAt_j h (i + 1) (by omega), eAt_j (by omega)]
    rfl
theorem J3 (J : Jn es dy) (hpos : 0 < es.length) (h0 : 0 ≤ t ∧ t ≤ 100) : Jn (shD t :: es.drop 1) dy := by
  refine ⟨by have := J.len; simp; omega, fun i hi => ?_, J.mono, J.rg⟩
  match i with
  | 0 => exact ge_sh2 (dy 0) h0.1 h0.2
  | i + 1 =>
    rw [eAt_j (by omega)]
    exact J.ge (i + 1) (by simp at hi; omega)
theorem lines_j (h : sumAt [shD t] 1 = sumAt es 1) (hpos : 0 < es.length) : linesOf (shD t :: es.drop 1) = lineAt [shD t] 0 :: (linesOf es).drop 1 := by
  refine List.ext_getElem? fun i => ?_
  have hl : (shD t :: es.drop 1).length = es.length := by simp; omega
  by_cases hi : i < es.length
  · rw [linesOf_get (by rw [hl]; exact hi)]
    match i with
    | 0 => rfl
    | i + 1 =>
      rw [List.getElem?_cons_succ, List.getElem?_drop, Nat.add_comm 1 i, linesOf_get hi, lineAt, lineAt, sumAt_j h _ (by omega), eAt_j (by omega)]
  · rw [List.getElem?_eq_none (by rw [linesOf_len, hl]; omega), List.getElem?_eq_none (by simp [linesOf_len]; omega)]
theorem read3 (J : Jn es dy) (hpos : 1 < es.length) (h0 : 0 ≤ t ∧ t ≤ 100) (S : Sto) : ∃ (tp : List DL.D) (k : Int), run tb P 30 22 [.str (text3 es t)] S = .ok (.tup [.tup tp, .int k]) S ∧ (k = (lineAt [shD t] 0).length + 1 ∨ sumAt [shD t] 1 = sumAt es 1) := by
  by_cases h : sumAt [shD t] 1 = sumAt es 1
  · have hj := (sh_full (es := shD t :: es.drop 1) (dy := dy)).read (J3 J (by omega) h0) 10 S
    rw [lines_j h (by omega), joinN_cons] at hj
    exact ⟨_, _, hj, .inr h⟩
  · have K := J2 h0
    have h1 : 1 < es.length := hpos
    have F := J.ln h1
    have hd : (linesOf es).drop 1 = lineAt es 1 :: (linesOf es).drop 2 := drop_lines h1
    obtain ⟨q1, q2⟩ := lines_ok J (ls := (linesOf es).drop 1) fun l hl => List.mem_of_mem_drop hl
    have q3 : 743 * ((linesOf es).drop 1).length ≤ 743 * 20 := Nat.mul_le_mul_left _ (by rw [List.length_drop, linesOf_len]; have := J.len; omega)
    have hb : BrkL 1 (sumAt [shD t] 1) (rday (fun _ => 0) 1) (lineAt es 1) := by
      refine brk_sum (by omega) F.ok (Nat.le_trans F.len (by decide)) F.sp fun e => ?_
      have e1 := dig_inj (sum_lo es 2).1 (lsum_lo _ _ _).1 e
      have e2 : sumAt es 2 = lsum 1 (sumAt es 1) (showD (eAt es 1)) := rfl
      have s1 := sum_lo es 1
      have s2 := sum_lo [shD t] 1
      rw [e2] at e1
      unfold lsum at e1
      omega
    have hr := readj_ok 10 K (m := 1) (Nat.le_refl 1) (rest := joinN ((linesOf es).drop 1)) (.inr ⟨lineAt es 1, joinN ((linesOf es).drop 2), by rw [hd, joinN_cons], F.n10, hb⟩) (by omega) S
    have ht : joinN ((linesOf [shD t]).take 1) ++ joinN ((linesOf es).drop 1) = text3 es t := by
      show joinN [lineAt [shD t] 0] ++ _ = _
      rw [joinN_cons, text3]
      simp [joinN]
    rw [ht] at hr
    refine ⟨_, _, hr, .inl ?_⟩
    show (((joinN [lineAt [shD t] 0]).length : Nat) : Int) = _
    rw [joinN_cons]
    simp [joinN]
end
section
variable {L n : Nat} {U : Sto} {es : List DL.D} {dy : Nat → Int} {day t : Int} {x0 x5 x7 x8 x9 x10 x11 : Option DL.D}
theorem seg5 (E : En L n U es dy day) (hn : 0 < n) (h0 : 0 ≤ t ∧ t ≤ 100) :
    semSs tl12 QQ [x0, some (.ref 0), some (.int t), some (.ref L), some (.int day), x5, some (.lst ((linesOf es).map .str)), x7, x8, x9, x10, x11] (U ++ [.lst es]) = .nx [x0, some (.ref 0), some (.int t), some (.ref L), some (.int day), x5, some (.lst ((linesOf es).map .str)), x7, x8, (some (.str (text3 es t))), x10, x11] (U ++ [.lst es]) := by
  have J := E.j
  have hel := E.l
  have hl8 := J.len
  have K := J2 h0
  have Vs := K.at_ (i := 0) (by simp)
  have K0 := K.ln (i := 0) (by simp)
  have F0 := J.ln (i := 0) (by omega)
  have k0l : (lineAt [shD t] 0).length ≤ 742 := K0.len
  have f0l : (lineAt es 0).length ≤ 742 := F0.len
  obtain ⟨q1, q2⟩ := lines_ok J (ls := (linesOf es).drop 1) fun l hl => List.mem_of_mem_drop hl
  have q3 : 743 * ((linesOf es).drop 1).length ≤ 743 * 20 := Nat.mul_le_mul_left _ (by rw [List.length_drop, linesOf_len]; omega)
  have e36 : ∀ y9, semE QQ (.call 36 (.cons (.lst (.cons (.tup (.cons (.str [115, 104, 111, 114, 116]) (.cons (.tup (.cons (.var 2) (.cons (.int 7) .nil))) .nil))) .nil)) .nil)) [x0, some (.ref 0), some (.int t), some (.ref L), some (.int day), x5, some (.lst ((linesOf es).map .str)), x7, x8, y9, x10, x11] (U ++ [.lst es]) = .ok (.lst ((linesOf [shD t]).map .str)) (U ++ [.lst es]) := fun y9 => by
    have hll := lawlines_ok 22 (S := U ++ [.lst es]) (q := .lst [shD t]) (es := [shD t]) (.inl rfl) (fun d hd => by rw [List.mem_singleton.mp hd]; exact Vs) (by simp)
    have hll' : run tb P 30 36 [.lst [.tup [.str [115, 104, 111, 114, 116], .tup [.int t, .int 7]]]] (U ++ [.lst es]) = .ok (.lst ((linesOf [shD t]).map .str)) (U ++ [.lst es]) := hll
    simp only [semE, semEs, List.getElem?_cons_zero, List.getElem?_cons_succ, bind_ok, hll']
  have eix : ∀ y9, semE QQ (.ix (.call 36 (.cons (.lst (.cons (.tup (.cons (.str [115, 104, 111, 114, 116]) (.cons (.tup (.cons (.var 2) (.cons (.int 7) .nil))) .nil))) .nil)) .nil)) (.int 0)) [x0, some (.ref 0), some (.int t), some (.ref L), some (.int day), x5, some (.lst ((linesOf es).map .str)), x7, x8, y9, x10, x11] (U ++ [.lst es]) = .ok (.str (lineAt [shD t] 0)) (U ++ [.lst es]) := fun y9 => e_ix (e36 y9) (ixM (i := 0) rfl)
  have v6 : ∀ y9, semE QQ (.var 6) [x0, some (.ref 0), some (.int t), some (.ref L), some (.int day), x5, some (.lst ((linesOf es).map .str)), x7, x8, y9, x10, x11] (U ++ [.lst es]) = .ok (.lst ((linesOf es).map .str)) (U ++ [.lst es]) := fun y9 => by simp only [semE, List.getElem?_cons_zero, List.getElem?_cons_succ]
  have esl : semE QQ (.sl (.var 6) (.some (.int 1)) .none) [x0, some (.ref 0), some (.int t), some (.ref L), some (.int day), x5, some (.lst ((linesOf es).map .str)), x7, x8, x9, x10, x11] (U ++ [.lst es]) = .ok (.lst (((linesOf es).drop 1).map .str)) (U ++ [.lst es]) := by
    have h1 : fSl (.lst ((linesOf es).map .str)) (some 1) none (U ++ [.lst es]) = .ok (.lst (((linesOf es).drop 1).map .str)) (U ++ [.lst es]) := fromM 1
    simp only [semE, semO, List.getElem?_cons_zero, List.getElem?_cons_succ, bind_ok, h1]
  have ej : semE QQ (.mth .join (.str []) (.cons (.comp false [11] (.bin .add (.var 11) (.str [10])) (.name 11) (.plain (.sl (.var 6) (.some (.int 1)) .none)) .none) .nil)) [x0, some (.ref 0), some (.int t), some (.ref L), some (.int day), x5, some (.lst ((linesOf es).map .str)), x7, x8, x9, x10, x11] (U ++ [.lst es]) = .ok (.str (joinN ((linesOf es).drop 1))) (U ++ [.lst es]) :=
    join_nl (by simp) esl (by rw [List.length_drop, linesOf_len]; omega) fun l hl => lines_len J l (List.mem_of_mem_drop hl)
  have s10 : semE QQ (.str [10]) [x0, some (.ref 0), some (.int t), some (.ref L), some (.int day), x5, some (.lst ((linesOf es).map .str)), x7, x8, x9, x10, x11] (U ++ [.lst es]) = .ok (.str [10]) (U ++ [.lst es]) := by simp only [semE]
  have ea : semE QQ (.bin .add (.bin .add (.ix (.call 36 (.cons (.lst (.cons (.tup (.cons (.str [115, 104, 111, 114, 116]) (.cons (.tup (.cons (.var 2) (.cons (.int 7) .nil))) .nil))) .nil)) .nil)) (.int 0)) (.str [10])) (.mth .join (.str []) (.cons (.comp false [11] (.bin .add (.var 11) (.str [10])) (.name 11) (.plain (.sl (.var 6) (.some (.int 1)) .none)) .none) .nil))) [x0, some (.ref 0), some (.int t), some (.ref L), some (.int day), x5, some (.lst ((linesOf es).map .str)), x7, x8, x9, x10, x11] (U ++ [.lst es]) = .ok (.str (text3 es t)) (U ++ [.lst es]) :=
    e_add (e_add (eix x9) s10 (addS (by simp; omega))) ej (by rw [addS (by simp only [List.length_append, List.length_cons, List.length_nil]; omega), text3]; simp)
  have e1 : semS (.asg (.name 9) (.bin .add (.bin .add (.ix (.call 36 (.cons (.lst (.cons (.tup (.cons (.str [115, 104, 111, 114, 116]) (.cons (.tup (.cons (.var 2) (.cons (.int 7) .nil))) .nil))) .nil)) .nil)) (.int 0)) (.str [10])) (.mth .join (.str []) (.cons (.comp false [11] (.bin .add (.var 11) (.str [10])) (.name 11) (.plain (.sl (.var 6) (.some (.int 1)) .none)) .none) .nil)))) QQ [x0, some (.ref 0), some (.int t), some (.ref L), some (.int day), x5, some (.lst ((linesOf es).map .str)), x7, x8, x9, x10, x11] (U ++ [.lst es]) = .nx [x0, some (.ref 0), some (.int t), some (.ref L), some (.int day), x5, some (.lst ((linesOf es).map .str)), x7, x8, (some (.str (text3 es t))), x10, x11] (U ++ [.lst es]) := s_asg0 (.str (text3 es t)) ea rfl
  have i1 : ∀ y9, semE QQ (.int 1) [x0, some (.ref 0), some (.int t), some (.ref L), some (.int day), x5, some (.lst ((linesOf es).map .str)), x7, x8, y9, x10, x11] (U ++ [.lst es]) = .ok (.int 1) (U ++ [.lst es]) := fun y9 => by simp only [semE]
  have c1 : semB QQ (.cmp .gt (.blt .len (.cons (.var 6) .nil)) (.int 1)) [x0, some (.ref 0), some (.int t), some (.ref L), some (.int day), x5, some (.lst ((linesOf es).map .str)), x7, x8, (some (.str (text3 es t))), x10, x11] (U ++ [.lst es]) = .ok (decide ((1 : Int) < ((linesOf es).length : Nat))) (U ++ [.lst es]) := b_gt (e_len (v6 _) lenM) (i1 _)
  have cond : semB QQ (.and (.cons (.cmp .gt (.blt .len (.cons (.var 6) .nil)) (.int 1)) (.cons (.cmp .ne (.ix (.call 22 (.cons (.var 9) .nil)) (.int 1)) (.bin .add (.blt .len (.cons (.ix (.mth .split (.var 9) (.cons (.str [10]) .nil)) (.int 0)) .nil)) (.int 1))) (.cons (.cmp .ne (.ix (.mth .split (.ix (.call 36 (.cons (.lst (.cons (.tup (.cons (.str [115, 104, 111, 114, 116]) (.cons (.tup (.cons (.var 2) (.cons (.int 7) .nil))) .nil))) .nil)) .nil)) (.int 0)) (.cons (.str [32]) .nil)) (.int 1)) (.ix (.mth .split (.ix (.var 6) (.int 0)) (.cons (.str [32]) .nil)) (.int 1))) .nil)))) [x0, some (.ref 0), some (.int t), some (.ref L), some (.int day), x5, some (.lst ((linesOf es).map .str)), x7, x8, (some (.str (text3 es t))), x10, x11] (U ++ [.lst es]) = .ok false (U ++ [.lst es]) := by
    rw [semB]
    dsimp only
    rw [semAll]
    dsimp only
    rw [c1]
    by_cases hg : (1 : Int) < ((linesOf es).length : Nat)
    · have hlen : 1 < es.length := by rw [linesOf_len] at hg; omega
      obtain ⟨tp, k, hr, hk⟩ := read3 J hlen h0 (U ++ [.lst es])
      have v9 : semE QQ (.var 9) [x0, some (.ref 0), some (.int t), some (.ref L), some (.int day), x5, some (.lst ((linesOf es).map .str)), x7, x8, (some (.str (text3 es t))), x10, x11] (U ++ [.lst es]) = .ok (.str (text3 es t)) (U ++ [.lst es]) := by simp only [semE, List.getElem?_cons_zero, List.getElem?_cons_succ]
      have t3l : (text3 es t).length ≤ 1000000 := by
        rw [text3]
        simp only [List.length_append, List.length_cons]
        omega
      have r1 : semE QQ (.ix (.call 22 (.cons (.var 9) .nil)) (.int 1)) [x0, some (.ref 0), some (.int t), some (.ref L), some (.int day), x5, some (.lst ((linesOf es).map .str)), x7, x8, (some (.str (text3 es t))), x10, x11] (U ++ [.lst es]) = .ok (.int k) (U ++ [.lst es]) := by
        refine e_ix (d := .tup [.tup tp, .int k]) ?_ (by rw [fIx_tup, at_1]; rfl)
        simp only [semE, semEs, List.getElem?_cons_zero, List.getElem?_cons_succ, bind_ok, hr]
      have hsp : splC 10 (text3 es t) = lineAt [shD t] 0 :: splC 10 (joinN ((linesOf es).drop 1)) := splC_app K0.n10
      have r2 : semE QQ (.bin .add (.blt .len (.cons (.ix (.mth .split (.var 9) (.cons (.str [10]) .nil)) (.int 0)) .nil)) (.int 1)) [x0, some (.ref 0), some (.int t), some (.ref L), some (.int day), x5, some (.lst ((linesOf es).map .str)), x7, x8, (some (.str (text3 es t))), x10, x11] (U ++ [.lst es]) = .ok (.int ((lineAt [shD t] 0).length + 1)) (U ++ [.lst es]) :=
        e_add (e_len (e_ix (e_split v9 (by decide) t3l) (ixM (i := 0) (x := lineAt [shD t] 0) (by rw [hsp]; rfl))) (fLen_str (by omega))) (i1 _) fAdd_int
      have c2 : semB QQ (.cmp .ne (.ix (.call 22 (.cons (.var 9) .nil)) (.int 1)) (.bin .add (.blt .len (.cons (.ix (.mth .split (.var 9) (.cons (.str [10]) .nil)) (.int 0)) .nil)) (.int 1))) [x0, some (.ref 0), some (.int t), some (.ref L), some (.int day), x5, some (.lst ((linesOf es).map .str)), x7, x8, (some (.str (text3 es t))), x10, x11] (U ++ [.lst es]) = .ok (!(k == ((lineAt [shD t] 0).length : Int) + 1)) (U ++ [.lst es]) := b_ne r1 r2 fNe_int
      simp only [hg, decide_true, bind_ok, if_true]
      rw [semAll]
      dsimp only
      rw [c2]
      rcases hk with hk | hk
      · have : (k == ((lineAt [shD t] 0).length : Int) + 1) = true := by rw [hk]; simp
        rw [this]
        rfl
      · have w1 : semE QQ (.ix (.mth .split (.ix (.call 36 (.cons (.lst (.cons (.tup (.cons (.str [115, 104, 111, 114, 116]) (.cons (.tup (.cons (.var 2) (.cons (.int 7) .nil))) .nil))) .nil)) .nil)) (.int 0)) (.cons (.str [32]) .nil)) (.int 1)) [x0, some (.ref 0), some (.int t), some (.ref L), some (.int day), x5, some (.lst ((linesOf es).map .str)), x7, x8, (some (.str (text3 es t))), x10, x11] (U ++ [.lst es]) = .ok (.str (digS (sumAt [shD t] 1))) (U ++ [.lst es]) :=
          e_ix (e_split (eix _) (by decide) (by omega)) (ixM (i := 1) (x := digS (sumAt [shD t] 1)) (by
            have hw : splC 32 (lineAt [shD t] 0) = digS ((0 : Nat) : Int) :: digS (sumAt [shD t] 1) :: splC 32 (showD (eAt [shD t] 0)) := line_w (sum_lo [shD t] 1).1
            rw [hw]
            rfl))
        have w2 : semE QQ (.ix (.mth .split (.ix (.var 6) (.int 0)) (.cons (.str [32]) .nil)) (.int 1)) [x0, some (.ref 0), some (.int t), some (.ref L), some (.int day), x5, some (.lst ((linesOf es).map .str)), x7, x8, (some (.str (text3 es t))), x10, x11] (U ++ [.lst es]) = .ok (.str (digS (sumAt es 1))) (U ++ [.lst es]) :=
          e_ix (e_split (e_ix (v6 _) (ixM (i := 0) (linesOf_get (by omega)))) (by decide) (by omega)) (ixM (i := 1) (x := digS (sumAt es 1)) (by
            have hw : splC 32 (lineAt es 0) = digS ((0 : Nat) : Int) :: digS (sumAt es 1) :: splC 32 (showD (eAt es 0)) := line_w (sum_lo es 1).1
            rw [hw]
            rfl))
        have c3 : semB QQ (.cmp .ne (.ix (.mth .split (.ix (.call 36 (.cons (.lst (.cons (.tup (.cons (.str [115, 104, 111, 114, 116]) (.cons (.tup (.cons (.var 2) (.cons (.int 7) .nil))) .nil))) .nil)) .nil)) (.int 0)) (.cons (.str [32]) .nil)) (.int 1)) (.ix (.mth .split (.ix (.var 6) (.int 0)) (.cons (.str [32]) .nil)) (.int 1))) [x0, some (.ref 0), some (.int t), some (.ref L), some (.int day), x5, some (.lst ((linesOf es).map .str)), x7, x8, (some (.str (text3 es t))), x10, x11] (U ++ [.lst es]) = .ok false (U ++ [.lst es]) := b_ne w1 w2 (by
          rw [hk, fNe_str (dig_ok (sum_lo es 1).1) (dig_ok (sum_lo es 1).1)]
          simp)
        cases (k == ((lineAt [shD t] 0).length : Int) + 1) with
        | true => rfl
        | false =>
          simp only [Bool.not_false, bind_ok, if_true]
          rw [semAll]
          dsimp only
          rw [c3]
          rfl
    · simp only [hg, decide_false, bind_ok]
      rfl
  exact ss_nx e1 (ss_nx (s_if1 cond) ss0)
end
end K37
set_option Elab.async false
set_option linter.all false
set_option maxRecDepth 100000
set_option maxHeartbeats 400000
/-! NW: the law's turns. -/
namespace K37
open PySem L2 DL
theorem turn_ok {T : Sto} (hT : Bx T 0) {t : Int} (h0 : 0 ≤ t ∧ t ≤ 100) (x0 x3 x4 x5 x6 x7 x8 x9 x10 x11 : Option DL.D) :
    ∃ y3 y4 y5 y6 y7 y8 y9 y10 T2, semSs lwbody QQ [x0, some (.ref 0), some (.int t), x3, x4, x5, x6, x7, x8, x9, x10, x11] T = .nx [x0, some (.ref 0), some (.int t), y3, y4, y5, y6, y7, y8, y9, y10, x11] T2 ∧ Bx T2 0 := by
  obtain ⟨v, U, p0, p9, hU, hUl, hr⟩ := drawA (X := [.lst []]) (many := 9) hT (by decide)
  obtain ⟨u, U2, u0, u7, hU2, hUl2, hr2⟩ := drawA (X := [.lst []]) (many := 7) hU (by decide)
  have E0 : En T.length 0 U2 [] (fun _ => v) v := ⟨Jn.nil v (by omega), fun _ _ => rfl, rfl, by omega, hU2, by rw [hUl2, hUl]⟩
  obtain ⟨m, hm⟩ : ∃ m : Nat, 1 + u = (m : Int) := ⟨(1 + u).toNat, by omega⟩
  obtain ⟨U3, es, dy, day, y5, E, e3⟩ := entries_ok T.length m (by omega) E0 x0 (some (.int t)) x5 x6 x7 x8 x9 x10 x11
  have J := E.j
  have g := E.get
  have e1 : semS (.asg (.name 3) (.new .nil)) QQ [x0, some (.ref 0), some (.int t), x3, x4, x5, x6, x7, x8, x9, x10, x11] T = .nx [x0, some (.ref 0), some (.int t), some (.ref T.length), x4, x5, x6, x7, x8, x9, x10, x11] (T ++ [.lst []]) :=
    s_asg (d := .ref T.length) (S2 := T ++ [.lst []]) (by simp only [semE, semEs, bind_ok]) rfl
  have e2 : semS (.asg (.name 4) (.call 30 (.cons (.var 1) (.cons (.int 9) .nil)))) QQ [x0, some (.ref 0), some (.int t), some (.ref T.length), x4, x5, x6, x7, x8, x9, x10, x11] (T ++ [.lst []]) = .nx [x0, some (.ref 0), some (.int t), some (.ref T.length), some (.int v), x5, x6, x7, x8, x9, x10, x11] (U ++ [.lst []]) :=
    s_asg (d := .int v) (S2 := U ++ [.lst []]) (by simp only [semE, semEs, List.getElem?_cons_zero, List.getElem?_cons_succ, bind_ok, hr]) rfl
  have hI : semI QQ (.range1 (.bin .add (.int 1) (.call 30 (.cons (.var 1) (.cons (.int 7) .nil))))) [x0, some (.ref 0), some (.int t), some (.ref T.length), some (.int v), x5, x6, x7, x8, x9, x10, x11] (U ++ [.lst []]) = .ok (rangeD 0 m, none) (U2 ++ [.lst []]) := by
    have hlt : (m : Int).natAbs < 4611686018427387904 := by omega
    simp only [semI, semE, semEs, List.getElem?_cons_zero, List.getElem?_cons_succ, bind_ok, hr2, boF, fAdd_int, hm, hlt, if_true, Int.toNat_natCast]
  have e3' : semS (.forr (.name 5) (.range1 (.bin .add (.int 1) (.call 30 (.cons (.var 1) (.cons (.int 7) .nil))))) enbody) QQ [x0, some (.ref 0), some (.int t), some (.ref T.length), some (.int v), x5, x6, x7, x8, x9, x10, x11] (U ++ [.lst []]) = .nx [x0, some (.ref 0), some (.int t), some (.ref T.length), some (.int day), y5, x6, x7, x8, x9, x10, x11] (U3 ++ [.lst es]) := s_for hI e3
  have hll := lawlines_ok 22 (S := U3 ++ [.lst es]) (q := .ref T.length) (es := es) (.inr ⟨_, rfl, g⟩) J.vd (by have := J.len; omega)
  have e4 : semS (.asg (.name 6) (.call 36 (.cons (.var 3) .nil))) QQ [x0, some (.ref 0), some (.int t), some (.ref T.length), some (.int day), y5, x6, x7, x8, x9, x10, x11] (U3 ++ [.lst es]) = .nx [x0, some (.ref 0), some (.int t), some (.ref T.length), some (.int day), y5, some (.lst ((linesOf es).map .str)), x7, x8, x9, x10, x11] (U3 ++ [.lst es]) :=
    s_asg0 (.lst ((linesOf es).map .str)) (by simp only [semE, semEs, List.getElem?_cons_zero, List.getElem?_cons_succ, bind_ok, hll]) rfl
  have e5 : semS (.asg (.name 7) (.int 0)) QQ [x0, some (.ref 0), some (.int t), some (.ref T.length), some (.int day), y5, some (.lst ((linesOf es).map .str)), x7, x8, x9, x10, x11] (U3 ++ [.lst es]) = .nx [x0, some (.ref 0), some (.int t), some (.ref T.length), some (.int day), y5, some (.lst ((linesOf es).map .str)), some (.int 0), x8, x9, x10, x11] (U3 ++ [.lst es]) :=
    s_asg0 (.int 0) (by simp only [semE]) rfl
  obtain ⟨y7, y8, e6⟩ := loopn_ok J g x0 (some (.ref 0)) (some (.int t)) (some (.int day)) y5 x8 x9 x10 x11
  have hI6 : semI QQ (.range1 (.blt .len (.cons (.var 3) .nil))) [x0, some (.ref 0), some (.int t), some (.ref T.length), some (.int day), y5, some (.lst ((linesOf es).map .str)), some (.int 0), x8, x9, x10, x11] (U3 ++ [.lst es]) = .ok (rangeD 0 es.length, none) (U3 ++ [.lst es]) := by
    have hlt : (es.length : Int).natAbs < 4611686018427387904 := by have := J.len; omega
    have hl := fLen_r g
    simp only [semI, semE, semEs, List.getElem?_cons_zero, List.getElem?_cons_succ, bind_ok, biF, hl, hlt, if_true, Int.toNat_natCast]
  have e6' : semS (.forr (.name 8) (.range1 (.blt .len (.cons (.var 3) .nil))) nbody) QQ [x0, some (.ref 0), some (.int t), some (.ref T.length), some (.int day), y5, some (.lst ((linesOf es).map .str)), some (.int 0), x8, x9, x10, x11] (U3 ++ [.lst es]) = .nx [x0, some (.ref 0), some (.int t), some (.ref T.length), some (.int day), y5, some (.lst ((linesOf es).map .str)), y7, y8, x9, x10, x11] (U3 ++ [.lst es]) := s_for hI6 e6
  have hmp : 0 < m := by omega
  obtain ⟨tx, U4, E4, z1⟩ := seg2 (t := t) (x0 := x0) (x5 := y5) (x7 := y7) (x8 := y8) (x9 := x9) (x10 := x10) (x11 := x11) E hmp
  obtain ⟨w, U5, E5, hw, z2⟩ := seg3 (t := t) (x0 := x0) (x5 := y5) (x7 := y7) (x8 := y8) (x9 := some (.str tx)) (x10 := x10) (x11 := x11) E4 hmp (by omega)
  obtain ⟨tx2, z3⟩ := seg4 (t := t) (x0 := x0) (x5 := y5) (x7 := y7) (x8 := y8) (x9 := some (.str tx)) (x11 := x11) E5 hmp (by omega) hw
  have z4 := seg5 (t := t) (x0 := x0) (x5 := y5) (x7 := y7) (x8 := y8) (x9 := some (.str tx2)) (x10 := some (.lst (es ++ [w]))) (x11 := x11) E5 hmp h0
  have z := ((z1.trans z2).trans z3).trans z4
  refine ⟨some (.ref T.length), some (.int day), y5, some (.lst ((linesOf es).map .str)), y7, y8, some (.str (text3 es t)), some (.lst (es ++ [w])), U5 ++ [.lst es], ?_, E5.b.app⟩
  exact ss_nx e1 (ss_nx e2 (ss_nx e3' (ss_nx e4 (ss_nx e5 (ss_nx e6' z)))))
theorem law_ok (ns : List Int) : run tb P 31 39 [.scr ns] [] = .ok (.bl true) [] := by
  obtain ⟨dg, hd⟩ := digits_ok 28 ns []
  have key := forG_inv (gd := none) (t := .name 2) (its := rangeD 0 4) (b := semSs lwbody QQ) (r := [some (.scr ns), some (.ref 0), none, none, none, none, none, none, none, none, none, none]) (S := [.lst [.lst (dg.map .int), .int 0]])
    (fun i rr SS => ∃ y2 y3 y4 y5 y6 y7 y8 y9 y10 y11, rr = [some (.scr ns), some (.ref 0), y2, y3, y4, y5, y6, y7, y8, y9, y10, y11] ∧ Bx SS 0)
    ⟨_, _, _, _, _, _, _, _, _, _, rfl, dg, 0, rfl⟩ (fun _ _ _ _ _ => trivial) ?_
  · obtain ⟨r3, S3, e3, y2, y3, y4, y5, y6, y7, y8, y9, y10, y11, rfl, hB⟩ := key
    have e1 : semS (.asg (.name 1) (.new (.cons (.call 29 (.cons (.var 0) (.cons (.int 0) (.cons (.int 63) .nil)))) (.cons (.int 0) .nil)))) QQ [some (.scr ns), none, none, none, none, none, none, none, none, none, none, none] [] = .nx [some (.scr ns), some (.ref 0), none, none, none, none, none, none, none, none, none, none] [.lst [.lst (dg.map .int), .int 0]] :=
      s_asg (d := .ref 0) (S2 := [.lst [.lst (dg.map .int), .int 0]]) (by simp only [semE, semEs, List.getElem?_cons_zero, bind_ok, hd]; rfl) rfl
    have hI : semI QQ (.range1 (.int 4)) [some (.scr ns), some (.ref 0), none, none, none, none, none, none, none, none, none, none] [.lst [.lst (dg.map .int), .int 0]] = .ok (rangeD 0 4, none) [.lst [.lst (dg.map .int), .int 0]] := by
      simp only [semI, semE, bind_ok]
      rw [if_pos (by decide)]
      rfl
    have e2 : semS (.forr (.name 2) (.range1 (.int 4)) lwbody) QQ [some (.scr ns), some (.ref 0), none, none, none, none, none, none, none, none, none, none] [.lst [.lst (dg.map .int), .int 0]] = .nx [some (.scr ns), some (.ref 0), y2, y3, y4, y5, y6, y7, y8, y9, y10, y11] S3 := s_for hI e3
    have e4 : semS (.ret (.bl true)) QQ [some (.scr ns), some (.ref 0), y2, y3, y4, y5, y6, y7, y8, y9, y10, y11] S3 = .ret (.bl true) S3 := s_ret0 (by simp only [semE])
    have ez : semSs a_law QQ [some (.scr ns), none, none, none, none, none, none, none, none, none, none, none] [] = .ret (.bl true) S3 := ss_nx e1 (ss_nx e2 (ss_ret e4))
    exact run_of (d := d_39) rfl rfl ez (fin_plT (S := []) (T := S3) rfl)
  · rintro i rr SS d hd2 ⟨y2, y3, y4, y5, y6, y7, y8, y9, y10, y11, rfl, hB⟩
    obtain ⟨hi, rfl⟩ := range_item hd2
    obtain ⟨z3, z4, z5, z6, z7, z8, z9, z10, T2, e, hB2⟩ := turn_ok hB (t := (i : Nat)) (by omega) (some (.scr ns)) y3 y4 y5 y6 y7 y8 y9 y10 y11
    exact ⟨_, rfl, _, _, .inl e, _, _, _, _, _, _, _, _, _, _, rfl, hB2⟩
end K37
open PySem PySem.W PyProof.Rows
theorem PySem.Challenge.cw_bothdays_k37_journal_chained_holds : PySem.Challenge.rw_bothdays_k37_journal_chained.Holds := by
  exact k37_of (D := 31) (by decide) fun ns _ => K37.law_ok ns
