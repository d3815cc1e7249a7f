import PyProof.Rows.All
import Wide.All
import OpenK.AllK
import Wide.FinOn
import HandS.ForMost
import HandS.Exc
import HandS.ExcInit
import HandS.ExcField
import HandS.ExcIs
import HandS.Defaults
import HandS.HeadHook1
import HandS.HeadHook2
import HandS.HeadHook3
import HandS.HeadHook4
import KE.KStateDown
import HandS.Head0
import HandS.Head1
import HandS.Head2
import HandS.HeadEnd
import PySem.Challenge.RW_highenough_k83_one_sign_of_a_log_changed
import HandS.Conv
import HandS.Wide
import HandS.StrSplit
import HandS.StrMore
import HandS.Walk
import HandS.ExcOwn
import HandS.TryOnly
import HandS.WordsExc
import HandS.ExcCtx
import HandS.HotCalls
import HandS.ExcInitHot
import HandS.IsInst
import HandS.DictComp
import HandS.Iter
set_option Elab.async false
set_option linter.all false
set_option maxRecDepth 100000
set_option maxHeartbeats 4000000
namespace Ecom
open PySem PySem.Spec PyProof.Rows L2
/-! own exception classes over an own base: facts that a Hook can look at -/
def oexB (K : PySem.W.Frag) (C : Addr) : Bool := (match K.lookup C with
  | some ⟨.type c, _, .cls cd, sl⟩ => (match cd.mro, sl.toList with
    | .ref C' :: bm, [_, _, _, _, some (.builtin n), _] => decide (c = "type") && (decide (C' = C) && (decide (n = "ValueError.__new__") && (cd.hasDict && (!cd.hasDel && PySem.HandSPX.refsVE bm))))
    | _, _ => false)
  | _ => false)
theorem oexB_ok {K : PySem.W.Frag} {C : Addr} (h : oexB K C = true) :
    ∃ nm q N bs bm sn sub ab col dd k0 k1 k2 k3 k5, K.lookup C = some (excClassObj nm q C N bs bm true sn sub ab col dd k0 k1 k2 k3 k5 "ValueError.__new__") ∧ PySem.HandSPX.refsVE bm = true := by
  unfold oexB at h
  split at h
  · rename_i c dd cd sl hl
    split at h
    · rename_i C' bm k0 k1 k2 k3 n k5 hm hs
      simp only [Bool.and_eq_true, decide_eq_true_eq, Bool.not_eq_true'] at h
      obtain ⟨rfl, rfl, rfl, hd, hdel, hr⟩ := h
      obtain ⟨nm, bases, mro, ns, qn, hdct, sn, sub, ab, col, hasDel⟩ := cd
      simp only at hd hdel hm
      subst hd hdel hm
      have es : sl = #[k0, k1, k2, k3, some (.builtin "ValueError.__new__"), k5] := by
        have := congrArg List.toArray hs
        simpa using this
      subst es
      exact ⟨nm, qn, ns, bases, bm, sn, sub, ab, col, dd, k0, k1, k2, k3, k5, hl, hr⟩
    · cases h
  · cases h
/-- all of an own error class at C with fields fs: made, raised, held, read, asked by isinstance -/
structure ErrC (K : PySem.W.Frag) (C : Addr) : Prop where
  o : OexC K C
  x : XfC K C
  e : ExcC K C
def errB (K : PySem.W.Frag) (C : Addr) : Bool := oexB K C &&
  (decide (PySem.W.findIn K (.ref C) "__setattr__" = some (some (.builtin "object.__setattr__"))) &&
  (decide (PySem.W.typeIn K (.ref C) = some (.type "type")) &&
  (PySem.W.keepIn K (.ref C) &&
  (xfB K C &&
  (decide (PySem.W.findIn K (.ref C) "__class__" = some (some (.builtin "object.__class__"))) &&
  (decide (PySem.W.specialIn K (.builtin "object.__class__") "__get__" = some (some (.builtin "getset_descriptor.__get__"))) &&
  (decide (PySem.W.takesIn K (.builtin "object.__class__") = some true) &&
   decide (PySem.W.mroIn K C (.type "object") = some true))))))))
theorem errB_ok {K : PySem.W.Frag} {C : Addr} (h : errB K C = true) : ErrC K C := by
  unfold errB at h
  simp only [Bool.and_eq_true, decide_eq_true_eq] at h
  obtain ⟨h1, h2, h3, h4, h5, h6, h7, h8, h9⟩ := h
  have X := xfB_ok h5
  exact ⟨⟨oexB_ok h1, h2, X.exC, h3, h4⟩, X, ⟨X.ga, X.gg, X.exC, X.hdC, h6, h7, h8, h9⟩⟩
/-- the base class, whose __init__ (the built-in one) is called by its name -/
structure BasC (K : PySem.W.Frag) (C : Addr) : Prop where
  hg : PySem.W.specialIn K (.ref C) "__getattribute__" = some (some (.builtin "type.__getattribute__"))
  hr : PySem.W.readsIn K C (.type "type") = true
  hf : PySem.W.findCls K (.ref C) (.type "type") "__init__" = some (.val (.builtin "ValueError.__init__"))
def basB (K : PySem.W.Frag) (C : Addr) : Bool := decide (PySem.W.specialIn K (.ref C) "__getattribute__" = some (some (.builtin "type.__getattribute__"))) &&
  (PySem.W.readsIn K C (.type "type") &&
  (match PySem.W.findCls K (.ref C) (.type "type") "__init__" with
    | some (.val (.builtin n)) => decide (n = "ValueError.__init__")
    | _ => false))
theorem basB_ok {K : PySem.W.Frag} {C : Addr} (h : basB K C = true) : BasC K C := by
  unfold basB at h
  simp only [Bool.and_eq_true, decide_eq_true_eq] at h
  obtain ⟨h1, h2, h3⟩ := h
  refine ⟨h1, h2, ?_⟩
  split at h3
  · rename_i n e
    rw [e, of_decide_eq_true h3]
  · cases h3
section
variable {X : Cx} {e : Expr} {es : List Expr} {ta : TA} {p1 p2 pos : Pos}
/-- B.__init__(self, ..), B an own class that has the built-in __init__ -/
theorem pe_binit {pl : Sem Bool} {B : Addr} {x : Str} (hg : Gl X x) (hm : X.mg x = some (.ref B)) (T : BasC X.K B) (ha : PA X (e :: es) ta) (hdb : (x == ("__debug__" : Str)) = false := by decide)
    (hc : eval (.Call (.Attribute (.Name x p1) "__init__" p2) (e :: es) [] pos) X.env = (do
      let ov ← eval (.Name x p1) X.env
      standAt p2.atName
      let (f, first) ← holding [ov] (getMethod ov "__init__" pl)
      callWith pos f first (backTo pos (starEach (e :: es) X.env)) (backToKw pos (keywordEach [] X.env))) := by rfl)
    (he : starEach (e :: es) X.env = (false, eval e X.env) :: starEach es X.env := by rfl) (hpl : (backTo pos (starEach es X.env)).any (·.1) = false := by rfl) :
    PE X (.Call (.Attribute (.Name x p1) "__init__" p2) (e :: es) [] pos) (tVeI X.K ta) := by
  refine ⟨fun pins s σ H Q I h => ?_⟩
  refine PySem.W.methodCall_KW (ld_glob I hg hm ?_ hdb) hc
  refine PySem.W.method_cls I.kIn T.hg (PySem.W.cls_value I.kIn T.hr T.hf (by decide +kernel) ?_)
  show wpAny _ _ (callWith pos (Value.builtin "ValueError.__init__") [] (backTo pos (starEach (e :: es) X.env)) []) _ _ _
  refine PyProof.Rows.callWith_method1 (thn (ha.run pos pins _ σ H _ (I.tok _) h) fun us s1 ⟨vs, H1, I1, r1, a, C, ws, ev, hl, T, ea, q⟩ => ?_) he hpl
  subst ev
  cases r1 with
  | @cons _ u0 _ ur ra rw' =>
    obtain rfl : u0 = Value.ref a := ra
    have hlen : ur.length ≤ sizeLine := by
      rw [← Paired.length rw', sizeLine_eq]
      omega
    exact oinit_ok T I1 ea hlen fun s' J => ⟨.non, H1, J, rfl, q⟩
end
/-! the Hook: HeadHook4's, with the interpreter's own statics looked at, too -/
def asY (g : Addr → Option Obj) (n : Nat) : List Addr := cStatics :: He.asD g n
abbrev AlY : Type := He.AlT × Bool
def obsY (n : Nat) (fa : List He.Fa) (fn : List He.DefD) (ts : List He.Tab) (ex : PySem.W.Frag → Bool) (g : Addr → Option Obj) : AlY := (He.obsT fa fn ts (He.frG g (asY g n)), ex (He.frG g (asY g n)))
def valY (fn : List He.DefD) (ts : List He.Tab) (w : World) : AlY := (He.valT fn ts w, true)
structure SaysY (fa : List He.Fa) (fn : List He.DefD) (ts : List He.Tab) (ex : PySem.W.Frag → Bool) (w : World) (K : PySem.W.Frag) : Prop where
  t : He.SaysT fa fn ts w K
  more : ex K = true
def hookY (n : Nat) (fa : List He.Fa) (fn : List He.DefD) (ts : List He.Tab) (ex : PySem.W.Frag → Bool) : PySem.W.Hook where
  α := AlY
  obs := fun s => obsY n fa fn ts ex s.heap.get?
  val := fun w => valY fn ts w
  says := fun w h => ∃ K : PySem.W.Frag, K.In h ∧ SaysY fa fn ts ex w K
  of := fun _ _ e => ⟨_, He.frG_in, congrArg (fun z : AlY => z.1) e, congrArg (fun z : AlY => z.2) e⟩
  keeps := fun _ _ _ ⟨K, hK, c⟩ k => ⟨K, PySem.W.Frag.In.keeps hK k, c⟩
theorem obsY_eq {n : Nat} {fa : List He.Fa} {fn : List He.DefD} {ts : List He.Tab} {ex : PySem.W.Frag → Bool} {g : Addr → Option Obj} {s : Shared} (h : ∀ a, g a = s.heap.get? a) : obsY n fa fn ts ex g = (hookY n fa fn ts ex).obs s := by
  have e : g = s.heap.get? := funext h
  rw [e] <;> rfl
end Ecom

set_option Elab.async false
set_option linter.all false
set_option maxRecDepth 100000
set_option maxHeartbeats 0
namespace K83
open PySem PySem.Spec PyProof.Rows L2
def top (i : Nat) : Stmt := PySem.Challenge.pw_highenough_k83_one_sign_of_a_log_changed.main.body.getD i (.Pass ⟨0, 0, 0, 0⟩)
abbrev s__wall : Stmt := top 0
abbrev s_bound : Stmt := top 15
abbrev s_row_sum : Stmt := top 17
abbrev s_is_row : Stmt := top 18
abbrev s_log_line : Stmt := top 19
abbrev s_row_of : Stmt := top 20
abbrev s_recover_log : Stmt := top 21
abbrev s_with_item : Stmt := top 23
abbrev s__law_b_signs : Stmt := top 28
abbrev s__law_b_drawn_words : Stmt := top 29
abbrev s__law_b_check : Stmt := top 30
abbrev s__law_b_line : Stmt := top 31
abbrev s__law_b_log : Stmt := top 32
abbrev s__law_source : Stmt := top 33
abbrev s__law_pick : Stmt := top 34
abbrev s__law_same : Stmt := top 35
abbrev s__law_fault : Stmt := top 36
abbrev s__law_b_stored : Stmt := top 37
abbrev s__law_b_spot : Stmt := top 38
abbrev s__law_b_other : Stmt := top 39
abbrev s__law_b_kept : Stmt := top 40
abbrev s_law : Stmt := top 41
abbrev s_TooMany___init__ : Stmt := inClass (top 3) 0
abbrev s_BadText___init__ : Stmt := inClass (top 4) 0
abbrev s_BadPlant___init__ : Stmt := inClass (top 5) 0
abbrev s_BadCode___init__ : Stmt := inClass (top 6) 0
abbrev s_BadMove___init__ : Stmt := inClass (top 7) 0
abbrev s_BadTrace___init__ : Stmt := inClass (top 8) 0
abbrev s_BadPaper___init__ : Stmt := inClass (top 9) 0
abbrev s_BadSeats___init__ : Stmt := inClass (top 10) 0
abbrev s_BadDisk___init__ : Stmt := inClass (top 11) 0
abbrev s_BadDeed___init__ : Stmt := inClass (top 12) 0
abbrev s_Disk___init__ : Stmt := inClass (top 24) 0
abbrev s_Disk_spend : Stmt := inClass (top 24) 1
abbrev s_Disk_write_to : Stmt := inClass (top 24) 2
abbrev s_Disk_trim : Stmt := inClass (top 24) 3
abbrev s_Disk_sync : Stmt := inClass (top 24) 4
abbrev s_Disk_read_from : Stmt := inClass (top 24) 5
abbrev s_Disk_waiting : Stmt := inClass (top 24) 6
abbrev s_Disk_again : Stmt := inClass (top 24) 7
abbrev s_Store___init__ : Stmt := inClass (top 26) 0
abbrev s_Store_add_row : Stmt := inClass (top 26) 1
abbrev s_Store_rows : Stmt := inClass (top 26) 2
def d__wall : He.DefD := ⟨("_wall", none), "_wall", "_wall", defArgs s__wall, defBody s__wall, defScope s__wall, [], []⟩
def d_bound : He.DefD := ⟨("bound", none), "bound", "bound", defArgs s_bound, defBody s_bound, defScope s_bound, [], []⟩
def d_row_sum : He.DefD := ⟨("row_sum", none), "row_sum", "row_sum", defArgs s_row_sum, defBody s_row_sum, defScope s_row_sum, [], []⟩
def d_is_row : He.DefD := ⟨("is_row", none), "is_row", "is_row", defArgs s_is_row, defBody s_is_row, defScope s_is_row, [], []⟩
def d_log_line : He.DefD := ⟨("log_line", none), "log_line", "log_line", defArgs s_log_line, defBody s_log_line, defScope s_log_line, [], []⟩
def d_row_of : He.DefD := ⟨("row_of", none), "row_of", "row_of", defArgs s_row_of, defBody s_row_of, defScope s_row_of, [], []⟩
def d_recover_log : He.DefD := ⟨("recover_log", none), "recover_log", "recover_log", defArgs s_recover_log, defBody s_recover_log, defScope s_recover_log, [], []⟩
def d_with_item : He.DefD := ⟨("with_item", none), "with_item", "with_item", defArgs s_with_item, defBody s_with_item, defScope s_with_item, [], []⟩
def d__law_b_signs : He.DefD := ⟨("_law_b_signs", none), "_law_b_signs", "_law_b_signs", defArgs s__law_b_signs, defBody s__law_b_signs, defScope s__law_b_signs, [], []⟩
def d__law_b_drawn_words : He.DefD := ⟨("_law_b_drawn_words", none), "_law_b_drawn_words", "_law_b_drawn_words", defArgs s__law_b_drawn_words, defBody s__law_b_drawn_words, defScope s__law_b_drawn_words, [], []⟩
def d__law_b_check : He.DefD := ⟨("_law_b_check", none), "_law_b_check", "_law_b_check", defArgs s__law_b_check, defBody s__law_b_check, defScope s__law_b_check, [], []⟩
def d__law_b_line : He.DefD := ⟨("_law_b_line", none), "_law_b_line", "_law_b_line", defArgs s__law_b_line, defBody s__law_b_line, defScope s__law_b_line, [], []⟩
def d__law_b_log : He.DefD := ⟨("_law_b_log", none), "_law_b_log", "_law_b_log", defArgs s__law_b_log, defBody s__law_b_log, defScope s__law_b_log, [], []⟩
def d__law_source : He.DefD := ⟨("_law_source", none), "_law_source", "_law_source", defArgs s__law_source, defBody s__law_source, defScope s__law_source, [], []⟩
def d__law_pick : He.DefD := ⟨("_law_pick", none), "_law_pick", "_law_pick", defArgs s__law_pick, defBody s__law_pick, defScope s__law_pick, [], []⟩
def d__law_same : He.DefD := ⟨("_law_same", none), "_law_same", "_law_same", defArgs s__law_same, defBody s__law_same, defScope s__law_same, [], []⟩
def d__law_fault : He.DefD := ⟨("_law_fault", none), "_law_fault", "_law_fault", defArgs s__law_fault, defBody s__law_fault, defScope s__law_fault, [], []⟩
def d__law_b_stored : He.DefD := ⟨("_law_b_stored", none), "_law_b_stored", "_law_b_stored", defArgs s__law_b_stored, defBody s__law_b_stored, defScope s__law_b_stored, [], []⟩
def d__law_b_spot : He.DefD := ⟨("_law_b_spot", none), "_law_b_spot", "_law_b_spot", defArgs s__law_b_spot, defBody s__law_b_spot, defScope s__law_b_spot, [], []⟩
def d__law_b_other : He.DefD := ⟨("_law_b_other", none), "_law_b_other", "_law_b_other", defArgs s__law_b_other, defBody s__law_b_other, defScope s__law_b_other, [], []⟩
def d__law_b_kept : He.DefD := ⟨("_law_b_kept", none), "_law_b_kept", "_law_b_kept", defArgs s__law_b_kept, defBody s__law_b_kept, defScope s__law_b_kept, [], []⟩
def d_law : He.DefD := ⟨("law", none), "law", "law", defArgs s_law, defBody s_law, defScope s_law, [], []⟩
def d_TooMany___init__ : He.DefD := ⟨("TooMany", some "__init__"), "__init__", "TooMany.__init__", defArgs s_TooMany___init__, defBody s_TooMany___init__, defScope s_TooMany___init__, [], []⟩
def d_BadText___init__ : He.DefD := ⟨("BadText", some "__init__"), "__init__", "BadText.__init__", defArgs s_BadText___init__, defBody s_BadText___init__, defScope s_BadText___init__, [], []⟩
def d_BadPlant___init__ : He.DefD := ⟨("BadPlant", some "__init__"), "__init__", "BadPlant.__init__", defArgs s_BadPlant___init__, defBody s_BadPlant___init__, defScope s_BadPlant___init__, [], []⟩
def d_BadCode___init__ : He.DefD := ⟨("BadCode", some "__init__"), "__init__", "BadCode.__init__", defArgs s_BadCode___init__, defBody s_BadCode___init__, defScope s_BadCode___init__, [], []⟩
def d_BadMove___init__ : He.DefD := ⟨("BadMove", some "__init__"), "__init__", "BadMove.__init__", defArgs s_BadMove___init__, defBody s_BadMove___init__, defScope s_BadMove___init__, [], []⟩
def d_BadTrace___init__ : He.DefD := ⟨("BadTrace", some "__init__"), "__init__", "BadTrace.__init__", defArgs s_BadTrace___init__, defBody s_BadTrace___init__, defScope s_BadTrace___init__, [], []⟩
def d_BadPaper___init__ : He.DefD := ⟨("BadPaper", some "__init__"), "__init__", "BadPaper.__init__", defArgs s_BadPaper___init__, defBody s_BadPaper___init__, defScope s_BadPaper___init__, [], []⟩
def d_BadSeats___init__ : He.DefD := ⟨("BadSeats", some "__init__"), "__init__", "BadSeats.__init__", defArgs s_BadSeats___init__, defBody s_BadSeats___init__, defScope s_BadSeats___init__, [], []⟩
def d_BadDisk___init__ : He.DefD := ⟨("BadDisk", some "__init__"), "__init__", "BadDisk.__init__", defArgs s_BadDisk___init__, defBody s_BadDisk___init__, defScope s_BadDisk___init__, [], []⟩
def d_BadDeed___init__ : He.DefD := ⟨("BadDeed", some "__init__"), "__init__", "BadDeed.__init__", defArgs s_BadDeed___init__, defBody s_BadDeed___init__, defScope s_BadDeed___init__, [], []⟩
def d_Disk___init__ : He.DefD := ⟨("Disk", some "__init__"), "__init__", "Disk.__init__", defArgs s_Disk___init__, defBody s_Disk___init__, defScope s_Disk___init__, [], []⟩
def d_Disk_spend : He.DefD := ⟨("Disk", some "spend"), "spend", "Disk.spend", defArgs s_Disk_spend, defBody s_Disk_spend, defScope s_Disk_spend, [], []⟩
def d_Disk_write_to : He.DefD := ⟨("Disk", some "write_to"), "write_to", "Disk.write_to", defArgs s_Disk_write_to, defBody s_Disk_write_to, defScope s_Disk_write_to, [], []⟩
def d_Disk_trim : He.DefD := ⟨("Disk", some "trim"), "trim", "Disk.trim", defArgs s_Disk_trim, defBody s_Disk_trim, defScope s_Disk_trim, [], []⟩
def d_Disk_sync : He.DefD := ⟨("Disk", some "sync"), "sync", "Disk.sync", defArgs s_Disk_sync, defBody s_Disk_sync, defScope s_Disk_sync, [], []⟩
def d_Disk_read_from : He.DefD := ⟨("Disk", some "read_from"), "read_from", "Disk.read_from", defArgs s_Disk_read_from, defBody s_Disk_read_from, defScope s_Disk_read_from, [], []⟩
def d_Disk_waiting : He.DefD := ⟨("Disk", some "waiting"), "waiting", "Disk.waiting", defArgs s_Disk_waiting, defBody s_Disk_waiting, defScope s_Disk_waiting, [], []⟩
def d_Disk_again : He.DefD := ⟨("Disk", some "again"), "again", "Disk.again", defArgs s_Disk_again, defBody s_Disk_again, defScope s_Disk_again, [], []⟩
def d_Store___init__ : He.DefD := ⟨("Store", some "__init__"), "__init__", "Store.__init__", defArgs s_Store___init__, defBody s_Store___init__, defScope s_Store___init__, [], []⟩
def d_Store_add_row : He.DefD := ⟨("Store", some "add_row"), "add_row", "Store.add_row", defArgs s_Store_add_row, defBody s_Store_add_row, defScope s_Store_add_row, [], []⟩
def d_Store_rows : He.DefD := ⟨("Store", some "rows"), "rows", "Store.rows", defArgs s_Store_rows, defBody s_Store_rows, defScope s_Store_rows, [], []⟩
def fn : List He.DefD := [d__wall, d_bound, d_row_sum, d_is_row, d_log_line, d_row_of, d_recover_log, d_with_item, d__law_b_signs, d__law_b_drawn_words, d__law_b_check, d__law_b_line, d__law_b_log, d__law_source, d__law_pick, d__law_same, d__law_fault, d__law_b_stored, d__law_b_spot, d__law_b_other, d__law_b_kept, d_law, d_TooMany___init__, d_BadText___init__, d_BadPlant___init__, d_BadCode___init__, d_BadMove___init__, d_BadTrace___init__, d_BadPaper___init__, d_BadSeats___init__, d_BadDisk___init__, d_BadDeed___init__, d_Disk___init__, d_Disk_spend, d_Disk_write_to, d_Disk_trim, d_Disk_sync, d_Disk_read_from, d_Disk_waiting, d_Disk_again, d_Store___init__, d_Store_add_row, d_Store_rows]
def fa : List He.Fa := [.glo "_wall", .glo "bound", .glo "row_sum", .glo "is_row", .glo "log_line", .glo "row_of", .glo "recover_log", .glo "with_item", .glo "_law_b_signs", .glo "_law_b_drawn_words", .glo "_law_b_check", .glo "_law_b_line", .glo "_law_b_log", .glo "_law_source", .glo "_law_pick", .glo "_law_same", .glo "_law_fault", .glo "_law_b_stored", .glo "_law_b_spot", .glo "_law_b_other", .glo "_law_b_kept", .glo "law", .glo "HighError", .glo "TooMany", .glo "BadText", .glo "BadPlant", .glo "BadCode", .glo "BadMove", .glo "BadTrace", .glo "BadPaper", .glo "BadSeats", .glo "BadDisk", .glo "BadDeed", .glo "Disk", .glo "Store", .glo "LIMITS", .free "len", .free "range", .free "enumerate", .free "ord", .free "divmod", .free "all", .free "str", .free "tuple", .free "int", .free "abs", .free "sum", .free "isinstance", .free "bool", .free "dict", .free "list", .free "sorted", .free "ValueError", .cls "Disk", .mkr "Disk", .meth "Disk" "spend", .meth "Disk" "write_to", .meth "Disk" "trim", .meth "Disk" "sync", .meth "Disk" "read_from", .meth "Disk" "waiting", .meth "Disk" "again", .noat "Disk" "own_power", .noat "Disk" "own_synced", .noat "Disk" "own_files", .noat "Disk" "own_items", .cls "Store", .mkr "Store", .meth "Store" "add_row", .meth "Store" "rows", .noat "Store" "own_disk", .noat "Store" "own_rows"]
def vals_LIMITS : List (Str × He.Dv) := [("lines", .int 400), ("words", .int 60), ("depth", .int 12), ("number", .int 18446744073709551615), ("heights", .int 6), ("kinds", .int 12), ("cells", .int 12), ("touches", .int 24), ("tolds", .int 8), ("events", .int 60), ("promises", .int 20), ("copies", .int 30), ("rows", .int 400), ("moves", .int 10000), ("run", .int 1300), ("states", .int 20000), ("table", .int 4000), ("leaves", .int 2000), ("names", .int 5), ("log", .int 2000), ("signs", .int 2000)]
def ts : List He.Tab := [(fun K => He.ga K "LIMITS", ["lines", "words", "depth", "number", "heights", "kinds", "cells", "touches", "tolds", "events", "promises", "copies", "rows", "moves", "run", "states", "table", "leaves", "names", "log", "signs"])]
def errs : List Str := ["TooMany", "BadText", "BadPlant", "BadCode", "BadMove", "BadTrace", "BadPaper", "BadSeats", "BadDisk", "BadDeed"]
/-- the errors that the code makes, their one field -/
def made : List (Str × Str) := [("TooMany", "what"), ("BadDeed", "what"), ("BadDisk", "number")]
def iniB (K : PySem.W.Frag) (q : Str × Str) : Bool := decide (PySem.W.findIn K (.ref (He.ga K q.1)) "__init__" = some (some (.ref (He.ma K (He.ga K q.1) "__init__")))) &&
  (decide (PySem.W.typeIn K (.ref (He.ma K (He.ga K q.1) "__init__")) = some (.type "function")) && decide (PySem.W.findIn K (.ref (He.ga K q.1)) q.2 = some none))
def ex (K : PySem.W.Frag) : Bool := made.all (iniB K) && (He.valsB K (He.ga K "LIMITS") vals_LIMITS &&
  (Ecom.basB K (He.ga K "HighError") &&
  ((errs.all fun x => Ecom.errB K (He.ga K x)) &&
  ((errs.all fun x => decide (PySem.W.exmOne K (.ref (He.ga K x)) (.ref (He.ga K "HighError")) = some true)) &&
  ((errs.all fun x => errs.all fun y => decide (PySem.W.kitOne K (.ref (He.ga K x)) (.ref (He.ga K y)) = some (decide (x = y)))) &&
  (errs.all fun x => decide (PySem.W.kitOne K (.ref (He.ga K x)) (.ref (He.ga K "HighError")) = some true) && decide (PySem.W.kitOne K (.ref (He.ga K x)) (.type "ValueError") = some true)))))))
abbrev R : PySem.W.OpenRow := PySem.W.OpenLaw.row PySem.Challenge.rw_highenough_k83_one_sign_of_a_log_changed
abbrev hk : PySem.W.Hook := Ecom.hookY 6 fa fn ts ex
def ob (s : PySem.W.SharedT) : Ecom.AlY := Ecom.obsY 6 fa fn ts ex (HandSHeadRun.getT s)
theorem ob_eq (s : PySem.W.SharedT) : ob s = hk.obs s.abs := Ecom.obsY_eq (HandSHeadRun.getT_eq s)
def loose : List Str := (["_wall", "HighError", "TooMany", "BadText", "BadPlant", "BadCode", "BadMove", "BadTrace", "BadPaper", "BadSeats", "BadDisk", "BadDeed", "LIMITS", "bound", "row_sum", "is_row", "log_line", "row_of", "recover_log", "with_item"] : List Str) ++ (["Disk", "Store", "_law_b_signs", "_law_b_drawn_words", "_law_b_check", "_law_b_line", "_law_b_log", "_law_source", "_law_pick", "_law_same", "_law_fault", "_law_b_stored", "_law_b_spot", "_law_b_other", "_law_b_kept"] : List Str)

theorem run_f (w : World) : HandSHeadRun.RunEq R (PySem.W.view R.prog [41]) hk ob 16000 loose (w.withFollow "special-get-raises" false) := by
  intro os
  kernel_rfl
theorem run_t (w : World) : HandSHeadRun.RunEq R (PySem.W.view R.prog [41]) hk ob 16000 loose (w.withFollow "special-get-raises" true) := by
  intro os
  kernel_rfl
theorem run (w : World) : HandSHeadRun.RunEq R (PySem.W.view R.prog [41]) hk ob 16000 loose w := PySem.W.byRow2 "special-get-raises" (P := fun w => HandSHeadRun.RunEq R (PySem.W.view R.prog [41]) hk ob 16000 loose w) run_f run_t w
end K83

set_option Elab.async false
set_option linter.all false
set_option maxRecDepth 100000
set_option maxHeartbeats 4000000
namespace Xtra
open PySem PySem.Spec PyProof.Rows L2
section
variable {X : Cx}
/-- xs[i] of a list, for xs[i] op= e -/
theorem pget_list : PGet X (rIxL X.K) := by
  intro pins s σ H x y v u Q I rx ry h
  obtain ⟨p, xs, i, z, rfl, rfl, hq, he, q⟩ := h
  cases rx
  obtain ⟨t, rfl⟩ := ry
  obtain ⟨its, r, pl, hz⟩ := I.list hq
  obtain ⟨j, h1, h2, h3, h4, h5⟩ := atI_get he
  obtain ⟨w, ew, rw'⟩ := r.get h2
  have hl := r.length
  have hn := line63
  have fin : EP X pins σ Q w s := ⟨z, H, I, rw', q⟩
  by_cases h0 : 0 ≤ i
  · have hj : i.toNat = j := by
      rw [seqIndex_of h0 h5] at h1
      exact Option.some.inj h1
    exact wpAny_getItem_list pl.isList h0 (by omega) (by rw [hj]; simpa using ew) fin
  · have hj : (i + (its.toArray.size : Int)).toNat = j := by
      rw [seqIndex_neg (by omega) h4] at h1
      rw [List.size_toArray, ← hl]
      exact Option.some.inj h1
    exact wpAny_getItem_list_neg pl.isList (by omega) (by rw [List.size_toArray] <;> omega) (by omega) (by rw [hj]; simpa using ew) fin
/-- d[k], d a dict of the module's top with text keys -/
def rKd (K : PySem.W.Frag) (d : Addr) : R2 := fun x y H Q => ∃ (z : Str) (u0 : Value) (v0 : V), x = .ref d ∧ y = .str z ∧ PySem.W.nsIn K d z = some (some u0) ∧ RelV v0 u0 ∧ Q v0 H
theorem ix_kd {d : Addr} {es : Array DictEntry} {n : Nat} (D : KDict X.K X.w d es n) : IxR X (rKd X.K d) := by
  intro value slice pins s σ H x y v u Q I rx ry h hs
  obtain ⟨z, u0, v0, rfl, rfl, e, r, q⟩ := h
  cases rx
  obtain ⟨t, rfl⟩ := ry
  exact subscriptTail_builtinR (x := u0) (kd_type D I) slot_dict_getitem.lookup
    (wpAny_getItem_of (Q := fun r s' => r = u0 ∧ EP X pins σ Q r s') (PySem.strKind_is X.prog X.w z t) (PySem.W.mapOf_K (prog := X.prog) I.kIn D.at_ D.lit) (PySem.W.find_K D.at_ e) ⟨rfl, v0, H, I.tok _, r, q⟩) hs
/-- a text times a whole number -/
def rMulS : R2 := fun x y H Q => ∃ (z : Str) (k : Int), x = .str z ∧ y = .int k ∧ MulOk z k ∧ Q (.str (Txt.mul z k)) H
theorem op_mulS : OpR X (binaryOp .Mult) rMulS := by
  intro pins s σ H x y v u Q I rx ry h
  obtain ⟨z, k, rfl, rfl, hok, q⟩ := h
  obtain ⟨t, rfl⟩ := rx
  obtain ⟨t', rfl⟩ := ry
  exact SB.mul hok fun t2 k2 => ⟨.str (Txt.mul z k), H, I.tok _, ⟨t2, rfl⟩, q⟩
end

/-! ### enumerate(a text) -/
/-- its signs, each in a new pair with its place -/
def Ites (x : Str) : It :=
  ⟨fun i _ => i < x.cps.size, fun i H v H' => ∃ T c, v = .ref T ∧ H T = none ∧ H' = upd H T (.tup [.int (i : Nat), .str ⟨#[c]⟩]) ∧ x.cps[i]? = some c, fun i _ => i = x.cps.size⟩
theorem turn_enumS {P : Program} {w : World} {K : PySem.W.Frag} {elts : List Expr} {kk : Nat} {tpos : Pos} {x : Str} {t : Tok} {ty : String} {e it : Addr}
    (DD : ∀ A : Around, A.handled = none → Draws P w A it [it] x.cps.size (fun i v => ∃ c u, x.cps[i]? = some c ∧ v = .str ⟨#[c]⟩ u) (fun i h => h.IsStrIter it ty x t i)) :
    Turn P w K (.Tuple elts kk tpos) (Ites x) [e, it] e (fun i h => (∃ old, IsEnum h e it ((i : Nat) : Int) old) ∧ h.IsStrIter it ty x t i ∧ e ≠ it) where
  mem := by simp
  obj := fun i h st b hb => by
    obtain ⟨⟨old, he⟩, ⟨o, ho, hc, hd⟩, _⟩ := st
    have e' : b = e ∨ b = it := by simpa using hb
    rcases e' with z | z
    · rw [z]; exact ⟨_, he, fun v q => nomatch q⟩
    · rw [z]; exact ⟨o, ho, fun v q => by rw [hd] at q; cases q⟩
  keep := fun i h h' st k => by
    obtain ⟨⟨old, he⟩, ⟨o, ho, r⟩, hne⟩ := st
    exact ⟨⟨old, k e (by simp) _ he⟩, ⟨o, k it (by simp) _ ho, r⟩, hne⟩
  item := by
    intro X hP hw hK hc i pins s σ H E I hf st hg
    subst hP hw hK
    obtain ⟨⟨old, he⟩, hit, hne⟩ := st
    have hel : e < s.heap.objs.size := Heap.lt_size he
    have hil : it < s.heap.objs.size := by obtain ⟨_, q, _⟩ := hit; exact Heap.lt_size q
    refine wpAny_pyNext_enum_itemD (DD X.A.in1 (I.ok.hd hc)) he hit hg hne (by simpa using hne) fun u h' tk hP ho hit' hT hsz hk => ?_
    obtain ⟨c, tu, hcx, rfl⟩ := hP
    refine ⟨_, rfl, wpAny_letOwnedTupleGo_enum (s := { s with heap := h', toks := tk + 1 }) ho fun h'' he' sb => ?_⟩
    have hT2 : h''.get? s.heap.objs.size = some { cls := .type "tuple", data := .seq #[.int i tk, .str ⟨#[c]⟩ tu] } := (sb.2 _ (Nat.ne_of_gt hel)).trans hT
    have new : ObjOk X.prog X.w (upd H s.heap.objs.size (.tup [.int (i : Nat), .str ⟨#[c]⟩])) h'' s.heap.objs.size (.tup [.int (i : Nat), .str ⟨#[c]⟩]) :=
      ⟨by show 2 ≤ sizeLine; decide, [.int i tk, .str ⟨#[c]⟩ tu], .cons ⟨_, rfl⟩ (.cons ⟨_, rfl⟩ .nil), ⟨_, hT2, rfl, _, rfl⟩⟩
    have I1 : Inv X pins σ (upd H s.heap.objs.size (.tup [.int (i : Nat), .str ⟨#[c]⟩])) { s with heap := h'', toks := tk + 1 } :=
      I.turnedNew (ch := [e, it]) (fun b ob hb q => (sb.2 b (fun z => hb (by simp [z]))).trans (hk b ob (fun z => hb (by simp [z])) (fun z => hb (by simp [z])) q)) hf (Nat.le_refl _) new
    have he2 : IsEnum h'' e it ((i + 1 : Nat) : Int) (.str ⟨#[c]⟩ tu) := by
      have e1 : ((i + 1 : Nat) : Int) = (i : Int) + 1 := by omega
      rw [e1]
      exact he'
    have hi2 : h''.IsStrIter it ty x t (i + 1) := by
      obtain ⟨o, ho2, r⟩ := hit'
      exact ⟨o, (sb.2 it (Ne.symm hne)).trans ho2, r⟩
    refine ⟨.ref s.heap.objs.size, _, I1, rfl, ⟨_, c, rfl, I.hok.fresh (Nat.le_refl _), rfl, hcx⟩, ⟨⟨_, he2⟩, hi2, hne⟩, fun b hb => ?_⟩
    have hb' : b < s.heap.objs.size := by
      have e' : b = e ∨ b = it := by simpa using hb
      rcases e' with z | z
      · rw [z]; exact hel
      · rw [z]; exact hil
    rw [upd_ne (Nat.ne_of_lt hb')]
    exact (hf b hb).1
  done := by
    intro X hP hw hK hc i pins s σ H E I hf st hg
    subst hP hw hK
    obtain ⟨⟨old, he⟩, hit, hne⟩ := st
    obtain ⟨f0, f1, f2, f3, f4, f5⟩ := hf it (by simp)
    have hi : i = x.cps.size := hg
    subst hi
    exact wpAny_pyNext_enum_endD (DD X.A.in1 (I.ok.hd hc)) he hit fun h' eb => ⟨rfl, I.turned (t' := s.toks) (fun b o hb q => eb b o hb q) f0 f1 f3 f4 f5⟩
  self := fun A i s Q E st h => let ⟨⟨_, he⟩, _⟩ := st; wpAny_pyIter_enum he h
def iEnumS (ta : TA) : TI := fun σ H R => ta σ H fun vs H1 => ∃ x, vs = [.str x] ∧ R (Ites x) H1
theorem pi_enumS {X : Cx} {e : Expr} {ta : TA} {p pos tpos : Pos} {elts : List Expr} {kk : Nat} (hg : Gl X "enumerate") (hm : X.mg "enumerate" = none) (ha : PA X [e] ta) (hs : starEach [e] X.env = [(false, eval e X.env)] := by rfl) :
    PI X (.Tuple elts kk tpos) (.Call (.Name "enumerate" p) [e] [] pos) (iEnumS ta) := by
  refine ⟨fun pins s σ H R I h => ?_⟩
  refine Call_ (ld_blt I hg hm boot_enumerate (PyProof.Rows.callWith_type1 (thn (ha.run pos pins s σ H _ I h) fun us s1 ⟨vs, H1, I1, r1, q1⟩ => ?_) hs rfl))
  obtain ⟨x, ex, q⟩ := q1
  subst ex
  cases r1 with
  | cons r rr =>
    cases rr
    obtain ⟨t, rfl⟩ := r
    refine call_enumerate_str fun h' he hit hsz hk => wpAny_pyIter_enum he ?_
    have I2 : Inv X pins σ H1 { s1 with heap := h' } := I1.kept (t' := s1.toks) hk
    refine ⟨s1.heap.objs.size + 1, [s1.heap.objs.size + 1, s1.heap.objs.size], _, _, H1, rfl, I2, turn_enumS (x := x) (t := t) (ty := strIterType x) (e := s1.heap.objs.size + 1) (it := s1.heap.objs.size) (fun A hh => ?_), ⟨⟨.none, he⟩, hit, Nat.succ_ne_self _⟩, fun b hb => ?_, q⟩
    · unfold strIterType
      split
      · exact Draws.strAscii hh _ x t
      · exact Draws.strWide hh _ x t
    · have e' : b = s1.heap.objs.size + 1 ∨ b = s1.heap.objs.size := by simpa using hb
      have hle : s1.heap.objs.size ≤ b := by
        rcases e' with z | z
        · rw [z]; exact Nat.le_add_right _ _
        · rw [z]; exact Nat.le_refl _
      exact I1.fpOk hle (I1.hok.fresh hle)
theorem walk_enumS {z : Str} : Walk (Ites z) z.cps.size (fun _ => True) (fun i H v H' => ∃ T c, v = .ref T ∧ H T = none ∧ H' = upd H T (.tup [.int (i : Nat), .str ⟨#[c]⟩]) ∧ z.cps[i]? = some c) :=
  ⟨fun _ _ hi _ => hi, fun _ _ => rfl, fun _ _ _ _ _ _ y => y⟩
end Xtra

set_option Elab.async false
set_option linter.all false
set_option maxRecDepth 100000
set_option maxHeartbeats 4000000
namespace Lw
open PySem PySem.Spec PyProof.Rows L2
/-! ### own defs, bundled -/
theorem passN {X : Cx} : Passes (L2N.CX X.prog X.w) X E0 := fun _ _ _ _ _ _ _ h => by
  obtain ⟨_, _, _, _, _, _, _, _, _, _, _, _, z⟩ := h
  exact z.elim
theorem takesN {X : Cx} : L2N.Takes X (fun _ _ _ _ => False) := fun _ _ x => by
  obtain ⟨_, _, _, _, _, _, _, _, _, _, _, _, _, _, _, _, z⟩ := x
  exact z.elim
structure Cal (P : Program) (w : World) (K : PySem.W.Frag) (mg : Str → Option Value) (base : Heap) (CX : CXT) (k : Nat) (x : Str) (sp : Sp) : Prop where
  ex : ∃ (f : Addr) (fd : FuncData) (ps : List Str), FnOk P w K mg base CX k f fd ps sp ∧ mg x = some (.ref f) ∧ PySem.W.keepIn K (.ref f) = true ∧ Binds K fd ps []
section
variable {X : Cx} {j k : Nat} {x : Str} {p pos : Pos} {e : Expr} {es : List Expr} {t : TA} {sp : Sp} {W : WX}
theorem pe_c (c : Cal X.prog X.w X.K X.mg X.base CX0 k x sp) (hr : Room j X.A) (hk : k ≤ j) (hg : Gl X x) (ha : PA X (e :: es) t)
    (hdb : (x == ("__debug__" : Str)) = false := by decide) (he : starEach (e :: es) X.env = (false, eval e X.env) :: starEach es X.env := by rfl) (hpl : (backTo pos (starEach es X.env)).any (·.1) = false := by rfl) :
    PE X (.Call (.Name x p) (e :: es) [] pos) (tCall sp [] E0 t) := by
  obtain ⟨f, fd, ps, F, hm, kp, b⟩ := c.ex
  exact pe_call F (hr.mono hk) hg hm kp b .nil pass0 ha hdb he hpl
theorem pe_c0 (c : Cal X.prog X.w X.K X.mg X.base CX0 k x sp) (hr : Room j X.A) (hk : k ≤ j) (hg : Gl X x) (hdb : (x == ("__debug__" : Str)) = false := by decide) :
    PE X (.Call (.Name x p) [] [] pos) (tCall sp [] E0 tNil) := by
  obtain ⟨f, fd, ps, F, hm, kp, b⟩ := c.ex
  exact pe_call0 F (hr.mono hk) hg hm kp b .nil pass0 hdb
/-- a def that may raise, called where it does not -/
theorem pe_cq (c : Cal X.prog X.w X.K X.mg X.base (L2N.CX X.prog X.w) k x sp) (hr : Room j X.A) (hk : k ≤ j) (hg : Gl X x) (ha : PA X (e :: es) t)
    (hdb : (x == ("__debug__" : Str)) = false := by decide) (he : starEach (e :: es) X.env = (false, eval e X.env) :: starEach es X.env := by rfl) (hpl : (backTo pos (starEach es X.env)).any (·.1) = false := by rfl) :
    PE X (.Call (.Name x p) (e :: es) [] pos) (tCall sp [] E0 t) := by
  obtain ⟨f, fd, ps, F, hm, kp, b⟩ := c.ex
  exact pe_call F (hr.mono hk) hg hm kp b .nil passN ha hdb he hpl
/-- a def that may raise, what it raises wished for -/
theorem pe_cx (c : Cal X.prog X.w X.K X.mg X.base (L2N.CX X.prog X.w) k x sp) (hr : Room j X.A) (hk : k ≤ j) (hg : Gl X x) (tk : L2N.Takes X W) (ha : PA X (e :: es) t)
    (hdb : (x == ("__debug__" : Str)) = false := by decide) (he : starEach (e :: es) X.env = (false, eval e X.env) :: starEach es X.env := by rfl) (hpl : (backTo pos (starEach es X.env)).any (·.1) = false := by rfl) :
    PE X (.Call (.Name x p) (e :: es) [] pos) (tCallS sp (WE W) t) := by
  obtain ⟨f, fd, ps, F, hm, kp, b⟩ := c.ex
  exact pe_callS F (hr.mono hk) hg hm kp b (fun σ => L2N.passAt tk σ) ha hdb he hpl
end
/-- an expression's ways joined -/
def tMono (t : TE) : TE := fun σ H Q => ∃ Q0 : VK, t σ H Q0 ∧ ∀ x H1, Q0 x H1 → Q x H1
theorem pe_mono {X : Cx} {e : Expr} {t : TE} (h : PE X e t) : PE X e (tMono t) := by
  refine ⟨fun pins s σ H Q I q => ?_⟩
  obtain ⟨Q0, q0, w⟩ := q
  exact thn (h.run pins s σ H Q0 I q0) fun u s1 ⟨x, H1, I1, r1, q1⟩ => ⟨x, H1, I1, r1, w x H1 q1⟩
/-- a statement's ways joined -/
def tCut (t u : TS) : TS := fun D σ H => ∃ Mid : L2.St → Hp → Prop, t { D with nx := Mid } σ H ∧ ∀ σ' H', Mid σ' H' → u D σ' H'
theorem pss_cut {X : Cx} {st : Stmt} {rest : List Stmt} {t u : TS} (h1 : PS X st t) (h2 : PSs X rest u) : PSs X (st :: rest) (tCut t u) := by
  refine ⟨fun pins s σ H D I h => ?_⟩
  obtain ⟨Mid, hm, hu⟩ := h
  refine wpAny_execs_cons (thn (h1.run pins s σ H { D with nx := Mid } I hm) fun f s1 q => ?_)
  cases f with
  | next =>
    obtain ⟨σ', H', I', q⟩ := q
    exact h2.run pins s1 σ' H' D I' (hu σ' H' q)
  | ret v => exact q
  | brk => exact q
  | cont => exact q
/-- the comprehension's list at D, of acc at turn i; R: what else holds -/
def Made (D : Addr) (R : Nat → List V → Hp → Prop) (i : Nat) (H : Hp) : Prop := ∃ acc, H D = some (.lst acc) ∧ acc.length ≤ i ∧ R i acc H
theorem Made.put {D : Addr} {R : Nat → List V → Hp → Prop} {i n : Nat} {H : Hp} {acc : List V} {y : V} (e : H D = some (.lst acc)) (l : acc.length ≤ i) (hi : i < n) (hn : n ≤ sizeLine) (r : R (i + 1) (acc ++ [y]) (upd H D (.lst (acc ++ [y])))) :
    ∃ acc, H D = some (.lst acc) ∧ acc.length < sizeLine ∧ Made D R (i + 1) (upd H D (.lst (acc ++ [y]))) :=
  ⟨acc, e, by omega, acc ++ [y], upd_same, by rw [List.length_append, List.length_singleton]; omega, r⟩
theorem Made.skip {D : Addr} {R : Nat → List V → Hp → Prop} {i : Nat} {H : Hp} {acc : List V} (e : H D = some (.lst acc)) (l : acc.length ≤ i) (r : R (i + 1) acc H) : Made D R (i + 1) H := ⟨acc, e, by omega, r⟩
/-- a comprehension over what is walked -/
theorem lc_mk {J : It} {n : Nat} {G : Hp → Prop} {Y : Nat → Hp → V → Hp → Prop} (wk : Walk J n G Y) {g : TG} {tt : TT} {te : TE} {vs : List Nat} {σ : L2.St} {H1 : Hp} {D : Addr} {Qd : Hp → Prop} (R : Nat → List V → Hp → Prop)
    (h0 : R 0 [] (upd H1 D (.lst []))) (hG : ∀ i acc H, i ≤ n → R i acc H → G H)
    (hs : ∀ i x acc H H', i < n → R i acc H → H D = some (.lst acc) → acc.length ≤ i → Y i H x H' → g x (wipe σ vs) H' fun σ2 H2 => wipe σ2 vs = wipe σ vs ∧ tt σ2 H2 fun b H3 =>
      if b = true then te σ2 H3 fun y H4 => ∃ acc, H4 D = some (.lst acc) ∧ acc.length < sizeLine ∧ Made D R (i + 1) (upd H4 D (.lst (acc ++ [y]))) else Made D R (i + 1) H3)
    (hd : ∀ acc H, R n acc H → H D = some (.lst acc) → acc.length ≤ n → Qd H) :
    ∃ W : Nat → Nat → Hp → Prop, (∃ m, W 0 m (upd H1 D (.lst []))) ∧ ∀ i m H, W i m H →
      (J.stop i H ∧ Qd H) ∨ (J.go i H ∧ ∃ Nx : Hp → Prop, (∀ H', Nx H' → ∃ m', m' < m ∧ W (i + 1) m' H') ∧ ∀ x H', J.yld i H x H' → g x (wipe σ vs) H' fun σ2 H2 => wipe σ2 vs = wipe σ vs ∧ tt σ2 H2 fun b H3 =>
        if b = true then te σ2 H3 fun y H4 => ∃ acc, H4 D = some (.lst acc) ∧ acc.length < sizeLine ∧ Nx (upd H4 D (.lst (acc ++ [y]))) else Nx H3) :=
  lc_it wk (Made D R) ⟨[], upd_same, Nat.le_refl _, h0⟩ (fun i H hi ⟨acc, _, _, r⟩ => hG i acc H hi r) (fun i x H H' hi ⟨acc, e, l, r⟩ y => hs i x acc H H' hi r e l y) (fun H ⟨acc, e, l, r⟩ => hd acc H r e l)
theorem cal_of {P : Program} {w : World} {K : PySem.W.Frag} {mg : Str → Option Value} {base : Heap} {CX : CXT} {k : Nat} {x q : Str} {a : Arguments} {b : List Stmt} {sc : Scope} {ps : List Str} {sp : Sp} {f : Addr} {fd : FuncData}
    (F : FunD K x q a b sc [] [] f fd) (hm : mg x = some (.ref f)) (hb : Binds K fd ps []) (G : FnOk P w K mg base CX k f fd ps sp) : Cal P w K mg base CX k x sp := ⟨f, fd, ps, G, hm, F.kp, hb⟩
/-! ### own errors -/
/-- the class at C may be made and raised -/
structure Err (P : Program) (w : World) (K : PySem.W.Frag) (mg : Str → Option Value) (base : Heap) (k : Nat) (x : Str) (C : Addr) (sp : Sp) : Prop where
  ex : ∃ (fI : Addr) (fd : FuncData) (ps : List Str), OexC K C ∧ PySem.W.findIn K (.ref C) "__init__" = some (some (.ref fI)) ∧ PySem.W.typeIn K (.ref fI) = some (.type "function") ∧ FnOk P w K mg base CX0 k fI fd ps sp ∧ Binds K fd ps [] ∧ mg x = some (.ref C)
/-- an error of the class at C with these fields leaves, all that was tracked as it was -/
def Rz (E : XK) (C : Addr) (H : Hp) (fs : List (Str × V)) : Prop := ∀ (d : Addr) (H' : Hp), H d = none → Same H H' → H' d = some (.xd fs) → E (.ref C) (some d) H'
theorem Rz.same {E : XK} {C : Addr} {H H1 : Hp} {fs : List (Str × V)} (h : Rz E C H fs) (s : Same H H1) : Rz E C H1 fs := fun d H' hd s' e => h d H' (s.free hd) (s.trans s') e
/-- the promise of an __init__ that calls the base's and keeps its one argument in one field -/
def spErr1 (C : Addr) (fld : Str) (ok : V → Prop) : Sp := fun vs H Q _ => ∃ (a : Addr) (y : V), vs = [.ref a, y] ∧ ok y ∧ H a = some (exo a C none) ∧ ∀ d, H d = none → d ≠ a → Q .non (upd (upd H d (exd d [(fld, y)])) a (exo a C (some d)))
theorem mk_err1 {C : Addr} {fld : Str} {ok : V → Prop} {y : V} {H : Hp} {E : XK} (hy : ok y) (h : Rz E C H [(fld, y)]) : [y].length ≤ 1000 ∧ ∀ a, H a = none → spErr1 C fld ok (.ref a :: ([y] ++ [])) (upd H a (exo a C none))
    (fun v H2 => v = .non ∧ ∃ (d : Addr) (fs : List (Str × V)), H2 a = some (exo a C (some d)) ∧ H2 d = some (exd d fs) ∧ H d = none ∧ E (.ref C) (some d) (upd (del H2 a) d (.xd fs))) (fun _ _ _ => False) := by
  refine ⟨(by show 1 ≤ 1000; decide), fun a ha => ⟨a, y, rfl, hy, upd_same, fun d hd hda => ⟨rfl, d, [(fld, y)], upd_same, ?_, ?_, ?_⟩⟩⟩
  · rw [upd_ne hda, upd_same]
  · rw [upd_ne hda] at hd
    exact hd
  · have hd0 : H d = none := by
      rw [upd_ne hda] at hd
      exact hd
    refine h d _ hd0 (fun b o e => ?_) upd_same
    have n1 := ne_of_none e hd0
    have n2 := ne_of_none e ha
    rw [upd_ne n1, del_ne n2, upd_ne n2, upd_ne n1, upd_ne n2]
    exact e
/-! ### built-in names -/
structure Nms (mg : Str → Option Value) : Prop where
  «len» : mg "len" = none
  «range» : mg "range" = none
  «enumerate» : mg "enumerate" = none
  «ord» : mg "ord" = none
  «divmod» : mg "divmod" = none
  «all» : mg "all" = none
  «str» : mg "str" = none
  «tuple» : mg "tuple" = none
  «int» : mg "int" = none
  «abs» : mg "abs" = none
  «sum» : mg "sum" = none
  «isinstance» : mg "isinstance" = none
  «bool» : mg "bool" = none
  «dict» : mg "dict" = none
  «list» : mg "list" = none
  «sorted» : mg "sorted" = none
  «ValueError» : mg "ValueError" = none
/-! ### heaps -/
/-- a source of draws at a -/
def Src (H : Hp) (a : Addr) : Prop := ∃ s0 s1 s2 : Int, H a = some (.lst [.int s0, .int s1, .int s2]) ∧ 0 ≤ s0
/-- all but the source at a stands; it is a source still -/
structure Mv (a : Addr) (H H' : Hp) : Prop where
  keep : ∀ b o, b ≠ a → H b = some o → H' b = some o
  src : Src H' a
theorem Mv.refl {a : Addr} {H : Hp} (h : Src H a) : Mv a H H := ⟨fun _ _ _ e => e, h⟩
theorem Mv.trans {a : Addr} {H H1 H2 : Hp} (x : Mv a H H1) (y : Mv a H1 H2) : Mv a H H2 := ⟨fun b o n e => y.keep b o n (x.keep b o n e), y.src⟩
theorem Mv.same {a : Addr} {H H1 H2 : Hp} (x : Mv a H H1) (y : Same H1 H2) : Mv a H H2 := ⟨fun b o n e => y b o (x.keep b o n e), by
  obtain ⟨s0, s1, s2, e, h⟩ := x.src
  exact ⟨s0, s1, s2, y _ _ e, h⟩⟩
theorem Mv.new {a p : Addr} {H H1 : Hp} {o : HO} (x : Mv a H H1) (h : H1 p = none) : Mv a H (upd H1 p o) := x.same fun b u e => by
  rw [upd_ne (ne_of_none e h)]
  exact e
theorem Mv.set {a : Addr} {H H1 : Hp} {s0 s1 s2 : Int} (x : Mv a H H1) (h : 0 ≤ s0) : Mv a H (upd H1 a (.lst [.int s0, .int s1, .int s2])) := ⟨fun b o n e => by
  rw [upd_ne n]
  exact x.keep b o n e, s0, s1, s2, upd_same, h⟩
theorem Mv.free {a p : Addr} {H H' : Hp} (x : Mv a H H') (hs : Src H a) (h : H' p = none) : H p = none := by
  cases q : H p with
  | none => rfl
  | some o =>
    by_cases e : p = a
    · subst e
      obtain ⟨_, _, _, z, _⟩ := x.src
      rw [z] at h
      cases h
    · rw [x.keep p o e q] at h
      cases h
theorem _root_.L2.Same.new {H : Hp} {p : Addr} {o : HO} (h : H p = none) : Same H (upd H p o) := fun b u e => by
  rw [upd_ne (ne_of_none e h)]
  exact e
theorem _root_.L2.Same.mut {H H' : Hp} {p : Addr} {o : HO} (e : Same H H') (h : H p = none) : Same H (upd H' p o) := fun b u q => by
  rw [upd_ne (ne_of_none q h)]
  exact e b u q
theorem ints_get {ms : List Int} {i : Nat} {x : V} (h : (ms.map V.int)[i]? = some x) : ∃ z, ms[i]? = some z ∧ x = V.int z := by
  rw [List.getElem?_map] at h
  cases q : ms[i]? with
  | none =>
    rw [q] at h
    cases h
  | some z =>
    rw [q] at h
    exact ⟨z, rfl, (Option.some.inj h).symm⟩
theorem strs_get {ms : List Str} {i : Nat} {x : V} (h : (ms.map V.str)[i]? = some x) : ∃ z, ms[i]? = some z ∧ x = V.str z := by
  rw [List.getElem?_map] at h
  cases q : ms[i]? with
  | none =>
    rw [q] at h
    cases h
  | some z =>
    rw [q] at h
    exact ⟨z, rfl, (Option.some.inj h).symm⟩
theorem small_line {n : Nat} (h : n ≤ 16777216) : n ≤ sizeLine := by
  rw [sizeLine_eq]
  exact h
theorem _root_.L2.Same.src {H H' : Hp} {a : Addr} (x : Same H H') (h : Src H a) : Src H' a := by
  obtain ⟨s0, s1, s2, e, q⟩ := h
  exact ⟨s0, s1, s2, x _ _ e, q⟩
/-! ### _law_pick -/
def spPick : Sp := fun vs H Q _ => ∃ (a : Addr) (m : Int), vs = [.ref a, .int m] ∧ Src H a ∧ 0 < m ∧ m < 1073741824 ∧ ∀ (r : Int) (H' : Hp), 0 ≤ r → r < m → Mv a H H' → Q (.int r) H'
end Lw

set_option Elab.async false
set_option linter.all false
set_option maxRecDepth 100000
set_option maxHeartbeats 4000000
/-! the rules that speak of the written part, by K itself (a comprehension's block has it behind a projection) -/
namespace Kx
open PySem PySem.Spec PyProof.Rows L2
section
variable {X : Cx} {K : PySem.W.Frag}
theorem ix_list (h : X.K = K := by rfl) : IxR X (rIxL K) := h ▸ L2.ix_list
theorem ix_tup (h : X.K = K := by rfl) : IxR X (rIxT K) := h ▸ L2.ix_tup
theorem ix_lt (h : X.K = K := by rfl) : IxR X (fun x y H Q => rIxL K x y H Q ∨ rIxT K x y H Q) := IxR.or (ix_list h) (ix_tup h)
theorem pget_list (h : X.K = K := by rfl) : PGet X (rIxL K) := h ▸ Xtra.pget_list
theorem sl_list (h : X.K = K := by rfl) : SlR X (rSlL K) := h ▸ L2.sl_list
theorem sl_tup (h : X.K = K := by rfl) : SlR X (rSlT K) := h ▸ L2.sl_tup
theorem op_in_seq (h : X.K = K := by rfl) : OpR X (compareOp .In) (rIn K false) := h ▸ L2.op_in_seq
theorem op_notIn_seq (h : X.K = K := by rfl) : OpR X (compareOp .NotIn) (rIn K true) := h ▸ L2.op_notIn_seq
theorem op_catT (h : X.K = K := by rfl) : OpR X (binaryOp .Add) (rCatT K) := h ▸ L2.op_catT
theorem op_eqD (hu : X.A.units + 64 < cLine) (h : X.K = K := by rfl) : OpR X (compareOp .Eq) (rEqD K) := h ▸ L2.op_eqD hu
theorem op_neD (hu : X.A.units + 64 < cLine) (h : X.K = K := by rfl) : OpR X (compareOp .NotEq) (rNeD K) := h ▸ L2.op_neD hu
def rLenQ (K : PySem.W.Frag) : List V → Hp → VK → Prop := fun xs H Q => ∃ p ys, xs = [.ref p] ∧ (SqL K H p ys ∨ SqT K H p ys) ∧ Q (.int ys.length) H
theorem call_len_seq (h : X.K = K := by rfl) : CallR X (.builtin "len") (rLenQ K) := h ▸ L2.call_len_seq
def rLstO (K : PySem.W.Frag) : List V → Hp → VK → Prop := fun xs H Q => ∃ p ys, xs = [.ref p] ∧ (SqL K H p ys ∨ SqT K H p ys) ∧ ∀ l, H l = none → Q (.ref l) (upd H l (.lst ys))
theorem call_list_of (h : X.K = K := by rfl) : CallR X (.type "list") (rLstO K) := h ▸ L2.call_list_of
theorem cr_sum (hc : X.calm = true) (h : X.K = K := by rfl) : CallR X (.builtin "sum") (rSum K) := h ▸ L2.cr_sum hc
theorem cr_all (hc : X.calm = true) (h : X.K = K := by rfl) : CallR X (.builtin "all") (rAll K) := h ▸ L2.cr_all hc
theorem cr_any (hc : X.calm = true) (h : X.K = K := by rfl) : CallR X (.builtin "any") (rAny K) := h ▸ L2.cr_any hc
theorem pi_list {tg l : Expr} {tl : TE} (hl : PE X l tl) (h : X.K = K := by rfl) : PI X tg l (iList K tl) := h ▸ L2.pi_list hl
theorem pi_tup {tg l : Expr} {tl : TE} (hl : PE X l tl) (h : X.K = K := by rfl) : PI X tg l (iTup K tl) := h ▸ L2.pi_tup hl
theorem pe_fld {e : Expr} {f : Str} {ta : TE} {pos : Pos} (he : PE X e ta) (hb : attributeBase e f X.env (eval e X.env) = eval e X.env) (h : X.K = K := by rfl) : PE X (.Attribute e f pos) (tFld K ta f) := h ▸ L2.pe_fld he hb
def rJoin (K : PySem.W.Frag) : V → List V → Hp → VK → Prop := fun x xs H Q => ∃ a p, ∃ ys : List Str, x = .str a ∧ xs = [.ref p] ∧ (SqL K H p (ys.map V.str) ∨ SqT K H p (ys.map V.str)) ∧
      (ys.map (·.length)).sum + ys.length * a.length ≤ 16777216 ∧ Q (.str (Txt.join a ys)) H
theorem mt_join (h : X.K = K := by rfl) : MtR X "str.join" (rJoin K) := h ▸ L2.mt_join
theorem pe_join {o e : Expr} {to te : TE} {apos pos : Pos} (ho : PE X o to) (he : PE X e te) (h : X.K = K := by rfl) (hs : starEach [e] X.env = [(false, eval e X.env)] := by rfl) (hbase : attributeBase o "join" X.env (eval o X.env) = eval o X.env := by rfl) (hline : (apos.endLine == pos.line) = true := by rfl) :
    PE X (.Call (.Attribute o "join" apos) [e] [] pos) (tM1 (rJoin K) to te) := pe_m1 F.slot_str_join F.type_str_join (mt_join h) ho he hs hbase hline
theorem pe_tupleOf {a : Expr} {ta : TE} {p pos : Pos} (hg : Gl X "tuple") (hm : X.mg "tuple" = none) (ha : PE X a ta) (h : X.K = K := by rfl) (na : starEach [a] X.env = (false, eval a X.env) :: starEach [] X.env := by rfl) :
    PE X (.Call (.Name "tuple" p) [a] [] pos) (tThen ta (kTup K)) := h ▸ L2.pe_tupleOf hg hm ha na
theorem pg_tup {es : List Expr} {k : Nat} {t : TGs} {n : Nat} {pos : Pos} (hc : X.calm = true) (h : PGs X es t) (hK : X.K = K := by rfl)
    (hn : (assignEach es X.env).length = n := by rfl) (hst : (assignEach es X.env).findIdx? (·.1) = none := by rfl) : PG X (.Tuple es k pos) (gTup K n t) := hK ▸ L2.pg_tup hc h hn hst
end
end Kx

set_option Elab.async false
set_option linter.all false
set_option maxRecDepth 100000
set_option maxHeartbeats 4000000
/-! an own exception with its own dict: made (its context None), held by an except suite, handed to a def there, asked by isinstance, its fields read -/
namespace PySem.W
open PySem PySem.Spec PySem.Calls PyProof.Rows
section
variable {prog : Program} {w : World} {A : Around} {E : Value → Shared → Prop} {s : Shared} {K : Frag} {x D : Addr} {ox : Obj}
theorem findObj_dataD {C : Addr} {od : Option Obj} {name : Str} {a g : Value} (hc : (clsIn K C).isSome = true) (ha : findIn K (.ref C) name = some (some a)) (hg : specialIn K a "__get__" = some (some g)) (ht : takesIn K a = some true) : findObj K C od name = some (.bind g a) := by
  obtain ⟨cd, hc⟩ := Option.isSome_iff_exists.mp hc
  unfold findObj
  rw [hc, Option.bind_some, ha, Option.bind_some]
  simp [hg, ht]
theorem kin_classD {od : Option Obj} {Q : Option Value → Shared → Prop} (hga : findIn K (.ref D) "__getattribute__" = some (some (.builtin "BaseException.__getattribute__"))) (hgt : findIn K (.ref D) "__getattr__" = some none) (hsub : subIn K (.ref D) (.type "BaseException") = some true)
    (hdct : hasDictIn K D = true) (ha : findIn K (.ref D) "__class__" = some (some (.builtin "object.__class__")))
    (hn : specialIn K (.builtin "object.__class__") "__get__" = some (some (.builtin "getset_descriptor.__get__"))) (htk : takesIn K (.builtin "object.__class__") = some true) (hm : mroIn K D (.type "object") = some true)
    (X : K.In s.heap) (I : InstAt s.heap x ox D od) (h : Q (some (.ref D)) { s with toks := s.toks + 1 }) : wpAny (model prog w) A (getAttr? (.ref x) "__class__") Q E s := by
  have hf : findObj K D od "__class__" = some (.bind (.builtin "getset_descriptor.__get__") (.builtin "object.__class__")) := findObj_dataD (by obtain ⟨cd, hc, _⟩ := any_some hdct; rw [hc]; rfl) ha hn htk
  obtain ⟨hp, g, d, t, os⟩ := s
  have L0 := I.type (M := model prog w)
  have L1 := looks_findIn (M := model prog w) X hga
  have L2 := looks_findIn (M := model prog w) X hgt
  have L3 := looks_find (M := model prog w) X I hf
  have sub : Looks (model prog w) hp (isInstance (.ref x) (.type "BaseException")) true := L0.andThen (looks_subIn X hsub)
  have hx0 : (false && onTheHeap (Value.builtin "BaseException.__getattribute__")) = false := rfl
  have hx2 : (Value.builtin "BaseException.__getattribute__" == Value.builtin "object.__getattribute__") = false := by decide +kernel
  have hx1 : (onTheHeap (Value.ref D) && Value.builtin "BaseException.__getattribute__" == Value.builtin "object.__getattribute__") = false := by rw [hx2]; rfl
  unfold getAttr? getAttrBy? getAttrBy
  refine wpAny_bind (wpAny_mkText (wpAny_bind (wpAny_attempt (wpAny_holding (wpAny_bind (L0.at (wpAny_bind (L1.at ?_))))))))
  show wpAny _ _ (if (onTheHeap (Value.ref D) && Value.builtin "BaseException.__getattribute__" == Value.builtin "object.__getattribute__") = true then _ else _) _ _ _
  rw [hx1, if_neg Bool.false_ne_true]
  unfold getAttrByItsOwn hookBefore
  refine wpAny_bind ?_
  rw [if_pos (show onTheHeap (Value.ref D) = true from rfl)]
  refine L2.at ?_
  refine wpAny_bind (wpAny_attempt (wpAny_holding ?_))
  unfold callGetattribute
  rw [hx0, if_neg Bool.false_ne_true]
  unfold boundAndCalled
  rw [PySem.F.excAttr_ValueError.ga.bind (.ref x)]
  refine wpAny_bind (wpAny_pure ?_)
  show wpAny _ _ (call (.builtin "BaseException.__getattribute__") [.ref x, .str "__class__" t]) _ _ _
  refine wpAny_call (codeAny_call_builtin PySem.F.excAttr_ValueError.ga.plain PySem.F.entry_bexc_ga ?_)
  refine @check_slot (model prog w) _ _ ⟨hp, g, d, t + 1, os⟩ "BaseException.__getattribute__" "BaseException" "__getattribute__" (.ref x) [.str "__class__" t] [] _ (by decide +kernel) (by decide +kernel) sub (PySem.F.args_bexc_ga (.ref x) (.str "__class__" t)) ?_
  unfold Builtin.«object.__getattribute__»
  refine wpAny_bind (wpAny_of_eq (a := ((Value.ref x : Value), [Value.str "__class__" t])) (by first | rfl | (simp only [slotArgs]; rfl)) ?_)
  refine wpAny_bind (wpAny_pure (wpAny_bind (L0.at (wpAny_bind (L3.at ?_)))))
  show wpAny _ _ (holding [Value.builtin "object.__class__"] (call (.builtin "getset_descriptor.__get__") [.builtin "object.__class__", .ref x, .ref D]) >>= ret) _ _ _
  refine wpAny_bind (wpAny_holding (wpAny_call (class_get (s := ⟨hp, g, d, t + 1, os⟩) (ox := ox) (od := od) X I hm ?_)))
  refine wpAny_pure ?_
  show wpAny _ _ (handedOut (.ref D)) _ _ _
  rw [handedOut_of (v := .ref D) rfl]
  first
    | exact wpAny_pure (wpAny_pure h)
    | exact wpAny_pure h
    | exact wpAny_pure (wpAny_bind (wpAny_pure (wpAny_pure h)))
theorem kitx_excD (hga : findIn K (.ref D) "__getattribute__" = some (some (.builtin "BaseException.__getattribute__"))) (hgt : findIn K (.ref D) "__getattr__" = some none) (hsub : subIn K (.ref D) (.type "BaseException") = some true) (hdct : hasDictIn K D = true) (ha : findIn K (.ref D) "__class__" = some (some (.builtin "object.__class__")))
    (hn : specialIn K (.builtin "object.__class__") "__get__" = some (some (.builtin "getset_descriptor.__get__"))) (htk : takesIn K (.builtin "object.__class__") = some true) (hm : mroIn K D (.type "object") = some true) :
    KitX K (.ref x) (.ref D) (fun h => ∃ od, InstAt h x ox D od) where
  ty := fun _ _ _ ⟨_, I⟩ => I.type
  it := fun _ _ X _ => by
    obtain ⟨cdD, hcD, _⟩ := any_some hdct
    unfold clsIn at hcD
    split at hcD
    · rename_i c' d' cd' sl' ho
      intro A' Q' E' s' k q
      unfold isType loadHead
      exact wpAny_bind (wpAny_loadPart (k _ _ (X _ _ ho)) (wpAny_pure q))
    · cases hcD
  ne := fun h tp dd its n sl X htp => (handS_kitx_exc (x := x) (ox := ox) hga hgt hsub hdct ha hn htk hm).ne h tp dd its n sl X htp
  ca := fun X ⟨_, I⟩ k => kin_classD hga hgt hsub hdct ha hn htk hm X I k
end
end PySem.W

namespace Hot
open PySem PySem.Spec PyProof.Rows L2 L2H
/-! ### an own exception made: its context is None -/
theorem pmkN_oex {X : Cx} {e : Expr} {es : List Expr} {ta : TA} {p pos : Pos} {CX : CXT} {x : Str} {C fI : Addr} {k : Nat} {fd : FuncData} {ps : List Str} {sp : Sp} {ds : List Value} {dvs : List V} (T : OexC X.K C) (iC : PySem.W.findIn X.K (.ref C) "__init__" = some (some (.ref fI))) (tI : PySem.W.typeIn X.K (.ref fI) = some (.type "function"))
    (F1 : FnOk X.prog X.w X.K X.mg X.base CX k fI fd ps sp) (hr : Room (k + 1) X.A) (hb : Binds X.K fd ps ds) (hdv : Vals dvs ds) (hx : Passes CX X (fun _ _ _ => False)) (hg : Gl X x) (hm : X.mg x = some (.ref C)) (ha : PA X (e :: es) ta)
    (hdb : (x == ("__debug__" : Str)) = false := by decide) (he : starEach (e :: es) X.env = (false, eval e X.env) :: starEach es X.env := by rfl) (hpl : (backTo pos (starEach es X.env)).any (·.1) = false := by rfl) :
    L2N.PMk X (.Call (.Name x p) (e :: es) [] pos) (tMkO C sp dvs ta) := by
  intro pins s σ H Q I h
  obtain ⟨nm, q, N, bs, bm, sn, sub, ab, col, dd, k0, k1, k2, k3, k5, hC, hbm⟩ := T.cls
  refine wpAny_Call_Name_kw (ld_glob I hg hm ?_ hdb)
  refine PySem.W.callWith_K (h₀ := X.base) I.ok.mod.kin T.kC (thn (ha.run pos pins s σ H _ I h) fun us s1 ⟨vs, H1, I1, r1, hz, q1⟩ => ⟨I1.kIn, ?_⟩) he hpl
  show wpAny _ _ (call (.ref C) us) _ _ _
  obtain ⟨hp, g, dr, tk, os⟩ := s1
  have hsz : hp.objs.size ≤ hp.objs.size + 1 := Nat.le_succ _
  have hn : H1 (hp.objs.size + 1) = none := I1.hok.fresh hsz
  have hq := q1 (hp.objs.size + 1) hn
  have kk : ∀ b o, hp.get? b = some o → ((hp.push (PySem.W.kdv_tup us)).push (PySem.HandSPX.excO C hp.objs.size)).get? b = some o := fun b o e => Heap.get?_push_of_some _ (Heap.get?_push_of_some _ e)
  have hget : ((hp.push (PySem.W.kdv_tup us)).push (PySem.HandSPX.excO C hp.objs.size)).get? (hp.objs.size + 1) = some (PySem.HandSPX.excO C hp.objs.size) := by heap_get
  have I2 : Inv X pins σ (upd H1 (hp.objs.size + 1) (exo (hp.objs.size + 1) C none)) ⟨(hp.push (PySem.W.kdv_tup us)).push (PySem.HandSPX.excO C hp.objs.size), g, dr, tk, os⟩ :=
    I1.laid (t' := tk) (a := hp.objs.size + 1) (o := exo (hp.objs.size + 1) C none) (h' := (hp.push (PySem.W.kdv_tup us)).push (PySem.HandSPX.excO C hp.objs.size)) kk hsz (exo_ok hget)
  have r2 : Vals (V.ref (hp.objs.size + 1) :: (vs ++ dvs)) (Value.ref (hp.objs.size + 1) :: (us ++ ds)) := .cons rfl (r1.append hdv)
  have hl : (Value.ref (hp.objs.size + 1) :: us ++ ds).length = ps.length := by
    have e := r2.length
    rw [F1.len _ _ _ _ hq] at e
    exact e.symm
  have hus : us.length ≤ sizeLine := by
    rw [← Paired.length r1, sizeLine_eq]
    omega
  refine wpAny_call (PySem.HandSPX.call_own F.excBase_ValueError (fun Y => PySem.HandSPX.refsVE_contains Y bm hbm) (I1.kIn _ _ hC) (PySem.W.looks_findIn I1.kIn iC) (fun self => PySem.W.bind_fn I1.kIn self tI) hus
    (codeAny_mono (F1.run _ X.stack _ _ ⟨Value.ref (hp.objs.size + 1) :: us, []⟩ (Value.ref (hp.objs.size + 1) :: (us ++ ds)) _ _ (fun _ _ _ => False) (hr.make C us []) (I2.env0.make C us []) (hb _ (Value.ref (hp.objs.size + 1) :: us) I2.kIn hl) r2 hq) fun r s' hq' => ?_))
  cases r with
  | error er => exact hx pins σ _ _ er s' I2 hq'
  | ok fl =>
    cases fl with
    | ret u =>
      obtain ⟨v, H2, os2, bare2, un2, hok2, rv, ev, d, fs, ea, ed, hd1, q2⟩ := hq'
      subst ev
      obtain ⟨h2, g2, d2, t2, os'⟩ := s'
      obtain ⟨t0, G, J, kG, ge, hoe, na⟩ := mk_end0 (d2 := d2) (t2 := t2) I1 hsz kk un2 hok2 os2 bare2 ea ed hd1
      exact ⟨rv, _, _, _, ⟨G, g2, d2, t2, os'⟩, _, .ref C, some d, rfl, J, kG, ge, hoe, ⟨rfl, rfl, fun vs e => by cases e; rfl⟩, rfl, rfl, na, rfl, bare2, raises_own T.exC T.tyC, q2⟩
    | next => exact False.elim hq'
    | brk => exact False.elim hq'
    | cont => exact False.elim hq'
/-! ### asked and read: the exception's object is pinned -/
theorem inst_pin {X : Cx} {pins : List (Addr × Obj)} {σ : L2.St} {H : Hp} {s : Shared} {a C d : Addr} {oe : Obj} {fs : List (Str × V)} (I : Inv X pins σ H s) (hp : (a, oe) ∈ X.pn) (hz : Zc (.ref C) (some d) oe) (hf : ∃ vs, oe.data = .fields vs) (hd : H d = some (.xd fs)) :
    ∃ od mA, PySem.W.InstAt s.heap a oe C (some od) ∧ s.heap.Ns1 d mA ∧ (∀ f, RelO (fs.lookup f) (mA f)) ∧ s.heap.get? d = some od := by
  obtain ⟨ha, _⟩ := I.pin (a, oe) (List.mem_append_left _ hp)
  obtain ⟨vs, hv⟩ := hf
  have hx : ObjOk X.prog X.w H s.heap d (.xd fs) := I.hok d _ hd
  obtain ⟨mA, hns, hr⟩ := hx
  obtain ⟨od, ho, _⟩ := lookIn_ns hns
  exact ⟨od, mA, ⟨ha, hz.1, by unfold PySem.W.notCls; rw [hv] <;> rfl, by rw [hz.2]; exact ho⟩, hns, hr, ho⟩
/-- isinstance(e, c), e the exception that is pinned -/
def rIsP (K : PySem.W.Frag) (C a d : Addr) : List V → Hp → VK → Prop := fun xs H Q => ∃ (c : V) (cv : Value) (b : Bool) (fs : List (Str × V)), xs = [.ref a, c] ∧ (∀ u, RelV c u → u = cv) ∧ PySem.W.kitOne K (.ref C) cv = some b ∧ H d = some (.xd fs) ∧ Q (.bl b) H
theorem call_isP {X : Cx} {a C d : Addr} {oe : Obj} (hp : (a, oe) ∈ X.pn) (T : ExcC X.K C) (hz : Zc (.ref C) (some d) oe) (hf : ∃ vs, oe.data = .fields vs) : CallR X (.builtin "isinstance") (rIsP X.K C a d) := by
  intro pins s σ H xs us Q I r h
  obtain ⟨c, cv, b, fs, rfl, hcv, e, hd, q⟩ := h
  cases r with
  | cons rx rr =>
    cases rr with
    | cons rt rr =>
      cases rr
      cases rx
      have ec := hcv _ rt
      subst ec
      obtain ⟨od, mA, J, _⟩ := inst_pin I hp hz hf hd
      exact PySem.W.kia_one (PySem.W.kitx_excD T.hg T.hk T.hs T.hd T.ha T.hn T.ht T.hm) I.kIn ⟨_, J⟩ e (fun z => nomatch z) fun tk => ⟨.bl b, H, I.kept (t' := tk) fun _ _ z => z, rfl, q⟩
/-- e.f, e the exception that is pinned -/
def tXp (a d : Addr) (f : Str) (te : TE) : TE := fun σ H Q => te σ H fun x H1 => x = .ref a ∧ ∃ (fs : List (Str × V)) (v : V), H1 d = some (.xd fs) ∧ fs.lookup f = some v ∧ Q v H1
theorem pe_xp {X : Cx} {a C d : Addr} {oe : Obj} {e : Expr} {te : TE} {pos : Pos} {n : Str} (hp : (a, oe) ∈ X.pn) (T : XfC X.K C) (hno : PySem.W.findIn X.K (.ref C) n = some none)
    (hz : Zc (.ref C) (some d) oe) (hf : ∃ vs, oe.data = .fields vs) (he : PE X e te) (hb : attributeBase e n X.env (eval e X.env) = eval e X.env := by rfl) :
    PE X (.Attribute e n pos) (tXp a d n te) := by
  refine ⟨fun pins s σ H Q I h => ?_⟩
  refine attr_of hb (thn (he.run pins s σ H _ I h) fun u s1 hh => ?_)
  obtain ⟨x, H1, I1, rx, ex, fs, v, ea, l, q⟩ := hh
  subst ex
  obtain rfl : u = Value.ref a := rx
  obtain ⟨od, mA, J, hns, hr, ho⟩ := inst_pin I1 hp hz hf ea
  obtain ⟨od', ho', hl⟩ := lookIn_ns hns
  rw [ho] at ho'
  cases ho'
  obtain ⟨u, hu, ru⟩ := RelO.some_of (v := v) (o := mA n) (by rw [← l]; exact hr n)
  exact HandSPX.exc_get I1.kIn J T.ga T.gg T.exC (PySem.W.findObj_own T.hdC hno rfl (by rw [hl, hu])) (handed_of ru) ⟨v, H1, I1.tok _, ru, q⟩
/-! ### a def that is handed the exception which its caller's suite holds -/
structure FnHp (P : Program) (w : World) (K : PySem.W.Frag) (mg : Str → Option Value) (base : Heap) (CX : CXT) (k : Nat) (f : Addr) (fd : FuncData) (ps : List Str) (sp : Addr × Obj → Sp) : Prop where
  len : ∀ p vs H Q E, sp p vs H Q E → vs.length = ps.length
  run : ∀ (A : Around) (outer : List Env) (s : Shared) (H : Hp) (args : Args) (us : List Value) (vs : List V) (Q : VK) (E : XK) (p : Addr × Obj), RoomH k A → Hot1 A p → PinOk outer H s p → Env0 P w K mg base A outer s H → BindsTo s fd args (ps.zip us) → Vals vs us → sp p vs H Q E →
    codeAny (model P w) A (.call (.ref f) args) (CR CX outer P w H s Q E) s
theorem fn_ofHp {CX : CXT} {P : Program} {w : World} {K : PySem.W.Frag} {mg : Str → Option Value} {base : Heap} {k : Nat} {x qual : Str} {params : Arguments} {body : List Stmt} {scope : Scope} {f : Addr} {fd : FuncData} {N ps : List Str} {sp : Addr × Obj → Sp}
    (F : FunD K x qual params body scope [] [] f fd) (S : FnScope N ps scope) (len : ∀ p vs H Q E, sp p vs H Q E → vs.length = ps.length)
    (hbody : ∀ (cdv : Value) (A : Around) (outer : List Env) (s : Shared) (H : Hp) (vs : List V) (Q : VK) (E : XK) (p : Addr × Obj), Hot1 A p → RoomH k (A.deeper (envOfC qual scope s.heap.objs.size f cdv)) → sp p vs H Q E →
      ∃ t, PSs (cxH CX P w K mg base N qual scope f cdv A outer s H E p) body t ∧ t { nx := fun _ H' => Q .non H', rt := Q } (L2.start N vs) H) :
    FnHp P w K mg base CX (k + 1) f fd ps sp := by
  obtain ⟨oc, od, dV, kV, doc, pm, an, cdv, ct, osl, rfl, lk, hcd, _, _⟩ := F.ex
  refine ⟨len, fun A outer s H args us vs Q E p hr hot hpin e0 hb r hsp => ?_⟩
  have hl := len _ _ _ _ _ hsp
  have KX : K.In s.heap := e0.mod.kin.keeps fun b o e => (e0.bs b o e).1
  have lim : s.heap.NoLimit := e0.mod.nolimit.keeps fun b o e => (e0.bs b o e).1
  have hkind : ∀ y ∈ ps.zip us, scope.names.lookup y.1 = some .local ∨ (scope.names.lookup y.1 = some .cell ∧ ((cellsFrom (s.heap.objs.size + 1) scope.names []).lookup y.1).isSome = true) := fun ⟨n, v⟩ hy => by
    rcases S.par n (List.of_mem_zip hy).1 with q | q
    · exact .inl q
    · exact .inr ⟨q, PySem.W.cellsFrom_some _ _ _ (.inl q)⟩
  refine codeAny_call_function hr.depth (KX _ _ lk) rfl S.co S.gen rfl (PySem.W.codeRec_of KX hcd) (hb _ _ _ _ ?_)
  refine wpAny_newFunctionEnv_cells S.kind hkind fun env he s1 x => ?_
  subst he
  refine ⟨lim.keeps x.toInCall.keep, codeAny_func ?_⟩
  obtain ⟨t, ht, hq⟩ := hbody cdv A outer s H vs Q E p hot (hr.deeper _) hsp
  have I : Inv (cxH CX P w K mg base N qual scope f cdv A outer s H E p) [] (L2.start N vs) H s1 := inv_startH S hpin e0 hl r x
  refine wpAny_mono (ht.run [] s1 (L2.start N vs) H _ I hq) (fun fl s' hs => ?_) fun e s' hs => hs
  have fin : ∀ {σ' : L2.St} {H' : Hp} {v : V} {u : Value}, Inv (cxH CX P w K mg base N qual scope f cdv A outer s H E p) [] σ' H' s' → RelV v u → Q v H' → CE outer P w H s Q u s' :=
    fun {σ' H' v u} J rv q => ⟨v, H', J.os, J.bare, J.base, J.hok, rv, q⟩
  cases fl with
  | ret u =>
    obtain ⟨v, σ', H', J, rv, q⟩ := hs
    exact fin J rv q
  | next =>
    obtain ⟨σ', H', J, q⟩ := hs
    exact fin (v := V.non) (u := Value.none) J rfl q
  | brk =>
    obtain ⟨_, _, _, q⟩ := hs
    exact False.elim q
  | cont =>
    obtain ⟨_, _, _, q⟩ := hs
    exact False.elim q
section
variable {X : Cx} {CX : CXT} {k : Nat} {f : Addr} {fd : FuncData} {ps : List Str} {sp : Addr × Obj → Sp} {E : XK} {x : Str} {q pos : Pos} {e : Expr} {es : List Expr} {t : TA} {p : Addr × Obj}
/-- f(e), e's value and the pinned exception p at hand -/
theorem pe_callHp (F : FnHp X.prog X.w X.K X.mg X.base CX k f fd ps sp) (hr : RoomH k X.A) (hot : Hot1 X.A p) (hp : p ∈ X.pn) (hg : Gl X x) (hm : X.mg x = some (.ref f)) (hk : PySem.W.keepIn X.K (.ref f) = true) (hb : Binds X.K fd ps []) (hx : Passes CX X E)
    (ha : PA X (e :: es) t) (hdb : (x == ("__debug__" : Str)) = false := by decide) (he : starEach (e :: es) X.env = (false, eval e X.env) :: starEach es X.env := by rfl) (hpl : (backTo pos (starEach es X.env)).any (·.1) = false := by rfl) :
    PE X (.Call (.Name x q) (e :: es) [] pos) (tCall (sp p) [] E t) := by
  refine ⟨fun pins s σ H Q I h => ?_⟩
  refine wpAny_Call_Name_kw (ld_glob I hg hm ?_ hdb)
  refine PySem.W.callWith_K (h₀ := X.base) I.ok.mod.kin hk (thn (ha.run pos pins s σ H _ I h) fun us s1 ⟨vs, H1, I1, r, q⟩ => ⟨I1.kIn, ?_⟩) he hpl
  have q' : sp p vs H1 Q E := by
    have q2 : sp p (vs ++ []) H1 Q E := q
    rw [List.append_nil] at q2
    exact q2
  have hl : us.length = ps.length := by rw [← r.length]; exact F.len _ _ _ _ _ q'
  have b := hb s1 us I1.kIn (by rw [List.append_nil]; exact hl)
  rw [List.append_nil] at b
  have P1 := I1.pin p (List.mem_append_left _ hp)
  have hpin : PinOk X.stack H1 s1 p := ⟨P1.1, P1.2.1, fun hm => (List.mem_cons.mp (I1.stkSub p.1 hm)).elim P1.2.2.1 P1.2.2.2.1, P1.2.2.2.2⟩
  refine wpAny_call (codeAny_mono (F.run X.A X.stack s1 H1 ⟨us, []⟩ us vs Q E p hr hot hpin I1.env0 b r q') fun r s' hq => ?_)
  cases r with
  | error e => exact hx pins σ H1 s1 e s' I1 hq
  | ok fl =>
    cases fl with
    | ret u => exact I1.after hq
    | next => exact False.elim hq
    | brk => exact False.elim hq
    | cont => exact False.elim hq
end
end Hot

namespace Lw
open PySem PySem.Spec PyProof.Rows L2
theorem pmk {X : Cx} {j k : Nat} {x : Str} {C : Addr} {sp : Sp} {p pos : Pos} {e : Expr} {es : List Expr} {t : TA} (c : Err X.prog X.w X.K X.mg X.base k x C sp) (hr : Room j X.A) (hk : k + 1 ≤ j) (hg : Gl X x) (ha : PA X (e :: es) t)
    (hdb : (x == ("__debug__" : Str)) = false := by decide) (he : starEach (e :: es) X.env = (false, eval e X.env) :: starEach es X.env := by rfl) (hpl : (backTo pos (starEach es X.env)).any (·.1) = false := by rfl) :
    L2N.PMk X (.Call (.Name x p) (e :: es) [] pos) (tMkO C sp [] t) := by
  obtain ⟨fI, fd, ps, T, iC, tI, F, b, hm⟩ := c.ex
  exact Hot.pmkN_oex T iC tI F (hr.mono hk) b .nil (fun _ _ _ _ _ _ _ h => h.elim) hg hm ha hdb he hpl
end Lw

set_option Elab.async false
set_option linter.all false
set_option maxRecDepth 100000
set_option maxHeartbeats 4000000
namespace Lg
open PySem TL L2
/-! ### plain: the check, the line, the log -/
def psum (l : List Nat) : Nat → Int
  | 0 => 0
  | i + 1 => psum l i + ((i : Int) + 1) * (l.getD i 0 : Nat)
def chk (n : Int) (l : List Nat) : Int := (7 * n + psum l l.length) % 8191
abbrev num (n : Int) : Str := Str.ofString (toString n)
def lineS (n : Int) (z : Str) : Str := num n ++ " " ++ num (z.length : Nat) ++ " " ++ num (chk n (tl z)) ++ " " ++ z ++ "\n"
/-- a line's codes without the line feed -/
def lineL (n : Nat) (w : List Nat) : List Nat := numL n ++ 32 :: (numL w.length ++ 32 :: (numL (chk n w).toNat ++ 32 :: w))
theorem chk_nonneg (n : Int) (l : List Nat) : 0 ≤ chk n l := Int.emod_nonneg _ (by decide)
theorem chk_lt (n : Int) (l : List Nat) : chk n l < 8191 := Int.emod_lt_of_pos _ (by decide)
theorem tl_num' {n : Int} (h : 0 ≤ n) : tl (num n) = numL n.toNat := by
  obtain ⟨m, rfl⟩ := Int.eq_ofNat_of_zero_le h
  exact tl_num m
theorem tl_line {n : Nat} {z : Str} : tl (lineS n z) = lineL n (tl z) ++ [10] := by
  unfold lineS lineL
  rw [tl_append, tl_append, tl_append, tl_append, tl_append, tl_append, tl_append, tl_num' (by omega), tl_num' (by omega), tl_num' (chk_nonneg _ _), len_tl z]
  simp
  rfl
theorem len_append (x y : Str) : (x ++ y).length = x.length + y.length := by
  rw [len_tl, len_tl, len_tl, tl_append, List.length_append]
theorem num_len {n : Int} (h0 : 0 ≤ n) (h : n < 10 ^ 10) : (num n).length ≤ 10 := by
  rw [len_tl, tl_num' h0]
  exact numL_len (by decide) (by omega)
theorem line_len {n : Int} {z : Str} (h0 : 0 ≤ n) (h : n < 10 ^ 10) (hz : z.length ≤ 100000) : (lineS n z).length ≤ z.length + 40 := by
  have h1 := num_len h0 h
  have h2 := num_len (n := (z.length : Nat)) (by omega) (by omega)
  have h3 := num_len (chk_nonneg n (tl z)) (by have := chk_lt n (tl z); omega)
  unfold lineS
  simp only [len_append]
  have e1 : (" " : Str).length = 1 := by decide +kernel
  have e2 : ("\n" : Str).length = 1 := by decide +kernel
  omega
theorem log2_small {n : Int} (h0 : 0 ≤ n) (h : n < 10 ^ 10) : n.natAbs.log2 < 1920 := by
  have : n.natAbs < 2 ^ 64 := by omega
  have := PySem.Flt.log2_lt_of (by decide : 0 < 64) this
  omega
/-- the lines of these rows, from number k + 1 on -/
def linesFrom (k : Nat) : List Str → List Str
  | [] => []
  | z :: r => lineS ((k + 1 : Nat) : Int) z :: linesFrom (k + 1) r
theorem linesFrom_snoc : ∀ (zs : List Str) (k : Nat) (z : Str), linesFrom k (zs ++ [z]) = linesFrom k zs ++ [lineS ((k + zs.length + 1 : Nat) : Int) z]
  | [], k, z => rfl
  | y :: r, k, z => by
    show lineS _ y :: linesFrom (k + 1) (r ++ [z]) = lineS _ y :: linesFrom (k + 1) r ++ _
    rw [linesFrom_snoc r (k + 1) z]
    have e : k + 1 + r.length + 1 = k + (y :: r).length + 1 := by
      rw [List.length_cons]
      omega
    rw [e]
    rfl
theorem linesFrom_length : ∀ (zs : List Str) (k : Nat), (linesFrom k zs).length = zs.length
  | [], _ => rfl
  | _ :: r, k => by
    show (linesFrom (k + 1) r).length + 1 = r.length + 1
    rw [linesFrom_length r]
def logS (zs : List Str) : Str := Txt.join (Str.ofString "") (linesFrom 0 zs)
/-- words that may stand in a line -/
def isRow (l : List Nat) : Bool := decide (1 ≤ l.length) && (decide (l.length ≤ 2000) && l.all fun c => decide (32 ≤ c) && decide (c ≤ 126))
theorem take_more {α : Type} {l : List α} {i : Nat} {x : α} (h : l[i]? = some x) : l.take (i + 1) = l.take i ++ [x] := by
  rw [List.take_add_one, h]
  rfl
theorem joinL0 : ∀ ps : List (List Nat), joinL [] ps = ps.flatten
  | [] => rfl
  | [p] => by simp [joinL]
  | p :: q :: r => by
    show p ++ ([] ++ joinL [] (q :: r)) = _
    rw [List.nil_append, joinL0 (q :: r)]
    rfl
theorem tl_join0 (ys : List Str) : tl (Txt.join (Str.ofString "") ys) = (ys.map tl).flatten := by
  rw [join_eq, tl_join]
  exact joinL0 _
theorem sum_lens : ∀ ys : List Str, (ys.map (·.length)).sum = (ys.map tl).flatten.length
  | [] => rfl
  | y :: r => by
    show y.length + (r.map (·.length)).sum = (tl y ++ (r.map tl).flatten).length
    rw [List.length_append, sum_lens r, len_tl y]
theorem ones_len : ∀ {ys : List Str}, (∀ y ∈ ys, y.length = 1) → (ys.map (·.length)).sum = ys.length
  | [], _ => rfl
  | y :: r, h => by
    show y.length + (r.map (·.length)).sum = r.length + 1
    rw [ones_len fun z hz => h z (List.mem_cons_of_mem _ hz), h y (List.mem_cons_self ..)]
    omega
end Lg

set_option Elab.async false
set_option linter.all false
set_option maxRecDepth 100000
set_option maxHeartbeats 4000000
/-! split by one sign, at most k times, as a function on lists of signs -/
namespace Sp1
open PySem TL PySem.StrLaws PySem.Builtin PySem.Builtin.Str
def cut1 (s : Nat) : List Nat → Option (List Nat × List Nat)
  | [] => none
  | c :: r => if c = s then some ([], r) else (cut1 s r).map fun q => (c :: q.1, q.2)
def splM (s : Nat) : Nat → List Nat → List (List Nat)
  | 0, l => [l]
  | k + 1, l => match cut1 s l with
    | none => [l]
    | some q => q.1 :: splM s k q.2
theorem cut1_app {s : Nat} : ∀ {p r : List Nat}, s ∉ p → cut1 s (p ++ s :: r) = some (p, r)
  | [], r, _ => by
    show (if s = s then _ else _) = _
    rw [if_pos rfl]
  | c :: p, r, h => by
    have hc : c ≠ s := fun e => h (by rw [e]; exact List.mem_cons_self ..)
    show (if c = s then _ else (cut1 s (p ++ s :: r)).map _) = _
    rw [if_neg hc, cut1_app fun e => h (List.mem_cons_of_mem _ e)]
    rfl
theorem cut1_none {s : Nat} : ∀ {l : List Nat}, s ∉ l → cut1 s l = none
  | [], _ => rfl
  | c :: l, h => by
    have hc : c ≠ s := fun e => h (by rw [e]; exact List.mem_cons_self ..)
    show (if c = s then _ else (cut1 s l).map _) = _
    rw [if_neg hc, cut1_none fun e => h (List.mem_cons_of_mem _ e)]
    rfl
theorem splM_app {s k : Nat} {p r : List Nat} (h : s ∉ p) : splM s (k + 1) (p ++ s :: r) = p :: splM s k r := by
  show (match cut1 s (p ++ s :: r) with | none => _ | some q => _) = _
  rw [cut1_app h]
theorem splM_none {s k : Nat} {l : List Nat} (h : s ∉ l) : splM s k l = [l] := by
  cases k with
  | zero => rfl
  | succ k =>
    show (match cut1 s l with | none => _ | some q => _) = _
    rw [cut1_none h]
theorem run_lim (s sub : Str) (hi limit lo : Nat) (hw : 1 ≤ sub.length) : ∀ (m cur : Nat) (st : Array Nat × Nat), ChainG s sub hi lo st.fst.toList st.snd → (st.fst.size < limit → ∀ k, st.snd ≤ k → k < cur → ¬ At s sub hi k) → st.fst.size ≤ limit →
    ∃ st' : Array Nat × Nat, (forIn (List.range' cur m) st (occBody s sub hi limit)).run = st' ∧ ChainG s sub hi lo st'.fst.toList st'.snd ∧ (st'.fst.size < limit → ∀ k, st'.snd ≤ k → k < cur + m → ¬ At s sub hi k) ∧ st'.fst.size ≤ limit
  | 0, cur, st, h, hn, hl => ⟨st, rfl, h, hn, hl⟩
  | m + 1, cur, st, h, hn, hl => by
    rw [List.range'_succ, List.forIn_cons]
    unfold occBody
    have e : cur + (m + 1) = (cur + 1) + m := by omega
    rw [e]
    split
    · rename_i hc
      refine run_lim s sub hi limit lo hw m (cur + 1) _ ?_ ?_ ?_
      · show ChainG s sub hi lo (st.fst.push cur).toList (cur + sub.length)
        rw [Array.toList_push]
        exact chainG_snoc h hc.1.1.2 ⟨hc.1.2, hc.2⟩ (hn hc.1.1.1)
      · intro _ k h1 h2
        have h1' : cur + sub.length ≤ k := h1
        omega
      · show (st.fst.push cur).size ≤ limit
        have := hc.1.1.1
        rw [Array.size_push]
        omega
    · rename_i hc
      refine run_lim s sub hi limit lo hw m (cur + 1) _ h ?_ hl
      intro hs k h1 h2 hA
      by_cases hk : k < cur
      · exact hn hs k h1 hk hA
      · have ek : k = cur := by omega
        subst ek
        exact hc ⟨⟨⟨hs, h1⟩, hA.1⟩, hA.2⟩
theorem occ_lim (x : Str) (c limit : Nat) : ∃ f, ChainG x ⟨#[c]⟩ x.length 0 (occurrences x ⟨#[c]⟩ 0 x.length limit) f ∧ ((occurrences x ⟨#[c]⟩ 0 x.length limit).length < limit → ∀ k, f ≤ k → ¬ At x ⟨#[c]⟩ x.length k) ∧
    (occurrences x ⟨#[c]⟩ 0 x.length limit).length ≤ limit := by
  rw [occ_eq]
  obtain ⟨st, e, h1, h2, h3⟩ := run_lim x ⟨#[c]⟩ x.length limit 0 (Nat.le_refl 1) (x.length + 1 - 0) 0 ((#[] : Array Nat), 0) rfl (fun _ k _ h => by omega) (Nat.zero_le _)
  rw [e]
  refine ⟨_, h1, fun hl k hk hA => ?_, by simpa using h3⟩
  exact h2 (by simpa using hl) k hk (by have := hA.1; omega) hA
theorem drop_at {x : Str} {c a d : Nat} (had : a ≤ d) (hd : At x ⟨#[c]⟩ x.length d) (hn : ∀ k, a ≤ k → k < d → ¬ At x ⟨#[c]⟩ x.length k) :
    ∃ p, (tl x).drop a = p ++ c :: (tl x).drop (d + 1) ∧ c ∉ p ∧ tl (strSub x a d) = p := by
  have hx := len_tl x
  have hd1 : d < (tl x).length := by have := hd.1; rw [← hx]; exact this
  have hcd := (subAt_one x c d).mp hd
  have free := part_free x c a d (by have := hd.1; exact Nat.le_of_lt (by rw [hx]; exact hd1)) hn
  refine ⟨tl (strSub x a d), ?_, free, rfl⟩
  rw [tl_strSub]
  have e1 : (tl x).drop a = ((tl x).drop a).take (d - a) ++ ((tl x).drop a).drop (d - a) := (List.take_append_drop _ _).symm
  have e2 : ((tl x).drop a).drop (d - a) = (tl x).drop d := by
    rw [List.drop_drop]
    congr 1
    omega
  have e3 : (tl x).drop d = c :: (tl x).drop (d + 1) := by
    rw [List.drop_eq_getElem_cons hd1]
    congr 1
    have h4 := (List.getElem?_eq_some_iff.mp hcd).2
    exact h4
  rw [e2, e3] at e1
  exact e1
theorem parts_lim (x : Str) (c : Nat) : ∀ (cuts : List Nat) (r a f : Nat), a ≤ (tl x).length → ChainG x ⟨#[c]⟩ x.length a cuts f → cuts.length ≤ r → (cuts.length < r → ∀ k, f ≤ k → ¬ At x ⟨#[c]⟩ x.length k) →
    (partsFrom x (⟨#[c]⟩ : Str).length a cuts).map tl = splM c r ((tl x).drop a)
  | [], r, a, f, ha, h, hl, hn => by
    have e : f = a := h
    subst e
    show [tl (strSub x f x.length)] = _
    rw [tl_strSub_end]
    cases r with
    | zero => rfl
    | succ r =>
      refine (splM_none fun hm => ?_).symm
      obtain ⟨j, hj⟩ := List.getElem?_of_mem hm
      rw [List.getElem?_drop] at hj
      exact hn (Nat.succ_pos _) (f + j) (Nat.le_add_right _ _) ((subAt_one x c (f + j)).mpr hj)
  | d :: cs, r, a, f, ha, h, hl, hn => by
    obtain ⟨h1, h2, h3, h4⟩ := h
    obtain ⟨p, e1, e2, e3⟩ := drop_at h1 h2 h3
    have hx := len_tl x
    have hd1 : d < (tl x).length := by have := h2.1; rw [← hx]; exact this
    cases r with
    | zero => simp at hl
    | succ r =>
      have hl' : cs.length ≤ r := by simpa using hl
      have ih := parts_lim x c cs r (d + 1) f (by omega) h4 hl' (fun q => hn (by simpa using q))
      rw [e1, splM_app e2, ← ih, ← e3]
      rfl
/-- x.split(one sign, k) -/
theorem splitMax_eq (x : Str) (c k : Nat) (hc : c < 256) : (Txt.splitMax x ⟨#[c]⟩ (k : Int)).map tl = splM c k (tl x) := by
  have hlim : limitOf x (k : Int) = k := by
    unfold limitOf
    rw [if_neg (by omega)]
    rfl
  have key : ((partsFrom x (⟨#[c]⟩ : Str).length 0 (occurrences x ⟨#[c]⟩ 0 x.length k)).map tl) = splM c k (tl x) := by
    obtain ⟨f, h1, h2, h3⟩ := occ_lim x c k
    have := parts_lim x c _ k 0 f (Nat.zero_le _) h1 h3 h2
    rw [List.drop_zero] at this
    exact this
  unfold Txt.splitMax
  by_cases h1 : (decide (x.length < (⟨#[c]⟩ : Str).length) || decide (strKind x < strKind ⟨#[c]⟩)) = true
  · rw [if_pos h1]
    refine (splM_none fun hm => ?_).symm
    rw [Bool.or_eq_true, decide_eq_true_eq, decide_eq_true_eq] at h1
    rcases h1 with h | h
    · have e0 : x.length < 1 := h
      rw [len_tl] at e0
      have := List.length_pos_of_mem hm
      omega
    · exact kind_free x c h hm
  · rw [if_neg h1, hlim]
    by_cases h2 : (occurrences x ⟨#[c]⟩ 0 x.length k).isEmpty = true
    · rw [if_pos h2]
      have e := List.isEmpty_iff.mp h2
      rw [e] at key
      rw [← key]
      show [tl x] = [tl (strSub x 0 x.length)]
      rw [sub_whole]
    · rw [if_neg h2, partsBetween_eq]
      exact key
theorem splM_len {s : Nat} : ∀ {k : Nat} {l : List Nat}, ∀ p ∈ splM s k l, p.length ≤ l.length
  | 0, l, p, h => by
    rw [List.mem_singleton.mp h]
    exact Nat.le_refl _
  | k + 1, l, p, h => by
    have key : ∀ (l : List Nat) (q : List Nat × List Nat), cut1 s l = some q → q.1.length + q.2.length ≤ l.length := by
      intro l
      induction l with
      | nil => intro q e; cases e
      | cons c r ih =>
        intro q e
        have e' : (if c = s then some ([], r) else (cut1 s r).map fun q => (c :: q.1, q.2)) = some q := e
        by_cases hc : c = s
        · rw [if_pos hc] at e'
          cases e'
          simp
        · rw [if_neg hc] at e'
          cases q2 : cut1 s r with
          | none => rw [q2] at e'; cases e'
          | some z =>
            rw [q2] at e'
            cases e'
            have := ih z q2
            simp only [List.length_cons]
            omega
    have h' : p ∈ (match cut1 s l with | none => [l] | some q => q.1 :: splM s k q.2) := h
    cases e : cut1 s l with
    | none =>
      rw [e] at h'
      rw [List.mem_singleton.mp h']
      exact Nat.le_refl _
    | some q =>
      rw [e] at h'
      have h2 := key l q e
      rcases List.mem_cons.mp h' with h3 | h3
      · rw [h3]
        omega
      · have := splM_len p h3
        omega
end Sp1

set_option Elab.async false
set_option linter.all false
set_option maxRecDepth 100000
set_option maxHeartbeats 4000000
namespace K83
open PySem PySem.Spec PyProof.Rows L2 Lw
section
variable {P : Program} {w : World} {K : PySem.W.Frag} {mg : Str → Option Value} {base : Heap} {f : Addr} {fd : FuncData}
abbrev N__law_pick : List Str := ["source", "many", "found"]
theorem sc__law_pick : FnScope N__law_pick ["source", "many"] (defScope s__law_pick) := ⟨rfl, rfl, rfl, by decide +kernel, rfl, by decide +kernel, by decide +kernel⟩
theorem fmod_lt {i m : Int} (hm : 0 < m) : 0 ≤ i.fmod m ∧ i.fmod m < m := by
  rw [Int.fmod_eq_emod_of_nonneg _ (by omega)]
  exact ⟨Int.emod_nonneg _ (by omega), Int.emod_lt_of_pos _ hm⟩
theorem ok_pick (D : FunD K "_law_pick" "_law_pick" (defArgs s__law_pick) (defBody s__law_pick) (defScope s__law_pick) [] [] f fd) (F : Nms mg) : FnOk P w K mg base CX0 1 f fd ["source", "many"] spPick := by
  refine D.ok sc__law_pick (fun vs H Q E h => ?_) (fun cdv A outer s H vs Q E hr h => ?_)
  · obtain ⟨a, m, rfl, _⟩ := h
    rfl
  · obtain ⟨a, m, rfl, ⟨s0, s1, s2, ha, h0⟩, hm, hm2, k⟩ := h
    refine ⟨_, PSs.nox ((pss_cons (ps_if (pt_cmpR op_gt (pe_ix (Kx.ix_list (K := K)) (pv 0) pe_int (fun _ _ => rfl)) pe_int (nomark _)) (pss_cons (ps_set (i := 2) sc__law_pick.nd rfl (Or.inl rfl) (pe_op op_modN (pe_callTy call_int1 (by rfl) F.«int» (by decide +kernel) (pa_cons (pe_ix (Kx.ix_list (K := K)) (pv 0) pe_int (fun _ _ => rfl)) pa_nil)) (pv 1)))
  (pss_cons (ps_asg (pe_op op_fdivN (pe_ix (Kx.ix_list (K := K)) (pv 0) pe_int (fun _ _ => rfl)) (pv 1)) (pg_sub (pv 0) pe_int set_list))
  (pss_one (ps_ret (pv 2))))) pss_nil)
  (pss_cons (ps_augS (pv 0) pe_int (Kx.pget_list (K := K)) pe_int ip_add set_list)
  (pss_cons (ps_asg (pe_op op_mod (pe_callTy call_int1 (by rfl) F.«int» (by decide +kernel) (pa_cons (pe_op op_add (pe_op op_mul (pe_ix (Kx.ix_list (K := K)) (pv 0) pe_int (fun _ _ => rfl)) pe_int) (pe_op op_mul (pe_ix (Kx.ix_list (K := K)) (pv 0) pe_int (fun _ _ => rfl)) pe_int)) pa_nil)) pe_int) (pg_sub (pv 0) pe_int set_list))
  (pss_one (ps_ret (pe_op op_modN (pe_op op_fdiv (pe_op op_mod (pe_callTy call_int1 (by rfl) F.«int» (by decide +kernel) (pa_cons (pe_op op_add (pe_op op_mul (pe_ix (Kx.ix_list (K := K)) (pv 0) pe_int (fun _ _ => rfl)) pe_int) (pe_op op_mul (pe_ix (Kx.ix_list (K := K)) (pv 0) pe_int (fun _ _ => rfl)) pe_int)) pa_nil)) pe_int) pe_int) (pv 1)))))))), ?_⟩
    refine ⟨_, rfl, _, _, _, _, rfl, rfl, SqL.of ha, rfl, _, _, rfl, rfl, _, rfl, ?_⟩
    refine ite2 (fun c => ?_) (fun c => ?_)
    · refine ⟨_, rfl, _, _, _, _, rfl, rfl, SqL.of ha, rfl, .inl ⟨_, rfl, _, rfl, _, _, rfl, rfl, by omega, ?_⟩⟩
      refine ⟨_, rfl, _, _, _, _, rfl, rfl, SqL.of ha, rfl, _, rfl, _, _, rfl, rfl, ⟨by omega, by omega⟩, _, rfl, _, _, _, _, rfl, rfl, ha, rfl, _, rfl, ?_⟩
      obtain ⟨b1, b2⟩ := fmod_lt (i := s0) hm
      refine k _ _ b1 b2 ((Mv.refl ⟨_, _, _, ha, h0⟩).set ?_)
      rw [Int.fdiv_eq_ediv_of_nonneg _ (by omega)]
      exact Int.ediv_nonneg h0 (by omega)
    · refine ⟨_, rfl, _, _, _, _, rfl, rfl, SqL.of ha, rfl, _, _, rfl, rfl, _, _, _, _, rfl, rfl, ha, rfl, ?_⟩
      have hb := upd_same (H := H) (a := a) (o := HO.lst [V.int s0, V.int s1, V.int (s2 + 1)])
      refine ⟨_, rfl, _, _, _, _, rfl, rfl, SqL.of hb, rfl, _, _, rfl, rfl, .inr ⟨by decide, by decide⟩, _, rfl, _, _, _, _, rfl, rfl, SqL.of hb, rfl, _, _, rfl, rfl, .inr ⟨by decide, by decide⟩, _, _, rfl, rfl, .inl ⟨_, rfl, _, _, rfl, rfl, by show (0 : Int) < 2147483647; decide, ?_⟩⟩
      refine ⟨_, rfl, _, _, _, _, rfl, rfl, hb, rfl, ?_⟩
      have hc := upd_same (H := (upd H a (HO.lst [V.int s0, V.int s1, V.int (s2 + 1)]))) (a := a) (o := HO.lst [V.int s0, V.int ((s1 * 48271 + (s2 + 1) * 70001) % 2147483647), V.int (s2 + 1)])
      refine ⟨_, rfl, _, _, _, _, rfl, rfl, SqL.of hc, rfl, _, _, rfl, rfl, .inr ⟨by decide, by decide⟩, _, rfl, _, _, _, _, rfl, rfl, SqL.of hc, rfl, _, _, rfl, rfl, .inr ⟨by decide, by decide⟩, _, _, rfl, rfl, .inl ⟨_, rfl, _, _, rfl, rfl, by show (0 : Int) < 2147483629; decide, _, _, rfl, rfl, ⟨by decide, by decide⟩, _, rfl, _, _, rfl, rfl, by omega, ?_⟩⟩
      obtain ⟨b1, b2⟩ := fmod_lt (i := ((((s1 * 48271 + (s2 + 1) * 70001) % 2147483647) * 16807 + (s2 + 1) * 6301) % 2147483629 / 8)) hm
      exact k _ _ b1 b2 (((Mv.refl ⟨_, _, _, ha, h0⟩).set h0).set h0)
end
end K83

set_option Elab.async false
set_option linter.all false
set_option maxRecDepth 100000
set_option maxHeartbeats 4000000
namespace K83
open PySem PySem.Spec PyProof.Rows L2 Lw
local macro_rules | `(tactic| walk_at "rd") => `(tactic| (first
  | refine ⟨_, rfl, ?_⟩
  | refine ⟨_, _, rfl, rfl, ?_⟩
  | refine Or.inl ⟨_, rfl, ?_⟩
  | refine ⟨Or.inr ⟨by decide, by decide⟩, ?_⟩
  | refine ⟨Or.inl ⟨by decide, by decide⟩, ?_⟩))
section
variable {P : Program} {w : World} {K : PySem.W.Frag} {mg : Str → Option Value} {base : Heap} {f : Addr} {fd : FuncData}
def spSource (K : PySem.W.Frag) : Sp := fun vs H Q _ => ∃ (a : Addr) (n : Int) (ns : List Int), vs = [.ref a, .int n] ∧ SqL K H a (ns.map V.int) ∧ 0 ≤ n ∧ ns.length ≤ 63 ∧
  ∀ (p : Addr) (H' : Hp), Same H H' → H p = none → Src H' p → Q (.ref p) H'
abbrev N__law_source : List Str := ["script", "at", "cell", "size", "small", "one"]
theorem sc__law_source : FnScope N__law_source ["script", "at"] (defScope s__law_source) := ⟨rfl, rfl, rfl, by decide +kernel, rfl, by decide +kernel, by decide +kernel⟩
theorem ok_source (D : FunD K "_law_source" "_law_source" (defArgs s__law_source) (defBody s__law_source) (defScope s__law_source) [] [] f fd) (F : Nms mg) : FnOk P w K mg base CX0 1 f fd ["script", "at"] (spSource K) := by
  refine D.ok sc__law_source (fun vs H Q E h => ?_) (fun cdv A outer s H vs Q E hr h => ?_)
  · obtain ⟨a, n, ns, rfl, _⟩ := h
    rfl
  · obtain ⟨a, n, ns, rfl, hS, hn, hl, k⟩ := h
    refine ⟨_, PSs.nox ((pss_cons (ps_set (i := 2) sc__law_source.nd rfl (Or.inl rfl) (Lw.pe_mono (pe_ifExp (pt_cmpR op_lt (pv 1) (pe_callB (Kx.call_len_seq (K := K)) (by rfl) F.«len» PySem.boot_len (pa_cons (pv 0) pa_nil)) (nomark _)) (pe_callTy call_int1 (by rfl) F.«int» (by decide +kernel) (pa_cons (pe_ix (Kx.ix_list (K := K)) (pv 0) (pv 1) (fun _ _ => rfl)) pa_nil)) (pe_op op_add (pe_op op_mul pe_int (pe_callB (Kx.cr_sum (K := K) rfl) (by rfl) F.«sum» (by decide +kernel) (pa_cons (pe_lc (own := [("one", 5)]) rfl sc__law_source.nd (Kx.pi_list (K := K) (pe_slice (Kx.sl_list (K := K)) (pv 0) po_none (po_some pe_int))) (blkOk_by (own := [("one", 5)]) (N := N__law_source) (sc := defScope s__law_source) (by decide +kernel)) (fun _ _ _ _ _ => (pg_name (i := 5) sc__law_source.nd rfl (Or.inl rfl))) (fun _ _ _ _ _ => pts_nil) (fun _ _ _ _ _ => (pe_op op_mod (pe_callTy call_int1 (by rfl) F.«int» (by decide +kernel) (pa_cons (pv 5) pa_nil)) pe_int))) pa_nil))) pe_int))))
  (pss_cons (ps_set (i := 3) sc__law_source.nd rfl (Or.inl rfl) (pe_op op_modN (pe_callB call_abs (by rfl) F.«abs» (by decide +kernel) (pa_cons (pv 2) pa_nil)) (pe_op op_mulW (pe_op op_pow pe_int pe_int) (pe_op op_pow pe_int pe_int))))
  (pss_cons (ps_set (i := 4) sc__law_source.nd rfl (Or.inl rfl) (pe_op op_mod (pe_callTy call_int1 (by rfl) F.«int» (by decide +kernel) (pa_cons (pe_op op_add (pe_op op_add (pe_op op_add (pe_op op_mul pe_int (pv 3)) (Lw.pe_mono (pe_ifExp (pt_cmpR op_lt (pv 2) pe_int (nomark _)) pe_int pe_int))) (pe_op op_mul (pv 1) pe_int)) pe_int) pa_nil)) pe_int))
  (pss_one (ps_ret (pe_lst (pa_cons (Lw.pe_mono (pe_ifExp (pt_cmpR op_ge (pv 3) (pe_op op_pow pe_int pe_int) (nomark _)) (pv 3) pe_int)) (pa_cons (pe_op op_mod (pe_callTy call_int1 (by rfl) F.«int» (by decide +kernel) (pa_cons (pe_op op_mul (pe_op op_add (pv 4) pe_int) (pe_op op_add (pv 4) pe_int)) pa_nil)) pe_int) (pa_cons (pv 1) pa_nil)))))))))), ?_⟩
    refine ⟨fun x H1 => ∃ c : Int, x = .int c ∧ Same H H1, ?_, ?_⟩
    · refine ⟨_, rfl, _, rfl, _, _, rfl, .inl hS, _, _, rfl, rfl, _, rfl, ?_⟩
      refine ite2 (fun c => ?_) (fun c => ?_)
      · rw [List.length_map] at c
        have c' : n < (ns.length : Int) := of_decide_eq_true c
        obtain ⟨m, rfl⟩ := Int.eq_ofNat_of_zero_le hn
        have hm : m < ns.length := by omega
        refine ⟨_, rfl, _, rfl, _, _, _, _, rfl, rfl, hS, atI_nat (v := .int ns[m]) (by rw [List.getElem?_map, List.getElem?_eq_getElem hm]; rfl), .inl ⟨_, rfl, _, rfl, Same.refl H⟩⟩
      · refine ⟨_, rfl, _, rfl, _, _, rfl, hS, fun p hp => ?_⟩
        obtain ⟨ms, hms, e1⟩ : ∃ ms : List Int, ms.length ≤ 63 ∧ cutV (ns.map V.int) none (some 6) = ms.map V.int := ⟨ns.take (HT.sIx ns.length ns.length (some 6)), by rw [List.length_take]; omega, by
          unfold cutV
          rw [HT.sIx_none, List.length_map, List.drop_zero, Nat.sub_zero, List.map_take]⟩
        rw [e1]
        refine ⟨_, rfl, ⟨_, SqL.of upd_same⟩, fun D hD => ?_⟩
        have npD : p ≠ D := ne_of_none upd_same hD
        have hDH : H D = none := (Same.new hp).free hD
        refine lc_mk (walk_list (K := K) (a := p) (xs := ms.map V.int)) (fun i acc H' => Same H H' ∧ H' p = some (.lst (ms.map V.int)) ∧ ∃ rs : List Int, acc = rs.map V.int) ⟨(Same.new hp).trans (Same.new hD), by rw [upd_ne npD, upd_same], [], rfl⟩
          (fun i acc H' _ ⟨_, e, _⟩ => SqL.of e) ?_ ?_
        · rintro i x acc H' H2 hi ⟨sm, e, rs, rfl⟩ eD hl ⟨rfl, hx⟩
          obtain ⟨z, _, rfl⟩ := ints_get hx
          refine ⟨rfl, _, rfl, .inl ⟨_, rfl, _, _, rfl, rfl, (by show (0 : Int) < 999961; decide), ?_⟩⟩
          exact Made.put eD hl hi (small_line (by rw [List.length_map]; omega)) ⟨sm.mut hDH, by rw [upd_ne npD]; exact e, rs ++ [z % 999961], by rw [List.map_append]; rfl⟩
        · rintro acc H' ⟨sm, e, rs, rfl⟩ eD hl
          exact ⟨D, rs, rfl, SqL.of eD, _, _, rfl, rfl, .inl ⟨by decide, by decide⟩, _, _, rfl, rfl, _, rfl, sm⟩
    · rintro x H1 ⟨c, rfl, s1⟩
      -- size
      refine ⟨_, rfl, _, rfl, _, _, rfl, rfl, ⟨by decide, by decide, by decide⟩, _, _, rfl, rfl, ⟨by decide, by decide, by decide⟩, _, _, rfl, rfl, wide_mul (a := 200) (b := 200) (by decide +kernel) (by decide +kernel) (by decide) (by decide) (by decide), _, _, rfl, rfl, (by show ((10 : Int) ^ (60 : Int).toNat * 10 ^ (60 : Int).toNat) ≠ 0; decide +kernel), ?_⟩
      dsimp only
      have hz : 0 ≤ (if c < 0 then -c else c).fmod (10 ^ (60 : Int).toNat * 10 ^ (60 : Int).toNat) := (fmod_lt (by decide +kernel)).1
      generalize (if c < 0 then -c else c).fmod (10 ^ (60 : Int).toNat * 10 ^ (60 : Int).toNat) = size at *
      -- small
      refine ⟨_, rfl, _, _, rfl, rfl, .inl ⟨by decide, by decide⟩, fun x H2 => (∃ c : Int, x = .int c) ∧ H2 = H1, ?_, ?_⟩
      · refine ⟨_, rfl, _, _, rfl, rfl, _, rfl, ?_⟩
        exact ite2 (fun _ => ⟨⟨_, rfl⟩, rfl⟩) (fun _ => ⟨⟨_, rfl⟩, rfl⟩)
      rintro x H2 ⟨⟨y, rfl⟩, e2⟩
      subst e2
      refine ⟨_, _, rfl, rfl, _, rfl, _, _, rfl, rfl, .inr ⟨by decide, by decide⟩, _, _, rfl, rfl, _, _, rfl, rfl, .inl ⟨_, rfl, _, _, rfl, rfl, (by show (0 : Int) < 2147483629; decide), ?_⟩⟩
      dsimp only
      have hb : 0 ≤ (2 * size + y + n * 120011 + 80021) % 2147483629 ∧ (2 * size + y + n * 120011 + 80021) % 2147483629 < 2147483629 := ⟨Int.emod_nonneg _ (by decide), Int.emod_lt_of_pos _ (by decide)⟩
      generalize (2 * size + y + n * 120011 + 80021) % 2147483629 = small at *
      refine ⟨fun x H3 => (∃ c : Int, x = .int c ∧ 0 ≤ c) ∧ H3 = H2, ?_, ?_⟩
      · refine ⟨_, rfl, _, _, rfl, rfl, ⟨by decide, by decide, by decide⟩, _, _, rfl, rfl, _, rfl, ?_⟩
        exact ite2 (fun _ => ⟨_, rfl, ⟨_, rfl, hz⟩, rfl⟩) (fun _ => ⟨⟨_, rfl, by decide⟩, rfl⟩)
      rintro x H3 ⟨⟨y0, rfl, hy0⟩, e3⟩
      subst e3
      refine ⟨_, rfl, _, _, rfl, rfl, _, rfl, _, _, rfl, rfl, _, _, rfl, rfl, .inl ⟨by omega, by omega⟩, .inl ⟨_, rfl, _, _, rfl, rfl, (by show (0 : Int) < 2147483629; decide), _, rfl, (by show 3 ≤ sizeLine; decide), fun p hp => ?_⟩⟩
      exact k _ _ (s1.trans (Same.new hp)) (s1.free hp) ⟨_, _, _, upd_same, hy0⟩
end
end K83

set_option Elab.async false
set_option linter.all false
set_option maxRecDepth 100000
set_option maxHeartbeats 4000000
namespace K83
open PySem PySem.Spec PyProof.Rows L2 Lw
section
variable {P : Program} {w : World} {K : PySem.W.Frag} {mg : Str → Option Value} {base : Heap} {f : Addr} {fd : FuncData}
/-! ### the signs -/
def signs : Str := " !\"#$&'()*+,-./0123456789:;<=>?@ABCDEFGHIJKLMNOPQRSTUVWXYZ[\\]^_`abcdefghijklmnopqrstuvwxyz{|}~"
/-- words of 1 to n signs -/
structure Wd (n : Nat) (z : Str) : Prop where
  pos : 1 ≤ z.length
  le : z.length ≤ n
  sg : ∀ c ∈ TL.tl z, 32 ≤ c ∧ c ≤ 126
def spSigns : Sp := fun vs H Q _ => vs = [] ∧ Q (.str signs) H
abbrev N__law_b_signs : List Str := []
theorem sc__law_b_signs : FnScope N__law_b_signs [] (defScope s__law_b_signs) := ⟨rfl, rfl, rfl, by decide +kernel, rfl, by decide +kernel, by decide +kernel⟩
theorem ok_signs (D : FunD K "_law_b_signs" "_law_b_signs" (defArgs s__law_b_signs) (defBody s__law_b_signs) (defScope s__law_b_signs) [] [] f fd) : FnOk P w K mg base CX0 1 f fd [] spSigns := by
  refine D.ok sc__law_b_signs (fun vs H Q E h => ?_) (fun cdv A outer s H vs Q E hr h => ?_)
  · obtain ⟨rfl, _⟩ := h
    rfl
  · obtain ⟨rfl, k⟩ := h
    exact ⟨_, PSs.nox ((pss_one (ps_ret pe_str))), k⟩
def spDrawn : Sp := fun vs H Q _ => ∃ (a : Addr) (n : Nat), vs = [.ref a, .int (n : Int)] ∧ Src H a ∧ 0 < n ∧ n ≤ 1000 ∧ ∀ (z : Str) (H' : Hp), Wd n z → Mv a H H' → Q (.str z) H'
abbrev N__law_b_drawn_words : List Str := ["source", "most", "signs", "at"]
theorem sc__law_b_drawn_words : FnScope N__law_b_drawn_words ["source", "most"] (defScope s__law_b_drawn_words) := ⟨rfl, rfl, rfl, by decide +kernel, rfl, by decide +kernel, by decide +kernel⟩
theorem ok_drawn (D : FunD K "_law_b_drawn_words" "_law_b_drawn_words" (defArgs s__law_b_drawn_words) (defBody s__law_b_drawn_words) (defScope s__law_b_drawn_words) [] [] f fd) (F : Nms mg)
    (c__law_pick : Cal P w K mg base CX0 1 "_law_pick" spPick) (c__law_b_signs : Cal P w K mg base CX0 1 "_law_b_signs" spSigns) : FnOk P w K mg base CX0 2 f fd ["source", "most"] spDrawn := by
  refine D.ok sc__law_b_drawn_words (fun vs H Q E h => ?_) (fun cdv A outer s H vs Q E hr h => ?_)
  · obtain ⟨a, n, rfl, _⟩ := h
    rfl
  · obtain ⟨a, n, rfl, hs, hn, hn2, k⟩ := h
    refine ⟨_, PSs.nox ((pss_cons (ps_set (i := 2) sc__law_b_drawn_words.nd rfl (Or.inr rfl) (Lw.pe_mono (pe_ifExp (pt_cmpR op_eq (Lw.pe_c c__law_pick hr (by omega) (by rfl) (pa_cons (pv 0) (pa_cons pe_int pa_nil))) pe_int (nomark _)) pe_str (Lw.pe_c0 c__law_b_signs hr (by omega) (by rfl)))))
  (pss_one (ps_ret (Kx.pe_join (K := K) pe_str (pe_lc (own := [("at", 3)]) rfl sc__law_b_drawn_words.nd (pi_range1 (by rfl) F.«range» (pa_cons (pe_op op_add pe_int (Lw.pe_c c__law_pick hr (by omega) (by rfl) (pa_cons (pv 0) (pa_cons (pv 1) pa_nil)))) pa_nil)) (blkOk_by (own := [("at", 3)]) (N := N__law_b_drawn_words) (sc := defScope s__law_b_drawn_words) (by decide +kernel)) (fun _ _ _ _ _ => (pg_name (i := 3) sc__law_b_drawn_words.nd rfl (Or.inl rfl))) (fun _ _ _ _ _ => pts_nil) (fun _ _ _ _ _ => (pe_ix ix_str (pv 2) (Lw.pe_c c__law_pick hr (by omega) (by rfl) (pa_cons (pv 0) (pa_cons (pe_callB call_len_str (by rfl) F.«len» PySem.boot_len (pa_cons (pv 2) pa_nil)) pa_nil))) (fun _ _ => rfl))))))))), ?_⟩
    -- signs
    refine ⟨fun x H1 => ∃ z : Str, x = .str z ∧ Mv a H H1 ∧ 0 < z.length ∧ z.length ≤ 1000 ∧ ∀ c ∈ TL.tl z, 32 ≤ c ∧ c ≤ 126, ?_, ?_⟩
    · refine ⟨_, rfl, a, 4, rfl, hs, by decide, by decide, fun r H1 r0 r1 mv => ?_⟩
      refine ⟨rfl, _, rfl, ?_⟩
      refine ite2 (fun c => ?_) (fun c => ?_)
      · exact ⟨_, rfl, mv, by decide +kernel, by decide +kernel, by decide +kernel⟩
      · exact ⟨rfl, _, rfl, mv, by decide +kernel, by decide +kernel, by decide +kernel⟩
    rintro x H1 ⟨z, rfl, mv, z0, z1, zs⟩
    refine ⟨⟨_, rfl⟩, ?_⟩
    refine ⟨_, rfl, _, rfl, a, n, rfl, mv.src, by omega, by omega, fun r H2 r0 r1 mv2 => ?_⟩
    refine ⟨_, _, rfl, rfl, _, rfl, by omega, by omega, fun D hD => ?_⟩
    have naD : a ≠ D := by
      obtain ⟨_, _, _, e, _⟩ := mv2.src
      exact ne_of_none e hD
    have zl : z.length ≤ sizeLine := small_line (by omega)
    refine lc_mk (walk_range (lo := 0) (n := (1 + r).toNat)) (fun i acc H' => Mv a H H' ∧ ∃ ys : List Str, acc = ys.map V.str ∧ ys.length = i ∧ ∀ y ∈ ys, ∃ c, y = ⟨#[c]⟩ ∧ 32 ≤ c ∧ c ≤ 126)
      ⟨(mv.trans mv2).new hD, [], rfl, rfl, fun y h => nomatch h⟩ (fun _ _ _ _ _ => trivial) ?_ ?_
    · rintro i x acc H3 H4 hi ⟨m3, ys, rfl, hl, hy⟩ eD _ ⟨rfl, rfl⟩
      refine ⟨rfl, _, rfl, _, rfl, _, rfl, _, rfl, zl, a, (z.length : Nat), rfl, m3.src, by omega, by omega, fun q H5 q0 q1 mv5 => ?_⟩
      obtain ⟨j, rfl⟩ := Int.eq_ofNat_of_zero_le q0
      have hj : j < (TL.tl z).length := by
        rw [← TL.len_tl]
        omega
      have hc := List.getElem?_eq_getElem hj
      refine ⟨z, j, _, rfl, rfl, zl, atI_nat hc, ?_⟩
      have eD5 := mv5.keep D _ (Ne.symm naD) eD
      refine Made.put eD5 (by rw [List.length_map]; omega) hi (small_line (by omega)) ⟨⟨fun b o n e => ?_, ?_⟩, ys ++ [⟨#[(TL.tl z)[j]]⟩], by rw [List.map_append]; rfl, by rw [List.length_append, hl]; rfl, fun y hm => ?_⟩
      · have nbD : b ≠ D := by
          have hb := mv2.keep b o n (mv.keep b o n e)
          exact ne_of_none hb hD
        rw [upd_ne nbD]
        exact mv5.keep b o n (m3.keep b o n e)
      · obtain ⟨s0, s1, s2, e, h⟩ := mv5.src
        exact ⟨s0, s1, s2, by rw [upd_ne naD]; exact e, h⟩
      · rcases List.mem_append.mp hm with hm | hm
        · exact hy y hm
        · rw [List.mem_singleton.mp hm]
          exact ⟨_, rfl, zs _ (List.getElem_mem hj)⟩
    · rintro acc H3 ⟨m3, ys, rfl, hl, hy⟩ eD _
      have h1 : (ys.map (·.length)).sum = ys.length := Lg.ones_len fun y hm => by
        obtain ⟨c, rfl, _⟩ := hy y hm
        rfl
      have h2 : (Txt.join (Str.ofString "") ys).length = ys.length := by
        rw [TL.len_tl, Lg.tl_join0, ← Lg.sum_lens, h1]
      refine ⟨_, D, ys, rfl, rfl, .inl (SqL.of eD), ?_, k _ _ ⟨?_, ?_, ?_⟩ m3⟩
      · rw [h1]
        have e0 : (Str.ofString "").length = 0 := by decide +kernel
        rw [e0]
        omega
      · rw [h2]
        omega
      · rw [h2]
        omega
      · intro c hc
        rw [Lg.tl_join0] at hc
        obtain ⟨l, hl1, hl2⟩ := List.mem_flatten.mp hc
        obtain ⟨y, hy1, rfl⟩ := List.mem_map.mp hl1
        obtain ⟨d, rfl, hd⟩ := hy y hy1
        have : c = d := by simpa using hl2
        rw [this]
        exact hd
def spCheck : Sp := fun vs H Q _ => ∃ (n : Int) (z : Str), vs = [.int n, .str z] ∧ z.length ≤ 100000 ∧ Q (.int (Lg.chk n (TL.tl z))) H
abbrev N__law_b_check : List Str := ["number", "words", "total", "at"]
theorem sc__law_b_check : FnScope N__law_b_check ["number", "words"] (defScope s__law_b_check) := ⟨rfl, rfl, rfl, by decide +kernel, rfl, by decide +kernel, by decide +kernel⟩
theorem ok_check (D : FunD K "_law_b_check" "_law_b_check" (defArgs s__law_b_check) (defBody s__law_b_check) (defScope s__law_b_check) [] [] f fd) (F : Nms mg) : FnOk P w K mg base CX0 1 f fd ["number", "words"] spCheck := by
  refine D.ok sc__law_b_check (fun vs H Q E h => ?_) (fun cdv A outer s H vs Q E hr h => ?_)
  · obtain ⟨n, z, rfl, _⟩ := h
    rfl
  · obtain ⟨n, z, rfl, hz, k⟩ := h
    refine ⟨_, PSs.nox ((pss_cons (ps_set (i := 2) sc__law_b_check.nd rfl (Or.inl rfl) (pe_op op_mul pe_int (pv 0)))
  (pss_cons (ps_for PassesOwn.never rfl (pi_range1 (by rfl) F.«range» (pa_cons (pe_callB call_len_str (by rfl) F.«len» PySem.boot_len (pa_cons (pv 1) pa_nil)) pa_nil)) (pg_name (i := 3) sc__law_b_check.nd rfl (Or.inl rfl)) (pss_one (ps_aug (i := 2) sc__law_b_check.nd rfl (Or.inl rfl) (pe_op op_mul (pe_op op_add (pv 3) pe_int) (pe_callB call_ord (by rfl) F.«ord» (by decide +kernel) (pa_cons (pe_ix ix_str (pv 1) (pv 3) (fun _ _ => rfl)) pa_nil))) ip_add)))
  (pss_one (ps_ret (pe_op op_mod (pv 2) pe_int)))))), ?_⟩
    have hz2 : z.length ≤ sizeLine := small_line (by omega)
    have hc := TL.len_tl z
    refine ⟨_, rfl, _, _, rfl, rfl, .inl ⟨by decide, by decide⟩, _, rfl, _, rfl, hz2, _, rfl, by omega, by omega, ?_⟩
    refine for_it (walk_range (lo := 0) (n := z.length)) (fun i σ H' => H' = H ∧ ∃ v, σ = [some (.int n), some (.str z), some (.int (7 * n + Lg.psum (TL.tl z) i)), v]) ⟨rfl, none, by show _ = [_, _, some (V.int (7 * n + 0)), _]; rw [Int.add_zero]; rfl⟩ (fun _ _ _ _ _ => trivial) ?_ ?_
    · rintro i x σ H1 H2 hi ⟨rfl, v, rfl⟩ ⟨rfl, rfl⟩
      have hi2 : i < (TL.tl z).length := by
        rw [← hc]
        exact hi
      have hci := List.getElem?_eq_getElem hi2
      have e : 7 * n + Lg.psum (TL.tl z) (i + 1) = 7 * n + Lg.psum (TL.tl z) i + (0 + (i : Int) + 1) * ((TL.tl z)[i] : Nat) := by
        show 7 * n + (Lg.psum (TL.tl z) i + ((i : Int) + 1) * ((TL.tl z).getD i 0 : Nat)) = _
        rw [List.getD_eq_getElem?_getD, hci, Int.zero_add, Int.add_assoc]
        rfl
      refine ⟨_, rfl, _, rfl, _, _, rfl, rfl, _, rfl, _, rfl, z, _, _, rfl, rfl, hz2, (by show atI _ (0 + (i : Int)) = _; rw [Int.zero_add]; exact atI_nat hci), _, rfl, rfl, _, _, rfl, rfl, .inl ⟨by omega, by omega⟩, _, _, rfl, rfl, ?_⟩
      exact ⟨rfl, _, by rw [e]; rfl⟩
    · rintro σ H1 ⟨rfl, v, rfl⟩
      refine ⟨_, rfl, _, _, rfl, rfl, (by show (0 : Int) < 8191; decide), ?_⟩
      show Q (.int ((7 * n + Lg.psum (TL.tl z) z.length) % 8191)) H1
      rw [hc]
      exact k
def spLine : Sp := fun vs H Q _ => ∃ (n : Int) (z : Str), vs = [.int n, .str z] ∧ z.length ≤ 100000 ∧ 0 ≤ n ∧ n < 10 ^ 10 ∧ Q (.str (Lg.lineS n z)) H
abbrev N__law_b_line : List Str := ["number", "words"]
theorem sc__law_b_line : FnScope N__law_b_line ["number", "words"] (defScope s__law_b_line) := ⟨rfl, rfl, rfl, by decide +kernel, rfl, by decide +kernel, by decide +kernel⟩
theorem ok_line (D : FunD K "_law_b_line" "_law_b_line" (defArgs s__law_b_line) (defBody s__law_b_line) (defScope s__law_b_line) [] [] f fd) (F : Nms mg)
    (c__law_b_check : Cal P w K mg base CX0 1 "_law_b_check" spCheck) : FnOk P w K mg base CX0 2 f fd ["number", "words"] spLine := by
  refine D.ok sc__law_b_line (fun vs H Q E h => ?_) (fun cdv A outer s H vs Q E hr h => ?_)
  · obtain ⟨n, z, rfl, _⟩ := h
    rfl
  · obtain ⟨n, z, rfl, hz, h0, h1, k⟩ := h
    refine ⟨_, PSs.nox ((pss_one (ps_ret (pe_op op_add_str (pe_op op_add_str (pe_op op_add_str (pe_op op_add_str (pe_op op_add_str (pe_op op_add_str (pe_op op_add_str (pe_callTy call_str_int (by rfl) F.«str» (by decide +kernel) (pa_cons (pv 0) pa_nil)) pe_str) (pe_callTy call_str_int (by rfl) F.«str» (by decide +kernel) (pa_cons (pe_callB call_len_str (by rfl) F.«len» PySem.boot_len (pa_cons (pv 1) pa_nil)) pa_nil))) pe_str) (pe_callTy call_str_int (by rfl) F.«str» (by decide +kernel) (pa_cons (Lw.pe_c c__law_b_check hr (by omega) (by rfl) (pa_cons (pv 0) (pa_cons (pv 1) pa_nil))) pa_nil))) pe_str) (pv 1)) pe_str)))), ?_⟩
    have hz2 : z.length ≤ sizeLine := small_line (by omega)
    have l1 : (Str.ofString (toString n)).length ≤ 10 := Lg.num_len h0 h1
    have l2 : (Str.ofString (toString ((z.length : Nat) : Int))).length ≤ 10 := Lg.num_len (n := (z.length : Nat)) (by omega) (by omega)
    have l3 : (Str.ofString (toString (Lg.chk n (TL.tl z)))).length ≤ 10 := Lg.num_len (Lg.chk_nonneg n (TL.tl z)) (by have := Lg.chk_lt n (TL.tl z); omega)
    have e1 : (" " : Str).length = 1 := by decide +kernel
    have e2 : ("\n" : Str).length = 1 := by decide +kernel
    have sz : ∀ {a b : Str}, a.length + b.length ≤ 200000 → a.length + b.length ≤ sizeLine := fun h => small_line (by omega)
    refine ⟨_, rfl, _, rfl, Lg.log2_small h0 h1, _, _, rfl, rfl, sz (by rw [e1]; omega), _, rfl, _, rfl, hz2, _, rfl, Lg.log2_small (by omega) (by omega), _, _, rfl, rfl, sz (by simp only [Lg.len_append]; omega), _, _, rfl, rfl, sz (by simp only [Lg.len_append]; omega), ?_⟩
    refine ⟨_, rfl, _, rfl, _, _, rfl, by omega, ?_⟩
    refine ⟨_, rfl, Lg.log2_small (Lg.chk_nonneg _ _) (by have := Lg.chk_lt n (TL.tl z); omega), _, _, rfl, rfl, sz (by simp only [Lg.len_append]; omega), _, _, rfl, rfl, sz (by simp only [Lg.len_append]; omega), _, rfl, _, _, rfl, rfl, sz (by simp only [Lg.len_append]; omega), _, _, rfl, rfl, sz (by simp only [Lg.len_append]; omega), k⟩
end
end K83

set_option Elab.async false
set_option linter.all false
set_option maxRecDepth 100000
set_option maxHeartbeats 4000000
namespace K83
open PySem PySem.Spec PyProof.Rows L2 Lw
section
variable {P : Program} {w : World} {K : PySem.W.Frag} {mg : Str → Option Value} {base : Heap} {f : Addr} {fd : FuncData}
def spLog (K : PySem.W.Frag) : Sp := fun vs H Q _ => ∃ (a : Addr) (zs : List Str), vs = [.ref a] ∧ SqL K H a (zs.map V.str) ∧ zs.length ≤ 2000 ∧ (∀ z ∈ zs, z.length ≤ 2000) ∧ ∀ H', Same H H' → Q (.str (Lg.logS zs)) H'
abbrev N__law_b_log : List Str := ["rows", "at"]
theorem sc__law_b_log : FnScope N__law_b_log ["rows"] (defScope s__law_b_log) := ⟨rfl, rfl, rfl, by decide +kernel, rfl, by decide +kernel, by decide +kernel⟩
theorem ok_log (D : FunD K "_law_b_log" "_law_b_log" (defArgs s__law_b_log) (defBody s__law_b_log) (defScope s__law_b_log) [] [] f fd) (F : Nms mg)
    (c__law_b_line : Cal P w K mg base CX0 2 "_law_b_line" spLine) : FnOk P w K mg base CX0 3 f fd ["rows"] (spLog K) := by
  refine D.ok sc__law_b_log (fun vs H Q E h => ?_) (fun cdv A outer s H vs Q E hr h => ?_)
  · obtain ⟨a, zs, rfl, _⟩ := h
    rfl
  · obtain ⟨a, zs, rfl, hS, hn, hz, k⟩ := h
    refine ⟨_, PSs.nox ((pss_one (ps_ret (Kx.pe_join (K := K) pe_str (pe_lc (own := [("at", 1)]) rfl sc__law_b_log.nd (pi_range1 (by rfl) F.«range» (pa_cons (pe_callB (Kx.call_len_seq (K := K)) (by rfl) F.«len» PySem.boot_len (pa_cons (pv 0) pa_nil)) pa_nil)) (blkOk_by (own := [("at", 1)]) (N := N__law_b_log) (sc := defScope s__law_b_log) (by decide +kernel)) (fun _ _ _ _ _ => (pg_name (i := 1) sc__law_b_log.nd rfl (Or.inl rfl))) (fun _ _ _ _ _ => pts_nil) (fun _ _ _ _ _ => (Lw.pe_c c__law_b_line hr (by omega) (by rfl) (pa_cons (pe_op op_add (pv 1) pe_int) (pa_cons (pe_ix (Kx.ix_list (K := K)) (pv 0) (pv 1) (fun _ _ => rfl)) pa_nil))))))))), ?_⟩
    refine ⟨⟨_, rfl⟩, ?_⟩
    refine ⟨_, rfl, a, _, rfl, .inl hS, _, rfl, by omega, by rw [List.length_map]; omega, fun D hD => ?_⟩
    refine lc_mk (walk_range (lo := 0) (n := (zs.map V.str).length)) (fun i acc H' => Same H H' ∧ acc = (Lg.linesFrom 0 (zs.take i)).map V.str) ⟨Same.new hD, rfl⟩ (fun _ _ _ _ _ => trivial) ?_ ?_
    · rintro i x acc H3 H4 hi ⟨sm, rfl⟩ eD hl ⟨rfl, rfl⟩
      have hi2 : i < zs.length := by
        rw [List.length_map] at hi
        exact hi
      have hzi := List.getElem?_eq_getElem hi2
      refine ⟨rfl, _, rfl, _, _, rfl, rfl, _, rfl, _, rfl, a, _, _, _, rfl, rfl, sm.seq hS, (by show atI _ (0 + (i : Int)) = _; rw [Int.zero_add]; exact atI_nat (v := V.str zs[i]) (by rw [List.getElem?_map, hzi]; rfl)), _, _, rfl, ?_, by omega, by omega, ?_⟩
      · have := hz _ (List.getElem_mem hi2)
        omega
      · have e1 : 0 + (i : Int) + 1 = ((0 + (zs.take i).length + 1 : Nat) : Int) := by
          rw [List.length_take]
          omega
        refine Made.put eD hl hi (small_line (by rw [List.length_map]; omega)) ⟨sm.mut hD, ?_⟩
        rw [e1, Lg.take_more hzi, Lg.linesFrom_snoc, List.map_append]
        rfl
    · rintro acc H3 ⟨sm, rfl⟩ eD hl
      rw [List.length_map, List.take_length] at eD
      refine ⟨_, D, _, rfl, rfl, .inl (SqL.of eD), ?_, k _ sm⟩
      have key : ∀ (zs : List Str) (j : Nat), j + zs.length ≤ 2000 → (∀ z ∈ zs, z.length ≤ 2000) → ((Lg.linesFrom j zs).map (·.length)).sum ≤ zs.length * 2040 := by
        intro zs
        induction zs with
        | nil => intro j _ _; exact Nat.zero_le _
        | cons y r ih =>
          intro j hj hy
          have h1 := ih (j + 1) (by rw [List.length_cons] at hj; omega) fun z h => hy z (List.mem_cons_of_mem _ h)
          have h2 := hy y (List.mem_cons_self ..)
          rw [List.length_cons] at hj
          have h3 := Lg.line_len (n := ((j + 1 : Nat) : Int)) (z := y) (by omega) (by omega) (by omega)
          show (Lg.lineS _ y).length + ((Lg.linesFrom (j + 1) r).map (·.length)).sum ≤ (r.length + 1) * 2040
          omega
      have h0 := key zs 0 (by omega) hz
      have e0 : (Str.ofString "").length = 0 := by decide +kernel
      rw [e0]
      omega
def spRowSum : Sp := fun vs H Q _ => ∃ (n : Int) (z : Str), vs = [.int n, .str z] ∧ z.length ≤ 100000 ∧ ∀ H', Same H H' → Q (.int (Lg.chk n (TL.tl z))) H'
abbrev N_row_sum : List Str := ["number", "words", "total", "at", "sign"]
theorem sc_row_sum : FnScope N_row_sum ["number", "words"] (defScope s_row_sum) := ⟨rfl, rfl, rfl, by decide +kernel, rfl, by decide +kernel, by decide +kernel⟩
theorem ok_row_sum (D : FunD K "row_sum" "row_sum" (defArgs s_row_sum) (defBody s_row_sum) (defScope s_row_sum) [] [] f fd) (F : Nms mg) : FnOk P w K mg base CX0 1 f fd ["number", "words"] spRowSum := by
  refine D.ok sc_row_sum (fun vs H Q E h => ?_) (fun cdv A outer s H vs Q E hr h => ?_)
  · obtain ⟨n, z, rfl, _⟩ := h
    rfl
  · obtain ⟨n, z, rfl, hz, k⟩ := h
    refine ⟨_, PSs.nox ((pss_cons (ps_set (i := 2) sc_row_sum.nd rfl (Or.inl rfl) (pe_op op_mul pe_int (pv 0)))
  (pss_cons (ps_for PassesOwn.never rfl (Xtra.pi_enumS (by rfl) F.«enumerate» (pa_cons (pv 1) pa_nil)) (Kx.pg_tup (K := K) (by rfl) (pgs_cons (pg_name (i := 3) sc_row_sum.nd rfl (Or.inl rfl)) (pgs_cons (pg_name (i := 4) sc_row_sum.nd rfl (Or.inl rfl)) pgs_nil))) (pss_one (ps_set (i := 2) sc_row_sum.nd rfl (Or.inl rfl) (pe_op op_add (pv 2) (pe_op op_mul (pe_op op_add (pv 3) pe_int) (pe_callB call_ord (by rfl) F.«ord» (by decide +kernel) (pa_cons (pv 4) pa_nil)))))))
  (pss_one (ps_ret (pe_ix (Kx.ix_tup (K := K)) (pe_callB call_divmod (by rfl) F.«divmod» (by decide +kernel) (pa_cons (pv 2) (pa_cons pe_int pa_nil))) pe_int (fun _ _ => rfl))))))), ?_⟩
    have hc := TL.len_tl z
    refine ⟨_, rfl, _, _, rfl, rfl, .inl ⟨by decide, by decide⟩, _, rfl, _, rfl, ?_⟩
    refine for_it Xtra.walk_enumS (fun i σ H' => Same H H' ∧ ∃ v v', σ = [some (.int n), some (.str z), some (.int (7 * n + Lg.psum (TL.tl z) i)), v, v']) ⟨Same.refl H, none, none, by show _ = [_, _, some (V.int (7 * n + 0)), _, _]; rw [Int.add_zero]; rfl⟩ (fun _ _ _ _ _ => trivial) ?_ ?_
    · rintro i x σ H1 H2 hi ⟨sm, v, v', rfl⟩ ⟨T, c, rfl, hT, rfl, hci⟩
      have hci' : (TL.tl z)[i]? = some c := by
        rw [← hci]
        simp [TL.tl]
      have e : 7 * n + Lg.psum (TL.tl z) (i + 1) = 7 * n + Lg.psum (TL.tl z) i + ((i : Int) + 1) * (c : Nat) := by
        show 7 * n + (Lg.psum (TL.tl z) i + ((i : Int) + 1) * ((TL.tl z).getD i 0 : Nat)) = _
        rw [List.getD_eq_getElem?_getD, hci', Int.add_assoc]
        rfl
      have hi2 : i < z.length := hi
      refine ⟨_, _, rfl, SqT.of upd_same, rfl, _, _, rfl, _, _, rfl, rfl, ?_⟩
      refine ⟨_, rfl, _, rfl, _, _, rfl, rfl, _, rfl, _, rfl, rfl, _, _, rfl, rfl, .inl ⟨by omega, by omega⟩, _, _, rfl, rfl, ?_⟩
      exact ⟨sm.trans (Same.new hT), _, _, by rw [e]; rfl⟩
    · rintro σ H1 ⟨sm, v, v', rfl⟩
      refine ⟨_, rfl, _, _, rfl, ⟨by decide, by decide⟩, fun p hp => ?_⟩
      refine ⟨_, _, _, _, rfl, rfl, SqT.of upd_same, rfl, ?_⟩
      have e : (7 * n + Lg.psum (TL.tl z) z.cps.size) % 8191 = Lg.chk n (TL.tl z) := by
        unfold Lg.chk
        rw [← hc]
        rfl
      show Q (.int ((7 * n + Lg.psum (TL.tl z) z.cps.size) % 8191)) _
      rw [e]
      exact k _ (sm.trans (Same.new hp))
end
end K83

set_option Elab.async false
set_option linter.all false
set_option maxRecDepth 100000
set_option maxHeartbeats 4000000
namespace K83
open PySem PySem.Spec PyProof.Rows L2 Lw
/-- the table LIMITS of the top -/
structure Lim (K : PySem.W.Frag) (w : World) (mg : Str → Option Value) (dL : Addr) (es : Array DictEntry) (n : Nat) : Prop where
  t : mg "LIMITS" = some (.ref dL)
  d : KDict K w dL es n
  v : ∀ q ∈ vals_LIMITS, ∃ u, PySem.W.nsIn K dL q.1 = some (some u) ∧ RelV (q.2.v K) u
section
variable {P : Program} {w : World} {K : PySem.W.Frag} {mg : Str → Option Value} {base : Heap} {f : Addr} {fd : FuncData} {a_LIMITS : Addr} {es : Array DictEntry} {nL : Nat} {HE TM BD : Addr}
def spIsRow : Sp := fun vs H Q _ => ∃ z : Str, vs = [.str z] ∧ z.length ≤ 100000 ∧ ∀ H', Same H H' → Q (.bl (Lg.isRow (TL.tl z))) H'
abbrev N_is_row : List Str := ["words", "sign"]
theorem sc_is_row : FnScope N_is_row ["words"] (defScope s_is_row) := ⟨rfl, rfl, rfl, by decide +kernel, rfl, by decide +kernel, by decide +kernel⟩
theorem ok_is_row (D : FunD K "is_row" "is_row" (defArgs s_is_row) (defBody s_is_row) (defScope s_is_row) [] [] f fd) (F : Nms mg) (L : Lim K w mg a_LIMITS es nL) : FnOk P w K mg base CX0 1 f fd ["words"] spIsRow := by
  refine D.ok sc_is_row (fun vs H Q E h => ?_) (fun cdv A outer s H vs Q E hr h => ?_)
  · obtain ⟨z, rfl, _⟩ := h
    rfl
  · obtain ⟨z, rfl, hz, k⟩ := h
    have t_LIMITS := L.t
    have d_LIMITS := L.d
    have hc := TL.len_tl z
    have hz2 : z.length ≤ sizeLine := small_line (by omega)
    obtain ⟨u, hu, ru⟩ := L.v ("signs", .int 2000) (by unfold vals_LIMITS; simp)
    refine ⟨_, PSs.nox ((pss_cons (ps_if (PW.pt (pw_or (pt_cmpR op_lt (pe_callB call_len_str (by rfl) F.«len» PySem.boot_len (pa_cons (pv 0) pa_nil)) pe_int (nomark _)) (pw_or1 (pt_cmpR op_gt (pe_callB call_len_str (by rfl) F.«len» PySem.boot_len (pa_cons (pv 0) pa_nil)) (pe_ix (Xtra.ix_kd d_LIMITS) (pe_glob (v := .ref a_LIMITS) (by rfl) t_LIMITS rfl) pe_str (fun _ _ => rfl)) (nomark _))))) (pss_one (ps_ret pe_bl)) pss_nil)
  (pss_one (ps_ret (pe_callB (Kx.cr_all (K := K) rfl) (by rfl) F.«all» (by decide +kernel) (pa_cons (pe_lc (own := [("sign", 1)]) rfl sc_is_row.nd (pi_str (pv 0)) (blkOk_by (own := [("sign", 1)]) (N := N_is_row) (sc := defScope s_is_row) (by decide +kernel)) (fun _ _ _ _ _ => (pg_name (i := 1) sc_is_row.nd rfl (Or.inl rfl))) (fun _ _ _ _ _ => pts_nil) (fun _ _ _ _ _ => (pe_chain op_le op_le pe_int (pe_callB call_ord (by rfl) F.«ord» (by decide +kernel) (pa_cons (pv 1) pa_nil)) pe_int))) pa_nil)))))), ?_⟩
    refine ⟨_, rfl, _, rfl, hz2, _, _, rfl, rfl, _, rfl, ?_⟩
    refine ite2 (fun c => ?_) (fun c => ?_)
    · have c2 := of_decide_eq_true c
      have e : Lg.isRow (TL.tl z) = false := by
        unfold Lg.isRow
        rw [decide_eq_false (by omega)]
        rfl
      have := k H (Same.refl H)
      rw [e] at this
      exact this
    have c1 : 1 ≤ z.length := by
      have : ¬ (z.length : Int) < 1 := fun h => c (decide_eq_true h)
      omega
    refine ⟨_, rfl, _, rfl, hz2, _, _, _, rfl, rfl, hu, ru, _, _, rfl, rfl, _, rfl, ?_⟩
    refine ite2 (fun c => ?_) (fun c => ?_)
    · have c2 : (2000 : Int) < z.length := of_decide_eq_true c
      have e : Lg.isRow (TL.tl z) = false := by
        unfold Lg.isRow
        rw [decide_eq_false (show ¬ (TL.tl z).length ≤ 2000 by omega), Bool.false_and, Bool.and_false]
      have := k H (Same.refl H)
      rw [e] at this
      exact this
    have c2 : z.length ≤ 2000 := by
      have : ¬ (2000 : Int) < z.length := fun h => c (decide_eq_true h)
      omega
    refine ⟨_, rfl, _, rfl, fun D hD => ?_⟩
    refine lc_mk walk_str (fun i acc H' => Same H H' ∧ acc = ((TL.tl z).take i).map fun c => V.bl (decide (32 ≤ c) && decide (c ≤ 126))) ⟨Same.new hD, rfl⟩ (fun _ _ _ _ _ => trivial) ?_ ?_
    · rintro i x acc H3 H4 hi ⟨sm, rfl⟩ eD hl ⟨rfl, c, hci, rfl⟩
      have hci' : (TL.tl z)[i]? = some c := by
        rw [← hci]
        simp [TL.tl]
      have fin : ∃ acc, H4 D = some (.lst acc) ∧ acc.length < sizeLine ∧ Made D (fun i acc H' => Same H H' ∧ acc = ((TL.tl z).take i).map fun c => V.bl (decide (32 ≤ c) && decide (c ≤ 126))) (i + 1) (upd H4 D (.lst (acc ++ [V.bl (decide (32 ≤ c) && decide (c ≤ 126))]))) := by
        refine Made.put eD hl hi hz2 ⟨sm.mut hD, ?_⟩
        rw [Lg.take_more hci', List.map_append]
        rfl
      refine ⟨rfl, _, rfl, _, rfl, rfl, _, _, rfl, rfl, _, rfl, ?_⟩
      refine ite2 (fun h => ?_) (fun h => ?_)
      · have h1 : (32 : Int) ≤ (c : Nat) := of_decide_eq_true h
        rw [show decide (32 ≤ c) = true from decide_eq_true (by omega), Bool.true_and, show decide (c ≤ 126) = decide (((c : Nat) : Int) ≤ 126) from decide_eq_decide.mpr (by omega)] at fin
        exact ⟨_, _, rfl, rfl, fin⟩
      · have h1 : ¬ (32 : Int) ≤ (c : Nat) := fun q => h (decide_eq_true q)
        rw [show decide (32 ≤ c) = false from decide_eq_false (by omega), Bool.false_and] at fin
        exact fin
    · rintro acc H3 ⟨sm, rfl⟩ eD hl
      have e1 : (TL.tl z).take z.cps.size = TL.tl z := List.take_of_length_le (by rw [← hc]; exact Nat.le_refl _)
      rw [e1] at eD
      refine ⟨D, (TL.tl z).map fun c => decide (32 ≤ c) && decide (c ≤ 126), rfl, SqL.of (by rw [eD, List.map_map]; rfl), ?_⟩
      have e : Lg.isRow (TL.tl z) = ((TL.tl z).map fun c => decide (32 ≤ c) && decide (c ≤ 126)).all id := by
        unfold Lg.isRow
        rw [decide_eq_true (by omega), decide_eq_true (by omega), Bool.true_and, Bool.true_and, List.all_map]
        rfl
      rw [← e]
      exact k _ sm
/-! ### the errors' makers -/
def okTxt : V → Prop := fun y => ∃ z : Str, y = .str z ∧ z.length ≤ 1000
abbrev N_TooMany___init__ : List Str := ["self", "what"]
theorem sc_TooMany___init__ : FnScope N_TooMany___init__ ["self", "what"] (defScope s_TooMany___init__) := ⟨rfl, rfl, rfl, by decide +kernel, rfl, by decide +kernel, by decide +kernel⟩
theorem ok_TooMany (D : FunD K "__init__" "TooMany.__init__" (defArgs s_TooMany___init__) (defBody s_TooMany___init__) (defScope s_TooMany___init__) [] [] f fd) (g_HighError : mg "HighError" = some (.ref HE)) (b_HighError : Ecom.BasC K HE) (T : OexC K TM) (no : PySem.W.findIn K (.ref TM) "what" = some none) :
    FnOk P w K mg base CX0 1 f fd ["self", "what"] (spErr1 TM "what" okTxt) := by
  refine D.ok sc_TooMany___init__ (fun vs H Q E h => ?_) (fun cdv A outer s H vs Q E hr h => ?_)
  · obtain ⟨a, y, rfl, _⟩ := h
    rfl
  · obtain ⟨a, y, rfl, ⟨z, rfl, hz⟩, ha, k⟩ := h
    refine ⟨_, PSs.nox ((pss_cons (ps_expr (Ecom.pe_binit (by rfl) g_HighError b_HighError (pa_cons (pv 0) (pa_cons (pe_op op_add_str pe_str (pv 1)) pa_nil))))
  (pss_one (ps_ost (pv 0) (pv 1))))), ?_⟩
    refine ⟨_, rfl, _, rfl, _, _, rfl, rfl, small_line (by have e : ("too many: " : Str).length = 10 := by decide +kernel
                                                           rw [e]; omega), a, TM, _, rfl, (by show 1 ≤ 1000; decide), T, ha, ?_⟩
    exact ⟨_, rfl, _, rfl, a, TM, rfl, T, no, .inl ⟨ha, k⟩⟩
abbrev N_BadDeed___init__ : List Str := ["self", "what"]
theorem sc_BadDeed___init__ : FnScope N_BadDeed___init__ ["self", "what"] (defScope s_BadDeed___init__) := ⟨rfl, rfl, rfl, by decide +kernel, rfl, by decide +kernel, by decide +kernel⟩
theorem ok_BadDeed (D : FunD K "__init__" "BadDeed.__init__" (defArgs s_BadDeed___init__) (defBody s_BadDeed___init__) (defScope s_BadDeed___init__) [] [] f fd) (g_HighError : mg "HighError" = some (.ref HE)) (b_HighError : Ecom.BasC K HE) (T : OexC K BD) (no : PySem.W.findIn K (.ref BD) "what" = some none) :
    FnOk P w K mg base CX0 1 f fd ["self", "what"] (spErr1 BD "what" okTxt) := by
  refine D.ok sc_BadDeed___init__ (fun vs H Q E h => ?_) (fun cdv A outer s H vs Q E hr h => ?_)
  · obtain ⟨a, y, rfl, _⟩ := h
    rfl
  · obtain ⟨a, y, rfl, ⟨z, rfl, hz⟩, ha, k⟩ := h
    refine ⟨_, PSs.nox ((pss_cons (ps_expr (Ecom.pe_binit (by rfl) g_HighError b_HighError (pa_cons (pv 0) (pa_cons (pe_op op_add_str pe_str (pv 1)) pa_nil))))
  (pss_one (ps_ost (pv 0) (pv 1))))), ?_⟩
    refine ⟨_, rfl, _, rfl, _, _, rfl, rfl, small_line (by have e : ("refused: " : Str).length = 9 := by decide +kernel
                                                           rw [e]; omega), a, BD, _, rfl, (by show 1 ≤ 1000; decide), T, ha, ?_⟩
    exact ⟨_, rfl, _, rfl, a, BD, rfl, T, no, .inl ⟨ha, k⟩⟩
/-! ### bound, log_line -/
def spBound (C : Addr) : Sp := fun vs H Q E => ∃ (x : Str) (n m : Int), vs = [.str x, .int n] ∧ (x, He.Dv.int m) ∈ vals_LIMITS ∧ x.length ≤ 100 ∧ (m < n → Rz E C H [("what", .str x)]) ∧ (n ≤ m → Q .non H)
abbrev N_bound : List Str := ["what", "number"]
theorem sc_bound : FnScope N_bound ["what", "number"] (defScope s_bound) := ⟨rfl, rfl, rfl, by decide +kernel, rfl, by decide +kernel, by decide +kernel⟩
theorem ok_bound (D : FunD K "bound" "bound" (defArgs s_bound) (defBody s_bound) (defScope s_bound) [] [] f fd) (L : Lim K w mg a_LIMITS es nL) (r_TooMany : Err P w K mg base 1 "TooMany" TM (spErr1 TM "what" okTxt)) :
    FnOk P w K mg base (L2N.CX P w) 3 f fd ["what", "number"] (spBound TM) := by
  refine D.ok sc_bound (fun vs H Q E h => ?_) (fun cdv A outer s H vs Q E hr h => ?_)
  · obtain ⟨x, n, m, rfl, _⟩ := h
    rfl
  · obtain ⟨x, n, m, rfl, hm, hx, k1, k2⟩ := h
    have t_LIMITS := L.t
    have d_LIMITS := L.d
    obtain ⟨u, hu, ru⟩ := L.v _ hm
    refine ⟨_, ((pss_one (ps_if (pt_cmpR op_gt (pv 1) (pe_ix (Xtra.ix_kd d_LIMITS) (pe_glob (v := .ref a_LIMITS) (by rfl) t_LIMITS rfl) (pv 0) (fun _ _ => rfl)) (nomark _)) (pss_one (L2N.ps_raise rfl (L2N.takes_of rfl rfl rfl rfl) (Lw.pmk r_TooMany hr (by omega) (by rfl) (pa_cons (pv 0) pa_nil)))) pss_nil))), ?_⟩
    refine ⟨_, rfl, _, rfl, _, _, _, rfl, rfl, hu, ru, _, _, rfl, rfl, _, rfl, ?_⟩
    refine ite2 (fun c => ?_) (fun c => ?_)
    · exact ⟨_, rfl, mk_err1 ⟨x, rfl, by omega⟩ (k1 (of_decide_eq_true c))⟩
    · have : ¬ m < n := fun h => c (decide_eq_true h)
      exact k2 (by omega)
def spLogLine (TM BD : Addr) : Sp := fun vs H Q E => ∃ (n : Int) (z : Str), vs = [.int n, .str z] ∧ 0 ≤ n ∧ n < 10 ^ 10 ∧ z.length ≤ 100000 ∧ (2000 < z.length → Rz E TM H [("what", .str "signs")]) ∧
  (z.length ≤ 2000 → Lg.isRow (TL.tl z) = false → Rz E BD H [("what", .str "words")]) ∧ (Lg.isRow (TL.tl z) = true → ∀ H', Same H H' → Q (.str (Lg.lineS n z)) H')
abbrev N_log_line : List Str := ["number", "words"]
theorem sc_log_line : FnScope N_log_line ["number", "words"] (defScope s_log_line) := ⟨rfl, rfl, rfl, by decide +kernel, rfl, by decide +kernel, by decide +kernel⟩
theorem ok_log_line (D : FunD K "log_line" "log_line" (defArgs s_log_line) (defBody s_log_line) (defScope s_log_line) [] [] f fd) (F : Nms mg) (x_bound : Cal P w K mg base (L2N.CX P w) 3 "bound" (spBound TM))
    (c_is_row : Cal P w K mg base CX0 1 "is_row" spIsRow) (c_row_sum : Cal P w K mg base CX0 1 "row_sum" spRowSum) (r_BadDeed : Err P w K mg base 1 "BadDeed" BD (spErr1 BD "what" okTxt)) :
    FnOk P w K mg base (L2N.CX P w) 4 f fd ["number", "words"] (spLogLine TM BD) := by
  refine D.ok sc_log_line (fun vs H Q E h => ?_) (fun cdv A outer s H vs Q E hr h => ?_)
  · obtain ⟨n, z, rfl, _⟩ := h
    rfl
  · obtain ⟨n, z, rfl, h0, h1, hz, k1, k2, k3⟩ := h
    refine ⟨_, ((pss_cons (ps_expr (Lw.pe_cx x_bound hr (by omega) (by rfl) (L2N.takes_of rfl rfl rfl rfl) (pa_cons pe_str (pa_cons (pe_callB call_len_str (by rfl) F.«len» PySem.boot_len (pa_cons (pv 1) pa_nil)) pa_nil))))
  (pss_cons (ps_if (pt_not (pt_val (Lw.pe_c c_is_row hr (by omega) (by rfl) (pa_cons (pv 1) pa_nil)))) (pss_one (L2N.ps_raise rfl (L2N.takes_of rfl rfl rfl rfl) (Lw.pmk r_BadDeed hr (by omega) (by rfl) (pa_cons pe_str pa_nil)))) pss_nil)
  (pss_one (ps_ret (pe_op op_add_str (pe_op op_add_str (pe_op op_add_str (pe_op op_add_str (pe_op op_add_str (pe_op op_add_str (pe_op op_add_str (pe_callTy call_str_int (by rfl) F.«str» (by decide +kernel) (pa_cons (pv 0) pa_nil)) pe_str) (pe_callTy call_str_int (by rfl) F.«str» (by decide +kernel) (pa_cons (pe_callB call_len_str (by rfl) F.«len» PySem.boot_len (pa_cons (pv 1) pa_nil)) pa_nil))) pe_str) (pe_callTy call_str_int (by rfl) F.«str» (by decide +kernel) (pa_cons (Lw.pe_c c_row_sum hr (by omega) (by rfl) (pa_cons (pv 0) (pa_cons (pv 1) pa_nil))) pa_nil))) pe_str) (pv 1)) pe_str)))))), ?_⟩
    have hz2 : z.length ≤ sizeLine := small_line (by omega)
    have l1 : (Str.ofString (toString n)).length ≤ 10 := Lg.num_len h0 h1
    have l2 : (Str.ofString (toString ((z.length : Nat) : Int))).length ≤ 10 := Lg.num_len (n := (z.length : Nat)) (by omega) (by omega)
    have l3 : (Str.ofString (toString (Lg.chk n (TL.tl z)))).length ≤ 10 := Lg.num_len (Lg.chk_nonneg n (TL.tl z)) (by have := Lg.chk_lt n (TL.tl z); omega)
    have e1 : (" " : Str).length = 1 := by decide +kernel
    have e2 : ("\n" : Str).length = 1 := by decide +kernel
    have sz : ∀ {a b : Str}, a.length + b.length ≤ 200000 → a.length + b.length ≤ sizeLine := fun h => small_line (by omega)
    refine ⟨_, rfl, _, rfl, hz2, "signs", (z.length : Nat), 2000, rfl, by unfold vals_LIMITS; simp, by decide +kernel, fun h => k1 (by omega), fun h => ?_⟩
    refine ⟨_, rfl, z, rfl, hz, fun H1 s1 => ⟨_, rfl, ?_⟩⟩
    cases c : Lg.isRow (TL.tl z) with
    | false => exact mk_err1 ⟨_, rfl, by decide +kernel⟩ ((k2 (by omega) c).same s1)
    | true =>
      refine ⟨_, rfl, _, rfl, Lg.log2_small h0 h1, _, _, rfl, rfl, sz (by rw [e1]; omega), _, rfl, _, rfl, hz2, _, rfl, Lg.log2_small (by omega) (by omega), _, _, rfl, rfl, sz (by simp only [Lg.len_append]; omega), _, _, rfl, rfl, sz (by simp only [Lg.len_append]; omega), ?_⟩
      refine ⟨_, rfl, _, rfl, _, _, rfl, by omega, fun H2 s2 => ?_⟩
      refine ⟨_, rfl, Lg.log2_small (Lg.chk_nonneg _ _) (by have := Lg.chk_lt n (TL.tl z); omega), _, _, rfl, rfl, sz (by simp only [Lg.len_append]; omega), _, _, rfl, rfl, sz (by simp only [Lg.len_append]; omega), _, rfl, _, _, rfl, rfl, sz (by simp only [Lg.len_append]; omega), _, _, rfl, rfl, sz (by simp only [Lg.len_append]; omega), k3 c _ (s1.trans s2)⟩
end
end K83

set_option Elab.async false
set_option linter.all false
set_option maxRecDepth 100000
set_option maxHeartbeats 4000000
namespace Lg
open PySem TL L2
/-- the text l is the line of some row with this number -/
def Is (n : Int) (l z : Str) : Prop := isRow (tl z) = true ∧ lineS n z = l ++ "\n"
theorem sp_eq : (" " : Str) = ⟨#[32]⟩ := by decide +kernel
theorem nl_eq : ("\n" : Str) = ⟨#[10]⟩ := by decide +kernel
theorem Is.codes {n : Int} {l z : Str} (h : Is n l z) (h0 : 0 ≤ n) : tl l = lineL n.toNat (tl z) := by
  obtain ⟨m, rfl⟩ := Int.eq_ofNat_of_zero_le h0
  have e := congrArg tl h.2
  rw [tl_line, tl_append, nl_eq] at e
  exact (List.append_cancel_right e).symm
theorem Is.parts {n : Int} {l z : Str} (h : Is n l z) (h0 : 0 ≤ n) : ∃ a b c, Txt.splitMax l " " 3 = [a, b, c, z] := by
  have e := Sp1.splitMax_eq l 32 3 (by decide)
  rw [h.codes h0] at e
  unfold lineL at e
  rw [Sp1.splM_app (numL_free (by decide)), Sp1.splM_app (numL_free (by decide)), Sp1.splM_app (numL_free (by decide))] at e
  have e2 : (Txt.splitMax l ⟨#[32]⟩ (3 : Nat)).map tl = ([⟨(numL n.toNat).toArray⟩, ⟨(numL (tl z).length).toArray⟩, ⟨(numL (chk n.toNat (tl z)).toNat).toArray⟩, z] : List Str).map tl := by
    rw [e]
    rfl
  exact ⟨_, _, _, by rw [sp_eq]; exact map_tl_inj e2⟩
theorem Is.unique {n : Int} {l z y : Str} (h : Is n l z) (h2 : Is n l y) (h0 : 0 ≤ n) : y = z := by
  obtain ⟨a, b, c, e⟩ := h.parts h0
  obtain ⟨a2, b2, c2, e2⟩ := h2.parts h0
  rw [e] at e2
  simp only [List.cons.injEq] at e2
  exact e2.2.2.2.1.symm
theorem parts_len {l p : Str} (h : p ∈ Txt.splitMax l " " 3) : p.length ≤ l.length := by
  have e := Sp1.splitMax_eq l 32 3 (by decide)
  have h2 : tl p ∈ (Txt.splitMax l ⟨#[32]⟩ (3 : Nat)).map tl := by
    rw [sp_eq] at h
    exact List.mem_map_of_mem h
  rw [e] at h2
  have := Sp1.splM_len _ h2
  rw [len_tl, len_tl]
  exact this
theorem cut_last (xs : List V) (y : V) : cutV (xs ++ [y]) none (some (-1)) = xs := by
  have e : HT.sIx (xs.length + 1) (xs.length + 1) (some (-1)) = xs.length := by
    show (if (-1 : Int) < 0 then ((-1 : Int) + ((xs.length + 1 : Nat) : Int)).toNat else min (-1 : Int).toNat (xs.length + 1)) = xs.length
    rw [if_pos (by decide)]
    omega
  unfold cutV
  rw [HT.sIx_none, List.length_append, List.length_singleton, e, List.drop_zero, Nat.sub_zero, List.take_left']
  rfl
end Lg
namespace K83
open PySem PySem.Spec PyProof.Rows L2 Lw
section
variable {P : Program} {w : World} {K : PySem.W.Frag} {mg : Str → Option Value} {base : Heap} {f : Addr} {fd : FuncData} {TM BD : Addr}
def spRowOf : Sp := fun vs H Q _ => ∃ (n : Int) (l : Str), vs = [.int n, .str l] ∧ 0 ≤ n ∧ n < 10 ^ 10 ∧ l.length ≤ 100000 ∧ (∀ z, Lg.Is n l z → ∀ H', Same H H' → Q (.str z) H') ∧ ((∀ z, ¬ Lg.Is n l z) → ∀ H', Same H H' → Q .non H')
abbrev N_row_of : List Str := ["number", "line", "parts"]
theorem sc_row_of : FnScope N_row_of ["number", "line"] (defScope s_row_of) := ⟨rfl, rfl, rfl, by decide +kernel, rfl, by decide +kernel, by decide +kernel⟩
theorem ok_row_of (D : FunD K "row_of" "row_of" (defArgs s_row_of) (defBody s_row_of) (defScope s_row_of) [] [] f fd) (F : Nms mg) (c_is_row : Cal P w K mg base CX0 1 "is_row" spIsRow) (x_log_line : Cal P w K mg base (L2N.CX P w) 4 "log_line" (spLogLine TM BD)) :
    FnOk P w K mg base CX0 5 f fd ["number", "line"] spRowOf := by
  refine D.ok sc_row_of (fun vs H Q E h => ?_) (fun cdv A outer s H vs Q E hr h => ?_)
  · obtain ⟨n, l, rfl, _⟩ := h
    rfl
  · obtain ⟨n, l, rfl, h0, h1, hl, k1, k2⟩ := h
    refine ⟨_, PSs.nox ((pss_cons (ps_set (i := 2) sc_row_of.nd rfl (Or.inl rfl) (pe_bm PySem.F.plainAttrs_str PySem.F.slot_str_split PySem.F.type_str_split mt_splitMax (pv 1) (pa_cons pe_str (pa_cons pe_int pa_nil))))
  (pss_cons (ps_if (PW.pt (pw_or (pt_cmpR op_lt (pe_callB (Kx.call_len_seq (K := K)) (by rfl) F.«len» PySem.boot_len (pa_cons (pv 2) pa_nil)) pe_int (nomark _)) (pw_or1 (pt_not (pt_val (Lw.pe_c c_is_row hr (by omega) (by rfl) (pa_cons (pe_ix (Kx.ix_list (K := K)) (pv 2) pe_int (fun _ _ => rfl)) pa_nil))))))) (pss_one (ps_ret pe_non)) pss_nil)
  (pss_cons (ps_if (pt_cmpR op_ne (Lw.pe_cq x_log_line hr (by omega) (by rfl) (pa_cons (pv 0) (pa_cons (pe_ix (Kx.ix_list (K := K)) (pv 2) pe_int (fun _ _ => rfl)) pa_nil))) (pe_op op_add_str (pv 1) pe_str) (nomark _)) (pss_one (ps_ret pe_non)) pss_nil)
  (pss_one (ps_ret (pe_ix (Kx.ix_list (K := K)) (pv 2) pe_int (fun _ _ => rfl)))))))), ?_⟩
    refine ⟨_, rfl, rfl, l, " ", 3, rfl, rfl, by decide +kernel, by decide, by decide, small_line (by omega), fun p hp => ?_⟩
    by_cases hz : ∃ z, Lg.Is n l z
    · obtain ⟨z, hz⟩ := hz
      obtain ⟨a, b, c, e⟩ := hz.parts h0
      have hzl : z.length ≤ 100000 := by
        have := Lg.parts_len (l := l) (p := z) (by rw [e]; simp)
        omega
      rw [e]
      have hS : SqL K (upd H p (.lst (([a, b, c, z] : List Str).map V.str))) p [.str a, .str b, .str c, .str z] := SqL.of upd_same
      refine ⟨_, rfl, p, _, rfl, .inl hS, _, _, rfl, rfl, _, rfl, ?_⟩
      refine ite2 (fun c => absurd (of_decide_eq_true c) (by show ¬ ((4 : Int) < 4); decide)) (fun _ => ?_)
      refine ⟨_, rfl, p, _, _, _, rfl, rfl, hS, rfl, z, rfl, hzl, fun H2 s2 => ⟨_, rfl, ?_⟩⟩
      rw [hz.1]
      refine iteF ?_
      have hr2 : z.length ≤ 2000 := by
        have h2 := hz.1
        unfold Lg.isRow at h2
        simp only [Bool.and_eq_true, decide_eq_true_eq] at h2
        rw [TL.len_tl]
        exact h2.2.1
      refine ⟨_, rfl, _, rfl, p, _, _, _, rfl, rfl, s2.seq hS, rfl, n, z, rfl, h0, h1, hzl, fun h => absurd h (by omega), fun _ h => absurd hz.1 (by rw [h]; decide), fun _ H3 s3 => ?_⟩
      refine ⟨_, rfl, _, _, rfl, rfl, small_line (by have e2 : ("\n" : Str).length = 1 := by decide +kernel
                                                     rw [e2]; omega), rfl, _, rfl, ?_⟩
      refine iteNS (congrArg V.str hz.2) ?_
      exact ⟨_, rfl, p, _, _, _, rfl, rfl, (s2.trans s3).seq hS, rfl, k1 z hz _ ((Same.new hp).trans (s2.trans s3))⟩
    · have no : ∀ z, ¬ Lg.Is n l z := fun z h => hz ⟨z, h⟩
      have hlen : ∀ q ∈ Txt.splitMax l " " 3, q.length ≤ 100000 := fun q hq => by
        have := Lg.parts_len hq
        omega
      generalize Txt.splitMax l " " 3 = ps at *
      have hS : SqL K (upd H p (.lst (ps.map V.str))) p (ps.map V.str) := SqL.of upd_same
      refine ⟨_, rfl, p, _, rfl, .inl hS, _, _, rfl, rfl, _, rfl, ?_⟩
      refine ite2 (fun c => k2 no _ (Same.new hp)) (fun c => ?_)
      have h4 : 3 < ps.length := by
        have c2 : ¬ ((ps.map V.str).length : Int) < 4 := fun h => c (decide_eq_true h)
        rw [List.length_map] at c2
        omega
      have hq : (ps.map V.str)[3]? = some (V.str ps[3]) := by
        rw [List.getElem?_map, List.getElem?_eq_getElem h4]
        rfl
      have hql := hlen _ (List.getElem_mem h4)
      refine ⟨_, rfl, p, _, _, _, rfl, rfl, hS, atI_nat (j := 3) hq, ps[3], rfl, hql, fun H2 s2 => ⟨_, rfl, ?_⟩⟩
      cases hrow : Lg.isRow (TL.tl ps[3]) with
      | false => exact k2 no _ ((Same.new hp).trans s2)
      | true =>
        refine iteF ?_
        have hr2 : (ps[3]).length ≤ 2000 := by
          have h2 := hrow
          unfold Lg.isRow at h2
          simp only [Bool.and_eq_true, decide_eq_true_eq] at h2
          rw [TL.len_tl]
          exact h2.2.1
        refine ⟨_, rfl, _, rfl, p, _, _, _, rfl, rfl, s2.seq hS, atI_nat (j := 3) hq, n, ps[3], rfl, h0, h1, hql, fun h => absurd h (by omega), fun _ h => absurd hrow (by rw [h]; decide), fun _ H3 s3 => ?_⟩
        refine ⟨_, rfl, _, _, rfl, rfl, small_line (by have e2 : ("\n" : Str).length = 1 := by decide +kernel
                                                       rw [e2]; omega), rfl, _, rfl, ?_⟩
        have ne : ¬ V.str (Lg.lineS n ps[3]) = V.str (l ++ "\n") := fun h => no ps[3] ⟨hrow, V.str.inj h⟩
        rw [decide_eq_false ne]
        exact k2 no _ ((Same.new hp).trans (s2.trans s3))
def recState (zs ls : List Str) (last : Str) : List V := if zs.length < ls.length then [.str "spoilt", .int ((zs.length : Int) + 1)] else if last = "" then [.str "whole"] else [.str "cut", .int ((zs.length : Int) + 1)]
def spRecover (TM : Addr) : Sp := fun vs H Q E => ∃ (t : Str) (ls : List Str) (last : Str) (zs : List Str), vs = [.str t] ∧ Txt.split t "\n" = ls ++ [last] ∧ t.length ≤ 16000000 ∧ (2000 < ls.length → Rz E TM H [("what", .str "log")]) ∧
  (ls.length ≤ 2000 → (∀ l ∈ ls, l.length ≤ 100000) ∧ zs.length ≤ ls.length ∧ (∀ (i : Nat) z, zs[i]? = some z → ∃ l, ls[i]? = some l ∧ Lg.Is ((i + 1 : Nat) : Int) l z) ∧ (∀ l, ls[zs.length]? = some l → ∀ z, ¬ Lg.Is ((zs.length + 1 : Nat) : Int) l z) ∧
    ∀ H' p q r, Same H H' → H' p = some (.tup (zs.map V.str)) → H' q = some (.tup (recState zs ls last)) → H' r = some (.tup [.ref p, .ref q]) → Q (.ref r) H')
abbrev N_recover_log : List Str := ["text", "lines", "rows", "line", "words"]
theorem sc_recover_log : FnScope N_recover_log ["text"] (defScope s_recover_log) := ⟨rfl, rfl, rfl, by decide +kernel, rfl, by decide +kernel, by decide +kernel⟩
theorem ok_recover (D : FunD K "recover_log" "recover_log" (defArgs s_recover_log) (defBody s_recover_log) (defScope s_recover_log) [] [] f fd) (F : Nms mg) (x_bound : Cal P w K mg base (L2N.CX P w) 3 "bound" (spBound TM)) (c_row_of : Cal P w K mg base CX0 5 "row_of" spRowOf) :
    FnOk P w K mg base (L2N.CX P w) 6 f fd ["text"] (spRecover TM) := by
  refine D.ok sc_recover_log (fun vs H Q E h => ?_) (fun cdv A outer s H vs Q E hr h => ?_)
  · obtain ⟨t, _, _, _, rfl, _⟩ := h
    rfl
  · obtain ⟨t, ls, last, zs, rfl, hsp, ht, k1, k2⟩ := h
    refine ⟨_, ((pss_cons (ps_set (i := 1) sc_recover_log.nd rfl (Or.inl rfl) (pe_split (pv 0) pe_str))
  (pss_cons (ps_expr (Lw.pe_cx x_bound hr (by omega) (by rfl) (L2N.takes_of rfl rfl rfl rfl) (pa_cons pe_str (pa_cons (pe_op op_sub (pe_callB (Kx.call_len_seq (K := K)) (by rfl) F.«len» PySem.boot_len (pa_cons (pv 1) pa_nil)) pe_int) pa_nil))))
  (pss_cons (ps_set (i := 2) sc_recover_log.nd rfl (Or.inl rfl) (pe_lst pa_nil))
  (pss_cons (ps_for (passes_of rfl) rfl (Kx.pi_list (K := K) (pe_slice (Kx.sl_list (K := K)) (pv 1) po_none (po_some (pe_un un_neg pe_int)))) (pg_name (i := 3) sc_recover_log.nd rfl (Or.inl rfl)) (pss_cons (ps_set (i := 4) sc_recover_log.nd rfl (Or.inl rfl) (Lw.pe_c c_row_of hr (by omega) (by rfl) (pa_cons (pe_op op_add (pe_callB (Kx.call_len_seq (K := K)) (by rfl) F.«len» PySem.boot_len (pa_cons (pv 2) pa_nil)) pe_int) (pa_cons (pv 3) pa_nil))))
  (pss_cons (ps_if (pt_cmpR op_isN (pv 4) pe_non (nomark _)) (pss_one (ps_ret (pe_tup (pa_cons (Kx.pe_tupleOf (K := K) (by rfl) F.«tuple» (pv 2)) (pa_cons (pe_tup (pa_cons pe_str (pa_cons (pe_op op_add (pe_callB (Kx.call_len_seq (K := K)) (by rfl) F.«len» PySem.boot_len (pa_cons (pv 2) pa_nil)) pe_int) pa_nil))) pa_nil))))) pss_nil)
  (pss_one (ps_expr (pe_bm PySem.F.plainAttrs_list PySem.F.slot_list_append PySem.F.type_list_append mt_append (pv 2) (pa_cons (pv 4) pa_nil)))))))
  (pss_cons (ps_if (pt_cmpR op_ne (pe_ix (Kx.ix_list (K := K)) (pv 1) (pe_un un_neg pe_int) (fun _ _ => rfl)) pe_str (nomark _)) (pss_one (ps_ret (pe_tup (pa_cons (Kx.pe_tupleOf (K := K) (by rfl) F.«tuple» (pv 2)) (pa_cons (pe_tup (pa_cons pe_str (pa_cons (pe_op op_add (pe_callB (Kx.call_len_seq (K := K)) (by rfl) F.«len» PySem.boot_len (pa_cons (pv 2) pa_nil)) pe_int) pa_nil))) pa_nil))))) pss_nil)
  (pss_one (ps_ret (pe_tup (pa_cons (Kx.pe_tupleOf (K := K) (by rfl) F.«tuple» (pv 2)) (pa_cons (pe_tup (pa_cons pe_str pa_nil)) pa_nil))))))))))), ?_⟩
    refine ⟨_, rfl, ⟨_, rfl⟩, t, "\n", rfl, rfl, by decide +kernel, small_line (by omega), fun p hp => ?_⟩
    rw [hsp]
    have hS : SqL K (upd H p (.lst ((ls ++ [last]).map V.str))) p ((ls ++ [last]).map V.str) := SqL.of upd_same
    have hls : (ls ++ [last]).map V.str = ls.map V.str ++ [V.str last] := List.map_append
    refine ⟨_, rfl, p, _, rfl, .inl hS, _, _, rfl, rfl, "log", _, 2000, rfl, by unfold vals_LIMITS; simp, by decide +kernel, fun h => ?_, fun h => ?_⟩
    · rw [List.length_map, List.length_append, List.length_singleton] at h
      exact (k1 (by omega)).same (Same.new hp)
    rw [List.length_map, List.length_append, List.length_singleton] at h
    obtain ⟨kl, kz, kg, kb, k3⟩ := k2 (by omega)
    refine ⟨Nat.zero_le _, fun q hq => ?_⟩
    have npq : p ≠ q := ne_of_none upd_same hq
    have hSq : SqL K (upd (upd H p (.lst ((ls ++ [last]).map V.str))) q (.lst [])) p (ls.map V.str ++ [V.str last]) := by
      rw [← hls]
      exact (Same.new hq).seq hS
    refine ⟨_, rfl, _, rfl, _, rfl, p, _, rfl, hSq, fun r hr2 => ?_⟩
    have ecut := Lg.cut_last (ls.map V.str) (V.str last)
    have hSr : SqL K (upd (upd (upd H p (.lst ((ls ++ [last]).map V.str))) q (.lst [])) r (.lst (cutV (ls.map V.str ++ [V.str last]) none (some (-1))))) r (ls.map V.str) := by
      rw [ecut]
      exact SqL.of upd_same
    have nqr : q ≠ r := ne_of_none upd_same hr2
    have sH : Same H (upd (upd (upd H p (.lst ((ls ++ [last]).map V.str))) q (.lst [])) r (.lst (cutV (ls.map V.str ++ [V.str last]) none (some (-1))))) := ((Same.new hp).trans (Same.new hq)).trans (Same.new hr2)
    have hSp := (Same.new (o := .lst (cutV (ls.map V.str ++ [V.str last]) none (some (-1)))) hr2).seq hSq
    have hq0 : (upd (upd (upd H p (.lst ((ls ++ [last]).map V.str))) q (.lst [])) r (.lst (cutV (ls.map V.str ++ [V.str last]) none (some (-1))))) q = some (.lst []) := by rw [upd_ne nqr, upd_same]
    have hHq : H q = none := (Same.new hp).free hq
    refine ⟨r, rfl, ⟨_, hSr⟩, ?_⟩
    generalize upd (upd (upd H p (.lst ((ls ++ [last]).map V.str))) q (.lst [])) r (.lst (cutV (ls.map V.str ++ [V.str last]) none (some (-1)))) = H3 at *
    -- all but the rows stands
    have frm : ∀ {H4 : Hp}, (∀ b o, b ≠ q → H3 b = some o → H4 b = some o) → Same H H4 := fun hk b o e => hk b o (ne_of_none e hHq) (sH b o e)
    have lstk : ∀ {H4 : Hp} {a : Addr} {xs : List V}, (∀ b o, b ≠ q → H3 b = some o → H4 b = some o) → a ≠ q → SqL K H3 a xs → SqL K H4 a xs := fun hk hn h => by
      rcases h with (h | ⟨o, h⟩) | h
      · exact .inl (.inl (hk _ _ hn h))
      · exact .inl (.inr ⟨o, hk _ _ hn h⟩)
      · exact .inr h
    refine for_it (walk_list (K := K) (a := r) (xs := ls.map V.str)) (fun i σ H' => i ≤ zs.length ∧ H' q = some (.lst ((zs.take i).map V.str)) ∧ (∀ b o, b ≠ q → H3 b = some o → H' b = some o) ∧ ∃ v3 v4, σ = [some (.str t), some (.ref p), some (.ref q), v3, v4])
      ⟨Nat.zero_le _, hq0, fun _ _ _ e => e, none, none, rfl⟩ (fun i σ H' _ ⟨_, _, hk, _⟩ => lstk hk (Ne.symm nqr) hSr) ?_ ?_
    · rintro i x σ H4 H5 hi ⟨hiz, e4, hk, v3, v4, rfl⟩ ⟨rfl, hx⟩
      obtain ⟨l, hl, rfl⟩ := strs_get hx
      have hti : (zs.take i).length = i := by
        rw [List.length_take]
        omega
      have e1 : ((((zs.take i).map V.str).length : Nat) : Int) + 1 = ((i + 1 : Nat) : Int) := by
        rw [List.length_map, hti]
        omega
      have hil : i < ls.length := (List.getElem?_eq_some_iff.mp hl).1
      refine ⟨_, rfl, q, _, rfl, .inl (SqL.of e4), _, _, rfl, rfl, _, rfl, ((i + 1 : Nat) : Int), l, by rw [← e1]; rfl, by omega, by omega, kl l (List.mem_of_getElem? hl), ?_, ?_⟩
      · intro z hz H6 s6
        have hlt : i < zs.length := by
          rcases Nat.lt_or_ge i zs.length with h | h
          · exact h
          · have ei : i = zs.length := by omega
            subst ei
            exact absurd hz (kb l hl z)
        have hzi := List.getElem?_eq_getElem hlt
        obtain ⟨l2, hl2, hz2⟩ := kg i _ hzi
        rw [hl] at hl2
        cases hl2
        have ez := Lg.Is.unique hz2 hz (by omega)
        subst ez
        refine ⟨_, rfl, rfl, _, rfl, ?_⟩
        refine ite2 (fun c => absurd (of_decide_eq_true c) (fun h => nomatch h)) (fun _ => ?_)
        have e6 := s6 _ _ e4
        refine ⟨_, rfl, .inl ⟨rfl, _, SqL.of e6⟩, _, rfl, q, _, _, rfl, rfl, e6, (by rw [List.length_map, hti]; exact Nat.lt_of_lt_of_le (by omega : i < 16777216) (by rw [sizeLine_eq]; exact Nat.le_refl _)), ?_⟩
        refine ⟨hlt, ?_, fun b o hb e => ?_, _, _, rfl⟩
        · rw [upd_same, Lg.take_more hzi, List.map_append]
          rfl
        · rw [upd_ne hb]
          exact s6 _ _ (hk b o hb e)
      · intro no H6 s6
        have ei : i = zs.length := by
          rcases Nat.lt_or_ge i zs.length with h | h
          · obtain ⟨l2, hl2, hz2⟩ := kg i _ (List.getElem?_eq_getElem h)
            rw [hl] at hl2
            cases hl2
            exact absurd hz2 (no _)
          · omega
        have e6 := s6 _ _ e4
        refine ⟨_, rfl, rfl, _, rfl, ?_⟩
        refine ite2 (fun _ => ?_) (fun c => absurd rfl (fun h => c (decide_eq_true h)))
        refine ⟨_, rfl, .inl ⟨q, _, rfl, SqL.of e6, fun a ha => ?_⟩⟩
        have e7 := (Same.new (o := .tup ((zs.take i).map V.str)) ha) _ _ e6
        refine ⟨_, rfl, q, _, rfl, .inl (SqL.of e7), _, _, rfl, rfl, (by show 2 ≤ sizeLine; decide), fun b hb => ⟨(by show 2 ≤ sizeLine; decide), fun c hc => ?_⟩⟩
        have nab : a ≠ b := ne_of_none upd_same hb
        have nac : a ≠ c := ne_of_none (by rw [upd_ne nab, upd_same]) hc
        have nbc : b ≠ c := ne_of_none upd_same hc
        refine k3 _ a b c ((frm hk).trans (s6.trans ((Same.new ha).trans ((Same.new hb).trans (Same.new hc))))) ?_ ?_ upd_same
        · rw [upd_ne nac, upd_ne nab, upd_same, ei, List.take_length]
        · rw [upd_ne nbc, upd_same]
          unfold recState
          rw [if_pos (by omega)]
          show some (HO.tup [V.str "spoilt", V.int (((((zs.take i).map V.str).length : Nat) : Int) + 1)]) = _
          rw [e1, ei]
          rfl
    · rintro σ H4 ⟨hiz, e4, hk, v3, v4, rfl⟩
      rw [List.length_map] at hiz e4
      have ez : zs.length = ls.length := by omega
      have e5 : zs.take ls.length = zs := by rw [← ez, List.take_length]
      rw [e5] at e4
      have hS4 := lstk hk npq hSp
      have nlt : ¬ zs.length < ls.length := by omega
      refine ⟨_, rfl, _, rfl, p, _, _, _, rfl, rfl, hS4, atI_last _ _, rfl, _, rfl, ?_⟩
      by_cases hlast : last = ""
      · rw [decide_eq_true (congrArg V.str hlast)]
        refine iteF ?_
        refine ⟨_, rfl, .inl ⟨q, _, rfl, SqL.of e4, fun a ha => ?_⟩⟩
        refine ⟨(by show 1 ≤ sizeLine; decide), fun b hb => ⟨(by show 2 ≤ sizeLine; decide), fun c hc => ?_⟩⟩
        have nab : a ≠ b := ne_of_none upd_same hb
        have nac : a ≠ c := ne_of_none (by rw [upd_ne nab, upd_same]) hc
        have nbc : b ≠ c := ne_of_none upd_same hc
        refine k3 _ a b c ((frm hk).trans ((Same.new ha).trans ((Same.new hb).trans (Same.new hc)))) ?_ ?_ upd_same
        · rw [upd_ne nac, upd_ne nab, upd_same]
        · rw [upd_ne nbc, upd_same]
          unfold recState
          rw [if_neg nlt, if_pos hlast]
      · rw [decide_eq_false (fun h => hlast (V.str.inj h))]
        refine ⟨_, rfl, .inl ⟨q, _, rfl, SqL.of e4, fun a ha => ?_⟩⟩
        have e7 := (Same.new (o := .tup (zs.map V.str)) ha) _ _ e4
        refine ⟨_, rfl, q, _, rfl, .inl (SqL.of e7), _, _, rfl, rfl, (by show 2 ≤ sizeLine; decide), fun b hb => ⟨(by show 2 ≤ sizeLine; decide), fun c hc => ?_⟩⟩
        have nab : a ≠ b := ne_of_none upd_same hb
        have nac : a ≠ c := ne_of_none (by rw [upd_ne nab, upd_same]) hc
        have nbc : b ≠ c := ne_of_none upd_same hc
        refine k3 _ a b c ((frm hk).trans ((Same.new ha).trans ((Same.new hb).trans (Same.new hc)))) ?_ ?_ upd_same
        · rw [upd_ne nac, upd_ne nab, upd_same]
        · rw [upd_ne nbc, upd_same]
          unfold recState
          rw [if_neg nlt, if_neg hlast]
          show some (HO.tup [V.str "cut", V.int ((((zs.map V.str).length : Nat) : Int) + 1)]) = _
          rw [List.length_map]
end
end K83

set_option Elab.async false
set_option linter.all false
set_option maxRecDepth 100000
set_option maxHeartbeats 4000000
/-! plain: a log cut anywhere, its lines -/
namespace Lg
open PySem TL L2
def lineB (n : Int) (z : Str) : Str := num n ++ " " ++ num (z.length : Nat) ++ " " ++ num (chk n (tl z)) ++ " " ++ z
theorem lineB_is {n : Int} {z : Str} (h : isRow (tl z) = true) : Is n (lineB n z) z := ⟨h, rfl⟩
theorem tl_lineB {n : Nat} {z : Str} : tl (lineB n z) = lineL n (tl z) := by
  have e := tl_line (n := n) (z := z)
  have e2 : lineS n z = lineB n z ++ "\n" := rfl
  rw [e2, tl_append, nl_eq] at e
  exact List.append_cancel_right e
theorem row_free {l : List Nat} (h : isRow l = true) : 10 ∉ l := fun hm => by
  unfold isRow at h
  simp only [Bool.and_eq_true, decide_eq_true_eq, List.all_eq_true] at h
  have := (h.2.2 10 hm).1
  omega
theorem row_len {z : Str} (h : isRow (tl z) = true) : 1 ≤ z.length ∧ z.length ≤ 2000 := by
  unfold isRow at h
  simp only [Bool.and_eq_true, decide_eq_true_eq] at h
  rw [len_tl]
  exact ⟨h.1, h.2.1⟩
theorem lineL_free {n : Nat} {w : List Nat} (h : 10 ∉ w) : 10 ∉ lineL n w := by
  unfold lineL
  simp only [List.mem_append, List.mem_cons, not_or]
  have f : ∀ m, 10 ∉ numL m := fun m => numL_free (by decide)
  exact ⟨f _, by decide, f _, by decide, f _, by decide, h⟩
theorem lineB_free {n : Nat} {z : Str} (h : isRow (tl z) = true) : 10 ∉ tl (lineB n z) := by
  rw [tl_lineB]
  exact lineL_free (row_free h)
def bodies (k : Nat) : List Str → List Str
  | [] => []
  | z :: r => lineB ((k + 1 : Nat) : Int) z :: bodies (k + 1) r
theorem bodies_length : ∀ (zs : List Str) (k : Nat), (bodies k zs).length = zs.length
  | [], _ => rfl
  | _ :: r, k => by
    show (bodies (k + 1) r).length + 1 = r.length + 1
    rw [bodies_length r]
theorem bodies_get : ∀ {zs : List Str} {k i : Nat} {z : Str}, zs[i]? = some z → (bodies k zs)[i]? = some (lineB ((k + i + 1 : Nat) : Int) z)
  | [], _, _, _, h => by simp at h
  | y :: r, k, 0, z, h => by
    simp at h
    subst h
    rfl
  | y :: r, k, i + 1, z, h => by
    have h2 : r[i]? = some z := by simpa using h
    have := bodies_get (k := k + 1) h2
    have e : k + (i + 1) + 1 = k + 1 + i + 1 := by omega
    rw [e]
    exact this
theorem bodies_mem : ∀ {zs : List Str} {k : Nat} {l : Str}, l ∈ bodies k zs → ∃ (n : Nat) (z : Str), z ∈ zs ∧ n ≤ k + zs.length ∧ l = lineB (n : Int) z
  | [], _, _, h => by cases h
  | y :: r, k, l, h => by
    rcases List.mem_cons.mp h with rfl | h
    · exact ⟨k + 1, y, List.mem_cons_self, by rw [List.length_cons]; omega, rfl⟩
    · obtain ⟨n, z, hz, hn, e⟩ := bodies_mem h
      exact ⟨n, z, List.mem_cons_of_mem _ hz, by rw [List.length_cons]; omega, e⟩
/-- the codes of a log -/
def flat (k : Nat) (zs : List Str) : List Nat := ((linesFrom k zs).map tl).flatten
theorem flat_cons (k : Nat) (z : Str) (r : List Str) : flat k (z :: r) = tl (lineB ((k + 1 : Nat) : Int) z) ++ 10 :: flat (k + 1) r := by
  show tl (lineS ((k + 1 : Nat) : Int) z) ++ flat (k + 1) r = _
  have e2 : lineS ((k + 1 : Nat) : Int) z = lineB ((k + 1 : Nat) : Int) z ++ "\n" := rfl
  rw [e2, tl_append, nl_eq, List.append_assoc]
  rfl
theorem flat_log (zs : List Str) : tl (logS zs) = flat 0 zs := tl_join0 _
theorem flat_join : ∀ (zs : List Str) (k : Nat) (last : Str), flat k zs ++ tl last = joinL [10] ((bodies k zs ++ [last]).map tl)
  | [], k, last => rfl
  | [z], k, last => by
    rw [flat_cons]
    show (tl _ ++ 10 :: []) ++ tl last = tl _ ++ ([10] ++ tl last)
    simp
  | z :: y :: r, k, last => by
    rw [flat_cons, List.append_assoc, List.cons_append, flat_join (y :: r) (k + 1) last]
    show _ = tl _ ++ ([10] ++ joinL [10] ((bodies (k + 1) (y :: r) ++ [last]).map tl))
    rfl
theorem split_log {t last : Str} {zs : List Str} (hr : ∀ z ∈ zs, isRow (tl z) = true) (hl : 10 ∉ tl last) (ht : tl t = flat 0 zs ++ tl last) : Txt.split t "\n" = bodies 0 zs ++ [last] := by
  have e : t = Txt.join "\n" (bodies 0 zs ++ [last]) := by
    refine ext_tl ?_
    rw [join_eq, tl_join, ht, flat_join, nl_eq]
  rw [e]
  refine split_join (y := "\n") (s := 10) (S := []) (by rw [nl_eq]) (by decide +kernel) (by simp) fun p hp => ?_
  rcases List.mem_append.mp hp with hp | hp
  · obtain ⟨n, z, hz, _, rfl⟩ := bodies_mem hp
    exact lineB_free (hr z hz)
  · rw [List.mem_singleton.mp hp]
    exact hl
theorem flat_take : ∀ (zs : List Str) (k m : Nat), m ≤ zs.length → ∃ rest, flat k zs = flat k (zs.take m) ++ rest ∧ (m = zs.length → rest = []) ∧ ∀ z, zs[m]? = some z → ∃ r2, rest = tl (lineB ((k + m + 1 : Nat) : Int) z) ++ 10 :: r2
  | zs, k, 0, _ => by
    refine ⟨flat k zs, rfl, fun e => ?_, fun z hz => ?_⟩
    · rw [List.eq_nil_of_length_eq_zero e.symm]
      rfl
    · cases zs with
      | nil => simp at hz
      | cons y r =>
        simp at hz
        subst hz
        exact ⟨_, flat_cons k y r⟩
  | [], k, m + 1, h => by simp at h
  | y :: r, k, m + 1, h => by
    obtain ⟨rest, e, e0, e1⟩ := flat_take r (k + 1) m (by simpa using h)
    refine ⟨rest, ?_, fun q => e0 (by simpa using q), fun z hz => ?_⟩
    · rw [List.take_succ_cons, flat_cons, flat_cons, e]
      simp
    · obtain ⟨r2, q⟩ := e1 z (by simpa using hz)
      refine ⟨r2, ?_⟩
      have e : k + (m + 1) + 1 = k + 1 + m + 1 := by omega
      rw [e]
      exact q
/-- the log's length after m lines -/
def endL (zs : List Str) (m : Nat) : Nat := (flat 0 (zs.take m)).length
theorem logS_take (zs : List Str) (m : Nat) : (logS (zs.take m)).length = endL zs m := by
  rw [len_tl, flat_log]
  rfl
/-- a log cut after c signs, m the last line that ends there or before -/
theorem cut_log {zs : List Str} {m c : Nat} (hr : ∀ z ∈ zs, isRow (tl z) = true) (hm : m ≤ zs.length) (h1 : endL zs m ≤ c) (h2 : m < zs.length → c < endL zs (m + 1)) (h3 : c ≤ (flat 0 zs).length) :
    ∃ last : Str, 10 ∉ tl last ∧ (flat 0 zs).take c = flat 0 (zs.take m) ++ tl last ∧ (last = "" ↔ endL zs m = c) := by
  obtain ⟨rest, e, e0, e1⟩ := flat_take zs 0 m hm
  unfold endL at h1 h2 ⊢
  have key : ∀ l : List Nat, 10 ∉ l → rest.take (c - (flat 0 (zs.take m)).length) = l → l.length = c - (flat 0 (zs.take m)).length → ∃ last : Str, 10 ∉ tl last ∧ (flat 0 zs).take c = flat 0 (zs.take m) ++ tl last ∧ (last = "" ↔ (flat 0 (zs.take m)).length = c) := by
    intro l hf hl hn
    refine ⟨⟨l.toArray⟩, by simpa [tl] using hf, ?_, ?_⟩
    · rw [e, List.take_append, List.take_of_length_le h1, hl]
    · constructor
      · intro h
        have : l.length = 0 := by
          have := congrArg Str.length h
          have e3 : ("" : Str).length = 0 := by decide +kernel
          rw [e3] at this
          simpa [Str.length] using this
        omega
      · intro h
        have : l = [] := List.eq_nil_of_length_eq_zero (by omega)
        subst this
        decide +kernel
  by_cases hlt : m < zs.length
  · obtain ⟨r2, q⟩ := e1 _ (List.getElem?_eq_getElem hlt)
    have hz := hr _ (List.getElem_mem hlt)
    have hlen : c - (flat 0 (zs.take m)).length ≤ (tl (lineB ((0 + m + 1 : Nat) : Int) zs[m])).length := by
      have h4 := h2 hlt
      obtain ⟨rest2, e2, _, _⟩ := flat_take (zs.take (m + 1)) 0 m (by rw [List.length_take]; omega)
      have e5 : (zs.take (m + 1)).take m = zs.take m := by rw [List.take_take]; congr 1; omega
      have e6 : zs.take (m + 1) = zs.take m ++ [zs[m]] := by rw [List.take_add_one, List.getElem?_eq_getElem hlt]; rfl
      have e7 : (flat 0 (zs.take (m + 1))).length = (flat 0 (zs.take m)).length + ((tl (lineB ((0 + m + 1 : Nat) : Int) zs[m])).length + 1) := by
        have : linesFrom 0 (zs.take (m + 1)) = linesFrom 0 (zs.take m) ++ [lineS ((0 + m + 1 : Nat) : Int) zs[m]] := by
          rw [e6, linesFrom_snoc, List.length_take, Nat.min_eq_left hm]
        unfold flat
        rw [this, List.map_append, List.flatten_append, List.length_append]
        have e2 : lineS ((0 + m + 1 : Nat) : Int) zs[m] = lineB ((0 + m + 1 : Nat) : Int) zs[m] ++ "\n" := rfl
        rw [e2]
        simp only [List.map_cons, List.map_nil, List.flatten_cons, List.flatten_nil, List.append_nil]
        rw [tl_append, nl_eq, List.length_append]
        rfl
      omega
    refine key ((tl (lineB ((0 + m + 1 : Nat) : Int) zs[m])).take (c - (flat 0 (zs.take m)).length)) (fun h => lineB_free hz (List.mem_of_mem_take h)) ?_ ?_
    · rw [q, List.take_append_of_le_length hlen]
    · rw [List.length_take]
      omega
  · have em : m = zs.length := by omega
    have er := e0 em
    refine key [] (by simp) (by rw [er]; simp) ?_
    rw [e, er, List.append_nil] at h3
    show 0 = _
    omega
theorem endL_mono (zs : List Str) (m : Nat) : endL zs m ≤ endL zs (m + 1) := by
  unfold endL
  obtain ⟨rest, e, _, _⟩ := flat_take (zs.take (m + 1)) 0 (min m (zs.take (m + 1)).length) (Nat.min_le_right _ _)
  have e2 : (zs.take (m + 1)).take (min m (zs.take (m + 1)).length) = zs.take m := by
    rw [List.take_take, List.length_take]
    by_cases h : m + 1 ≤ zs.length
    · congr 1
      omega
    · rw [List.take_of_length_le (by omega), List.take_of_length_le (by omega)]
  rw [e, e2, List.length_append]
  omega
/-- how many ends are not behind c -/
theorem ends_count {E : Nat → Nat} (mono : ∀ i, E i ≤ E (i + 1)) (h0 : E 0 = 0) (c : Nat) : ∀ n, ∃ m, m ≤ n ∧ (((List.range (n + 1)).map E).filter fun e => decide (e ≤ c)).length = m + 1 ∧ E m ≤ c ∧ (m < n → c < E (m + 1))
  | 0 => ⟨0, Nat.le_refl _, by rw [List.range_one]; simp [h0], by omega, fun h => by omega⟩
  | n + 1 => by
    obtain ⟨m, h1, h2, h3, h4⟩ := ends_count mono h0 c n
    rw [List.range_succ, List.map_append, List.filter_append, List.length_append, h2]
    have up : ∀ i j, i ≤ j → E i ≤ E j := fun i j h => by
      induction h with
      | refl => exact Nat.le_refl _
      | step _ ih => exact Nat.le_trans ih (mono _)
    by_cases hc : E (n + 1) ≤ c
    · have em : m = n := by
        rcases Nat.lt_or_ge m n with h | h
        · have := h4 h
          have := up (m + 1) (n + 1) (by omega)
          omega
        · omega
      subst em
      exact ⟨m + 1, Nat.le_refl _, by simp [hc], hc, fun h => by omega⟩
    · refine ⟨m, by omega, by simp [hc], h3, fun h => ?_⟩
      rcases Nat.lt_or_ge m n with h5 | h5
      · exact h4 h5
      · have : m = n := by omega
        subst this
        omega
end Lg

set_option Elab.async false
set_option linter.all false
set_option maxRecDepth 100000
set_option maxHeartbeats 4000000
/-! plain: a valid line with one sign changed is no valid line -/
namespace Lg
open PySem TL L2
theorem numL_mono : ∀ (n m : Nat), m ≤ n → (numL m).length ≤ (numL n).length := by
  intro n
  induction n using Nat.strongRecOn with
  | _ n ih =>
    intro m h
    by_cases hn : n < 10
    · rw [numL_lt hn, numL_lt (by omega)]
      exact Nat.le_refl _
    · rw [numL_step (n := n) (by omega)]
      by_cases hm : m < 10
      · rw [numL_lt hm, List.length_append]
        show 1 ≤ _ + 1
        omega
      · rw [numL_step (n := m) (by omega), List.length_append, List.length_append]
        have := ih (n / 10) (by omega) (m / 10) (by omega)
        show _ + 1 ≤ _ + 1
        omega
theorem nsp (n : Nat) : 32 ∉ numL n := numL_free (by decide)
/-- cut at the first separator -/
theorem cut_sep {s : Nat} : ∀ {a b r q : List Nat}, s ∉ a → s ∉ b → a ++ s :: r = b ++ s :: q → a = b ∧ r = q
  | [], [], r, q, _, _, h => ⟨rfl, by simpa using h⟩
  | [], c :: b, r, q, _, hb, h => by
    simp at h
    exact absurd (h.1 ▸ List.mem_cons_self) hb
  | c :: a, [], r, q, ha, _, h => by
    simp at h
    exact absurd (h.1 ▸ List.mem_cons_self) ha
  | c :: a, d :: b, r, q, ha, hb, h => by
    simp only [List.cons_append, List.cons.injEq] at h
    obtain ⟨h1, h2⟩ := cut_sep (fun z => ha (List.mem_cons_of_mem _ z)) (fun z => hb (List.mem_cons_of_mem _ z)) h.2
    exact ⟨by rw [h.1, h1], h2⟩
theorem line_prefix {n : Nat} {y w t : List Nat} (h : lineL n y ++ t = lineL n w) : t = [] := by
  unfold lineL at h
  simp only [List.append_assoc, List.cons_append] at h
  obtain ⟨_, h⟩ := cut_sep (nsp _) (nsp _) h
  obtain ⟨h1, h⟩ := cut_sep (nsp _) (nsp _) h
  obtain ⟨_, h⟩ := cut_sep (nsp _) (nsp _) h
  have e := numL_inj h1
  have := congrArg List.length h
  rw [List.length_append] at this
  exact List.eq_nil_of_length_eq_zero (by omega)
/-- a common head is no part of a difference -/
theorem strip {c d : Nat} {s : List Nat} (hcd : c ≠ d) : ∀ {X p B C : List Nat}, X ++ B = p ++ c :: s → X ++ C = p ++ d :: s → ∃ q, p = X ++ q ∧ B = q ++ c :: s ∧ C = q ++ d :: s
  | [], p, B, C, h1, h2 => ⟨p, rfl, h1, h2⟩
  | x :: X, [], B, C, h1, h2 => by
    simp only [List.cons_append, List.nil_append, List.cons.injEq] at h1 h2
    exact absurd (h1.1.symm.trans h2.1) hcd
  | x :: X, y :: p, B, C, h1, h2 => by
    simp only [List.cons_append, List.cons.injEq] at h1 h2
    obtain ⟨q, e1, e2, e3⟩ := strip hcd h1.2 h2.2
    exact ⟨q, by rw [h1.1, e1]; rfl, e2, e3⟩
/-- two heads of one length that differ: what follows is alike -/
theorem tails {c d : Nat} {s : List Nat} (hcd : c ≠ d) : ∀ {a b p B C : List Nat}, a.length = b.length → a ≠ b → a ++ B = p ++ c :: s → b ++ C = p ++ d :: s → B = C
  | [], [], _, _, _, _, h, _, _ => absurd rfl h
  | x :: a, y :: b, [], B, C, hl, _, h1, h2 => by
    simp only [List.cons_append, List.nil_append, List.cons.injEq] at h1 h2
    have e := h1.2.trans h2.2.symm
    exact (List.append_inj e (by simpa using hl)).2
  | x :: a, y :: b, z :: p, B, C, hl, hne, h1, h2 => by
    simp only [List.cons_append, List.cons.injEq] at h1 h2
    refine tails hcd (by simpa using hl) (fun e => hne ?_) h1.2 h2.2
    rw [h1.1, h2.1, e]
theorem strip32 {c d : Nat} {a p B C s : List Nat} (hcd : c ≠ d) (h1 : a ++ 32 :: B = p ++ c :: s) (h2 : a ++ 32 :: C = p ++ d :: s) : ∃ q, B = q ++ c :: s ∧ C = q ++ d :: s := by
  obtain ⟨q, _, e1, e2⟩ := strip (X := a ++ [32]) (B := B) (C := C) hcd (by simpa using h1) (by simpa using h2)
  exact ⟨q, e1, e2⟩
theorem tails32 {c d : Nat} {a b p B C s : List Nat} (hcd : c ≠ d) (hl : a.length = b.length) (hne : a ≠ b) (h1 : a ++ 32 :: B = p ++ c :: s) (h2 : b ++ 32 :: C = p ++ d :: s) : B = C :=
  tails hcd (a := a ++ [32]) (b := b ++ [32]) (B := B) (C := C) (by simp [hl]) (fun z => hne (List.append_cancel_right z)) (by simpa using h1) (by simpa using h2)
theorem getD_left {l m : List Nat} {i : Nat} (h : i < l.length) : (l ++ m).getD i 0 = l.getD i 0 := by
  rw [List.getD_eq_getElem?_getD, List.getD_eq_getElem?_getD, List.getElem?_append_left h]
theorem getD_right {l m : List Nat} {i : Nat} (h : l.length ≤ i) : (l ++ m).getD i 0 = m.getD (i - l.length) 0 := by
  rw [List.getD_eq_getElem?_getD, List.getD_eq_getElem?_getD, List.getElem?_append_right h]
theorem psum_app (q s : List Nat) (c d : Nat) : ∀ i, psum (q ++ c :: s) i - psum (q ++ d :: s) i = if i ≤ q.length then 0 else ((q.length : Int) + 1) * ((c : Int) - d)
  | 0 => by
    rw [if_pos (Nat.zero_le _)]
    rfl
  | i + 1 => by
    have ih := psum_app q s c d i
    show psum (q ++ c :: s) i + ((i : Int) + 1) * ((q ++ c :: s).getD i 0 : Nat) - (psum (q ++ d :: s) i + ((i : Int) + 1) * ((q ++ d :: s).getD i 0 : Nat)) = _
    rcases Nat.lt_trichotomy i q.length with h | h | h
    · rw [if_pos (by omega)]
      rw [if_pos (by omega)] at ih
      have e : (q ++ c :: s).getD i 0 = (q ++ d :: s).getD i 0 := by
        rw [getD_left h, getD_left h]
      rw [e]
      omega
    · rw [if_neg (by omega)]
      rw [if_pos (by omega)] at ih
      have e1 : (q ++ c :: s).getD i 0 = c := by rw [getD_right (by omega), h]; simp
      have e2 : (q ++ d :: s).getD i 0 = d := by rw [getD_right (by omega), h]; simp
      rw [e1, e2, h, Int.mul_sub]
      rw [h] at ih
      omega
    · rw [if_neg (by omega)]
      rw [if_neg (by omega)] at ih
      have e : (q ++ c :: s).getD i 0 = (q ++ d :: s).getD i 0 := by
        obtain ⟨j, hj⟩ : ∃ j, i - q.length = j + 1 := ⟨i - q.length - 1, by omega⟩
        rw [getD_right (by omega), getD_right (by omega), hj]
        simp
      rw [e]
      omega
/-- one sign of the words changed: another check -/
theorem chk_ne {n : Int} {q s : List Nat} {c d : Nat} (hcd : c ≠ d) (hc : 32 ≤ c ∧ c ≤ 126) (hd : 32 ≤ d ∧ d ≤ 126) (hl : q.length ≤ 80) : chk n (q ++ c :: s) ≠ chk n (q ++ d :: s) := by
  intro e
  unfold chk at e
  have hp := psum_app q s c d (q ++ c :: s).length
  rw [if_neg (by rw [List.length_append, List.length_cons]; omega)] at hp
  have el : (q ++ d :: s).length = (q ++ c :: s).length := by simp
  rw [el] at e
  generalize psum (q ++ c :: s) (q ++ c :: s).length = A at e hp
  generalize psum (q ++ d :: s) (q ++ c :: s).length = B at e hp
  have h1 : ((q.length : Int) + 1) * ((c : Int) - d) % 8191 = 0 := by rw [← hp]; omega
  have b1 : ((q.length : Int) + 1) * ((c : Int) - d) < 8191 := by
    rcases Int.lt_or_le 0 ((c : Int) - d) with h | h
    · calc ((q.length : Int) + 1) * ((c : Int) - d) ≤ 81 * ((c : Int) - d) := Int.mul_le_mul_of_nonneg_right (by omega) (by omega)
        _ < 8191 := by omega
    · have := Int.mul_nonpos_of_nonneg_of_nonpos (a := (q.length : Int) + 1) (by omega) h
      omega
  have b2 : -8191 < ((q.length : Int) + 1) * ((c : Int) - d) := by
    rcases Int.lt_or_le ((c : Int) - d) 0 with h | h
    · have := Int.mul_le_mul_of_nonneg_right (a := (q.length : Int) + 1) (b := 81) (c := (d : Int) - c) (by omega) (by omega)
      have e2 : ((q.length : Int) + 1) * ((d : Int) - c) = -(((q.length : Int) + 1) * ((c : Int) - d)) := by
        rw [← Int.mul_neg, Int.neg_sub]
      rw [e2] at this
      omega
    · have := Int.mul_nonneg (a := (q.length : Int) + 1) (by omega) h
      omega
  have b3 : ((q.length : Int) + 1) * ((c : Int) - d) ≠ 0 := by
    intro z
    rcases Int.mul_eq_zero.mp z with h | h <;> omega
  omega
theorem line_diff_short {n : Nat} {y w p s : List Nat} {c d : Nat} (hcd : c ≠ d) (hlt : (numL y.length).length < (numL w.length).length) (h1 : numL y.length ++ 32 :: (numL (chk n y).toNat ++ 32 :: y) = p ++ c :: s) (h2 : numL w.length ++ 32 :: (numL (chk n w).toNat ++ 32 :: w) = p ++ d :: s) : False := by
  have hyw : y.length < w.length := by
    rcases Nat.lt_or_ge y.length w.length with h | h
    · exact h
    · have := numL_mono _ _ h
      omega
  have gen : ∀ (a b p B C : List Nat), 32 ∉ b → a.length < b.length → a ++ 32 :: B = p ++ c :: s → b ++ C = p ++ d :: s → ∃ a2, B = a2 ++ C ∧ 32 ∉ a2 := by
    intro a
    induction a with
    | nil =>
      intro b p B C hb hl e1 e2
      cases b with
      | nil => simp at hl
      | cons x b =>
        cases p with
        | nil =>
          simp only [List.cons_append, List.nil_append, List.cons.injEq] at e1 e2
          exact ⟨b, by rw [e1.2, ← e2.2], fun z => hb (List.mem_cons_of_mem _ z)⟩
        | cons z p =>
          simp only [List.cons_append, List.nil_append, List.cons.injEq] at e1 e2
          exact absurd (by rw [e2.1, ← e1.1]; exact List.mem_cons_self) hb
    | cons x a ih =>
      intro b p B C hb hl e1 e2
      cases b with
      | nil => simp at hl
      | cons x2 b =>
        cases p with
        | nil =>
          simp only [List.cons_append, List.nil_append, List.cons.injEq] at e1 e2
          have e := e1.2.trans e2.2.symm
          have hl2 : a.length < b.length := by simpa using hl
          -- a ++ 32 :: B = b ++ C, |a| < |b|: the space stands in b
          have h32 : (a ++ 32 :: B)[a.length]? = some 32 := by simp
          rw [e, List.getElem?_append_left hl2] at h32
          exact absurd (List.mem_cons_of_mem _ (List.mem_of_getElem? h32)) hb
        | cons z p =>
          simp only [List.cons_append, List.cons.injEq] at e1 e2
          exact ih b p B C (fun q => hb (List.mem_cons_of_mem _ q)) (by simpa using hl) e1.2 e2.2
  obtain ⟨a2, e, h32⟩ := gen _ _ p _ _ (nsp _) hlt h1 h2
  obtain ⟨_, e2⟩ := cut_sep (nsp _) h32 e
  have := congrArg List.length e2
  rw [List.length_append, List.length_cons] at this
  omega
/-- two valid lines of one number never differ in just one sign -/
theorem line_diff {n : Nat} {y w p s : List Nat} {c d : Nat} (hcd : c ≠ d) (hy : ∀ x ∈ y, 32 ≤ x ∧ x ≤ 126) (hw : ∀ x ∈ w, 32 ≤ x ∧ x ≤ 126) (hl : w.length ≤ 80) (h1 : lineL n y = p ++ c :: s) (h2 : lineL n w = p ++ d :: s) : False := by
  unfold lineL at h1 h2
  obtain ⟨p1, h1, h2⟩ := strip32 hcd h1 h2
  rcases Nat.lt_trichotomy (numL y.length).length (numL w.length).length with hlt | hlt | hlt
  · exact line_diff_short hcd hlt h1 h2
  · by_cases e : numL y.length = numL w.length
    · have el := numL_inj e
      rw [e] at h1
      obtain ⟨p2, h1, h2⟩ := strip32 hcd h1 h2
      by_cases e2 : numL (chk n y).toNat = numL (chk n w).toNat
      · rw [e2] at h1
        obtain ⟨q, h1, h2⟩ := strip32 hcd h1 h2
        have e3 := numL_inj e2
        have z1 := chk_nonneg n y
        have z2 := chk_nonneg n w
        have e4 : chk n y = chk n w := by omega
        rw [h1, h2] at e4
        refine chk_ne hcd (hy c (by rw [h1]; simp)) (hw d (by rw [h2]; simp)) ?_ e4
        rw [h2, List.length_append] at hl
        omega
      · have hbl : (numL (chk n y).toNat).length = (numL (chk n w).toNat).length := by
          have a1 := congrArg List.length h1
          have a2 := congrArg List.length h2
          simp only [List.length_append, List.length_cons] at a1 a2 ⊢
          omega
        have e3 := tails32 hcd hbl e2 h1 h2
        exact e2 (by rw [e3])
    · have e3 := tails32 hcd hlt e h1 h2
      obtain ⟨_, e4⟩ := cut_sep (nsp _) (nsp _) e3
      exact e (by rw [e4])
  · exact line_diff_short (Ne.symm hcd) hlt h2 h1
end Lg

set_option Elab.async false
set_option linter.all false
set_option maxRecDepth 100000
set_option maxHeartbeats 4000000
namespace Lg
open PySem TL L2
theorem spl_flat : ∀ (zs : List Str) (k : Nat) (R : List Nat), (∀ z ∈ zs, isRow (tl z) = true) → spl [10] 0 [] (flat k zs ++ R) = (bodies k zs).map tl ++ spl [10] 0 [] R
  | [], k, R, _ => rfl
  | z :: r, k, R, h => by
    rw [flat_cons, List.append_assoc]
    have e := spl_part1 (s := 10) (S := []) (p := tl (lineB ((k + 1 : Nat) : Int) z)) (acc := []) (rest := flat (k + 1) r ++ R) (lineB_free (h z List.mem_cons_self))
    have e2 : tl (lineB ((k + 1 : Nat) : Int) z) ++ (10 :: flat (k + 1) r ++ R) = tl (lineB ((k + 1 : Nat) : Int) z) ++ (10 :: [] ++ (flat (k + 1) r ++ R)) := by simp
    rw [e2, e, spl_flat r (k + 1) R fun y hy => h y (List.mem_cons_of_mem _ hy)]
    simp [bodies]
theorem first_sep {s : Nat} : ∀ {R : List Nat}, s ∈ R → ∃ l r, R = l ++ s :: r ∧ s ∉ l
  | c :: R, h => by
    by_cases hc : c = s
    · exact ⟨[], R, by rw [hc]; rfl, by simp⟩
    · rcases List.mem_cons.mp h with h | h
      · exact absurd h.symm hc
      · obtain ⟨l, r, e, hl⟩ := first_sep h
        refine ⟨c :: l, r, by rw [e]; rfl, fun z => ?_⟩
        rcases List.mem_cons.mp z with z | z
        · exact hc z.symm
        · exact hl z
def mk (q : List Nat) : Str := ⟨q.toArray⟩
theorem tl_mk' (q : List Nat) : tl (mk q) = q := tl_mk q
theorem map_mk (Q : List (List Nat)) : (Q.map mk).map tl = Q := by
  rw [List.map_map]
  have : (tl ∘ mk) = id := funext tl_mk'
  rw [this, List.map_id]
theorem spl_split (t : Str) : (Txt.split t "\n").map tl = spl [10] 0 [] (tl t) := by
  rw [split_spl t "\n" (by rw [nl_eq]; simp) (kind_ok (by decide +kernel)), nl_eq]
theorem spl_ne (r : List Nat) : ∃ S e, spl [10] 0 [] r = S ++ [e] := by
  have h := spl_split (mk r)
  rw [tl_mk'] at h
  have hp := PyProof.Rows.split_pos (mk r) "\n"
  cases e : (spl [10] 0 [] r) with
  | nil =>
    rw [e] at h
    rw [List.map_eq_nil_iff.mp h] at hp
    simp at hp
  | cons a b => exact ⟨(a :: b).dropLast, (a :: b).getLast (by simp), (List.dropLast_concat_getLast (by simp)).symm⟩
theorem pre_free {P l r r2 : List Nat} {s : Nat} (hP : s ∉ P) (h : P ++ r2 = l ++ s :: r) : ∃ a, l = P ++ a := by
  rcases List.append_eq_append_iff.mp h with ⟨a, e1, e2⟩ | ⟨c, e1, e2⟩
  · exact ⟨a, e1⟩
  · cases c with
    | nil => exact ⟨[], by rw [e1]; simp⟩
    | cons c0 c =>
      simp only [List.cons_append, List.cons.injEq] at e2
      exact absurd (by rw [e1, e2.1]; simp) hP
theorem spoil_split {zs : List Str} {m p x d : Nat} {t : Str} {r2 : List Nat} (hr : ∀ z ∈ zs, isRow (tl z) = true) (h80 : ∀ z ∈ zs, z.length ≤ 80) (hm : m < zs.length) (hx : x ≠ d)
    (hd : (tl (lineB ((m + 1 : Nat) : Int) zs[m]) ++ 10 :: r2)[p]? = some d) (hp : p ≤ (tl (lineB ((m + 1 : Nat) : Int) zs[m])).length)
    (ht : tl t = flat 0 (zs.take m) ++ ((tl (lineB ((m + 1 : Nat) : Int) zs[m]) ++ 10 :: r2).take p ++ x :: (tl (lineB ((m + 1 : Nat) : Int) zs[m]) ++ 10 :: r2).drop (p + 1))) :
    ∃ (ls : List Str) (last : Str), Txt.split t "\n" = ls ++ [last] ∧ m ≤ ls.length ∧ (∀ (i : Nat) z, (zs.take m)[i]? = some z → ∃ l, ls[i]? = some l ∧ Is ((i + 1 : Nat) : Int) l z) ∧ (∀ l, ls[m]? = some l → ∀ z, ¬ Is ((m + 1 : Nat) : Int) l z) ∧
      (10 ∈ ((tl (lineB ((m + 1 : Nat) : Int) zs[m]) ++ 10 :: r2).take p ++ x :: (tl (lineB ((m + 1 : Nat) : Int) zs[m]) ++ 10 :: r2).drop (p + 1)) → m < ls.length) ∧
      (10 ∉ ((tl (lineB ((m + 1 : Nat) : Int) zs[m]) ++ 10 :: r2).take p ++ x :: (tl (lineB ((m + 1 : Nat) : Int) zs[m]) ++ 10 :: r2).drop (p + 1)) → ls.length = m ∧ last ≠ "" ∧ tl last = (tl (lineB ((m + 1 : Nat) : Int) zs[m]) ++ 10 :: r2).take p ++ x :: (tl (lineB ((m + 1 : Nat) : Int) zs[m]) ++ 10 :: r2).drop (p + 1)) := by
  have hzm := List.getElem_mem hm
  have hw := hr _ hzm
  have hwl := h80 _ hzm
  have hfree := lineB_free (n := m + 1) hw
  have hbl := tl_lineB (n := m + 1) (z := zs[m])
  generalize hbody : tl (lineB ((m + 1 : Nat) : Int) zs[m]) = body at *
  generalize hR : (body ++ 10 :: r2).take p ++ x :: (body ++ 10 :: r2).drop (p + 1) = R at *
  have hrt : ∀ z ∈ zs.take m, isRow (tl z) = true := fun z h => hr z (List.mem_of_mem_take h)
  have es := spl_split t
  rw [ht, spl_flat _ _ _ hrt] at es
  have hbm : (bodies 0 (zs.take m)).length = m := by rw [bodies_length, List.length_take]; omega
  have hgood : ∀ (X : List Str) (i : Nat) z, (zs.take m)[i]? = some z → ∃ l, (bodies 0 (zs.take m) ++ X)[i]? = some l ∧ Is ((i + 1 : Nat) : Int) l z := fun X i z h => by
    have h2 := bodies_get (k := 0) h
    rw [Nat.zero_add] at h2
    refine ⟨_, ?_, lineB_is (hrt z (List.mem_of_getElem? h))⟩
    rw [List.getElem?_append_left (by rw [hbm]; have := (List.getElem?_eq_some_iff.mp h).1; rw [List.length_take] at this; omega)]
    exact h2
  have rowsg : ∀ {z : Str}, isRow (tl z) = true → ∀ c ∈ tl z, 32 ≤ c ∧ c ≤ 126 := fun {z} h c hc => by
    unfold isRow at h
    simp only [Bool.and_eq_true, decide_eq_true_eq, List.all_eq_true] at h
    exact h.2.2 c hc
  by_cases h10 : 10 ∈ R
  · obtain ⟨l, r, e, hl⟩ := first_sep h10
    have esp : spl [10] 0 [] R = l :: spl [10] 0 [] r := by
      rw [e]
      have := spl_part1 (s := 10) (S := []) (p := l) (acc := []) (rest := r) hl
      simpa using this
    obtain ⟨S, en, eS⟩ := spl_ne r
    rw [esp, eS] at es
    have eW : Txt.split t "\n" = (bodies 0 (zs.take m) ++ mk l :: S.map mk) ++ [mk en] := by
      refine map_tl_inj ?_
      rw [es]
      simp [map_mk, tl_mk']
      rw [← List.map_map, map_mk]
    refine ⟨_, _, eW, by rw [List.length_append, hbm]; omega, hgood _, fun u hu z hz => ?_, fun _ => by rw [List.length_append, hbm, List.length_cons]; omega, fun h => absurd h10 h⟩
    rw [List.getElem?_append_right (by rw [hbm]; exact Nat.le_refl _), hbm, Nat.sub_self] at hu
    have eu : mk l = u := by simpa using hu
    subst eu
    have hc := hz.codes (by omega)
    rw [tl_mk'] at hc
    have hn : ((m + 1 : Nat) : Int).toNat = m + 1 := by omega
    rw [hn] at hc
    rcases Nat.lt_or_ge p body.length with hlt | hge
    · have t1 : (body ++ 10 :: r2).take p = body.take p := List.take_append_of_le_length (by omega)
      have t2 : (body ++ 10 :: r2).drop (p + 1) = body.drop (p + 1) ++ 10 :: r2 := List.drop_append_of_le_length (by omega)
      rw [t1, t2] at hR
      have f1 : 10 ∉ body.take p := fun q => hfree (List.mem_of_mem_take q)
      have f2 : 10 ∉ body.drop (p + 1) := fun q => hfree (List.mem_of_mem_drop q)
      by_cases hx10 : x = 10
      · subst hx10
        rw [e] at hR
        obtain ⟨e1, _⟩ := cut_sep f1 hl hR
        have e2 : lineL (m + 1) (tl z) ++ body.drop p = lineL (m + 1) (tl zs[m]) := by rw [← hc, ← hbl, ← e1, List.take_append_drop]
        have := congrArg List.length (line_prefix e2)
        rw [List.length_drop] at this
        simp at this
        omega
      · have e3 : (body.take p ++ x :: body.drop (p + 1)) ++ 10 :: r2 = l ++ 10 :: r := by rw [← e, ← hR]; simp
        obtain ⟨e1, _⟩ := cut_sep (by
          rw [List.mem_append, List.mem_cons, not_or, not_or]
          exact ⟨f1, fun q => hx10 q.symm, f2⟩) hl e3
        have ed : body[p]? = some d := by rw [← hd, List.getElem?_append_left hlt]
        have eb : body = body.take p ++ d :: body.drop (p + 1) := by
          have h1 := List.take_append_drop p body
          have h2 : body.drop p = d :: body.drop (p + 1) := by
            rw [List.drop_eq_getElem_cons hlt]
            congr 1
            exact (List.getElem?_eq_some_iff.mp ed).2
          rw [h2] at h1
          exact h1.symm
        refine line_diff hx (rowsg hz.1) (rowsg hw) (by rw [← len_tl]; exact hwl) (n := m + 1) (y := tl z) (w := tl zs[m]) (p := body.take p) (s := body.drop (p + 1)) ?_ ?_
        · rw [← hc, ← e1]
        · rw [← hbl]
          exact eb
    · have ep : p = body.length := by omega
      subst ep
      have ed : d = 10 := by
        rw [List.getElem?_append_right (Nat.le_refl _), Nat.sub_self] at hd
        simpa using hd.symm
      have t1 : (body ++ 10 :: r2).take body.length = body := List.take_left' rfl
      rw [t1] at hR
      have e3 : (body ++ [x]) ++ (body ++ 10 :: r2).drop (body.length + 1) = l ++ 10 :: r := by rw [← e, ← hR]; simp
      obtain ⟨a, ea⟩ := pre_free (by
        rw [List.mem_append, List.mem_singleton, not_or]
        exact ⟨hfree, fun q => hx (by rw [ed, q])⟩) e3
      have e4 : lineL (m + 1) (tl zs[m]) ++ x :: a = lineL (m + 1) (tl z) := by
        rw [← hc, ← hbl, ea]
        simp
      cases line_prefix e4
  · have esp : spl [10] 0 [] R = [R] := by
      have := spl_last1 (s := 10) (S := []) (p := R) (acc := []) h10
      simpa using this
    rw [esp] at es
    have eW : Txt.split t "\n" = bodies 0 (zs.take m) ++ [mk R] := by
      refine map_tl_inj ?_
      rw [es, List.map_append]
      simp [tl_mk']
    refine ⟨_, _, eW, by rw [hbm]; exact Nat.le_refl _, ?_, fun u hu => ?_, fun h => absurd h h10, fun _ => ⟨hbm, fun q => ?_, tl_mk' R⟩⟩
    · intro i z h
      have := hgood [] i z h
      rw [List.append_nil] at this
      exact this
    · rw [List.getElem?_eq_none (by rw [hbm]; exact Nat.le_refl _)] at hu
      cases hu
    · have := congrArg tl q
      rw [tl_mk'] at this
      have e1 : tl ("" : Str) = [] := by decide +kernel
      rw [e1] at this
      rw [← hR] at this
      simp at this
end Lg

set_option Elab.async false
set_option linter.all false
set_option maxRecDepth 100000
set_option maxHeartbeats 4000000
namespace Lw
open PySem PySem.Spec PyProof.Rows L2
mutual
/-- the value is this data, below depth n, its lists and tuples tracked -/
inductive Da (H : Hp) : Nat → V → PyData → Prop
  | non {n} : Da H (n + 1) .non .none
  | bl {n} (b : Bool) : Da H (n + 1) (.bl b) (.bool b)
  | int {n} (i : Int) : Da H (n + 1) (.int i) (.int i)
  | str {n} (x : Str) : Da H (n + 1) (.str x) (.str x)
  | lst {n} {a : Addr} {xs : List V} {ds : List PyData} : H a = some (.lst xs) → xs.length ≤ 1000000 → DaAll H n xs ds → Da H (n + 1) (.ref a) (.list ds)
  | tup {n} {a : Addr} {xs : List V} {ds : List PyData} : H a = some (.tup xs) → xs.length ≤ 1000000 → DaAll H n xs ds → Da H (n + 1) (.ref a) (.tuple ds)
inductive DaAll (H : Hp) : Nat → List V → List PyData → Prop
  | nil {n} : DaAll H n [] []
  | cons {n} {v : V} {vs : List V} {d : PyData} {ds : List PyData} : Da H n v d → DaAll H n vs ds → DaAll H n (v :: vs) (d :: ds)
end
theorem DaAll.length {H : Hp} {n : Nat} : ∀ {xs : List V} {ds : List PyData}, DaAll H n xs ds → xs.length = ds.length
  | _, _, .nil => rfl
  | _, _, .cons _ t => by
    rw [List.length_cons, List.length_cons, DaAll.length t]
theorem DaAll.get {H : Hp} {n : Nat} {xs : List V} {ds : List PyData} : DaAll H n xs ds → ∀ {i : Nat} {d : PyData}, ds[i]? = some d → ∃ x, xs[i]? = some x ∧ Da H n x d := by
  induction ds generalizing xs with
  | nil =>
    intro _ i d h
    simp at h
  | cons e ds ih =>
    intro h i d hd
    cases h with
    | cons a t =>
      cases i with
      | zero =>
        simp at hd
        subst hd
        exact ⟨_, rfl, a⟩
      | succ i =>
        obtain ⟨x, h1, h2⟩ := ih t (i := i) (d := d) (by simpa using hd)
        exact ⟨x, by simpa using h1, h2⟩
mutual
theorem Da.same {H H' : Hp} (s : Same H H') : ∀ {n : Nat} {x : V} {d : PyData}, Da H n x d → Da H' n x d
  | _, _, _, .non => .non
  | _, _, _, .bl b => .bl b
  | _, _, _, .int i => .int i
  | _, _, _, .str x => .str x
  | _, _, _, .lst e h l => .lst (s _ _ e) h (DaAll.same s l)
  | _, _, _, .tup e h l => .tup (s _ _ e) h (DaAll.same s l)
theorem DaAll.same {H H' : Hp} (s : Same H H') : ∀ {n : Nat} {xs : List V} {ds : List PyData}, DaAll H n xs ds → DaAll H' n xs ds
  | _, _, _, .nil => .nil
  | _, _, _, .cons a t => .cons (Da.same s a) (DaAll.same s t)
end
/-- _law_same of two values of one data -/
def spSame (n : Nat) : Sp := fun vs H Q _ => ∃ (x y : V) (d : PyData), vs = [x, y] ∧ Da H n x d ∧ Da H n y d ∧ ∀ H', Same H H' → Q (.bl true) H'
end Lw
namespace K83
open PySem PySem.Spec PyProof.Rows L2 Lw
section
variable {P : Program} {w : World} {K : PySem.W.Frag} {mg : Str → Option Value} {base : Heap} {f : Addr} {fd : FuncData}
abbrev N__law_same : List Str := ["answer", "due", "key", "at"]
theorem sc__law_same : FnScope N__law_same ["answer", "due"] (defScope s__law_same) := ⟨rfl, rfl, rfl, by decide +kernel, rfl, by decide +kernel, by decide +kernel⟩
theorem ok_same (D : FunD K "_law_same" "_law_same" (defArgs s__law_same) (defBody s__law_same) (defScope s__law_same) [] [] f fd) (F : Nms mg) (n : Nat) (c__law_same : Cal P w K mg base CX0 n "_law_same" (spSame n)) :
    FnOk P w K mg base CX0 (n + 1) f fd ["answer", "due"] (spSame (n + 1)) := by
  refine D.ok sc__law_same (fun vs H Q E h => ?_) (fun cdv A outer s H vs Q E hr h => ?_)
  · obtain ⟨x, y, d, rfl, _⟩ := h
    rfl
  · obtain ⟨x, y, d, rfl, hx, hy, k⟩ := h
    refine ⟨_, PSs.nox ((pss_cons (ps_if (PW.pt (pw_or (pt_cmpR op_isN (pv 1) pe_non (nomark _)) (pw_or1 (pt_cmpR op_isN (pv 0) pe_non (nomark _))))) (pss_one (ps_ret (pe_and (pe_cmpR op_isN (pv 1) pe_non (nomark _)) (pe_one (pe_cmpR op_isN (pv 0) pe_non (nomark _)))))) pss_nil)
  (pss_cons (ps_if (PW.pt (pw_or (pt_val (pe_callB call_isi (by rfl) F.«isinstance» (by decide +kernel) (pa_cons (pv 1) (pa_cons (pe_bltn (v := .ty "bool") (by rfl) F.«bool» (by decide +kernel) rfl) pa_nil)))) (pw_or1 (pt_val (pe_callB call_isi (by rfl) F.«isinstance» (by decide +kernel) (pa_cons (pv 0) (pa_cons (pe_bltn (v := .ty "bool") (by rfl) F.«bool» (by decide +kernel) rfl) pa_nil))))))) (pss_one (ps_ret (pe_and (pe_callB call_isi (by rfl) F.«isinstance» (by decide +kernel) (pa_cons (pv 1) (pa_cons (pe_bltn (v := .ty "bool") (by rfl) F.«bool» (by decide +kernel) rfl) pa_nil))) (pe_and (pe_callB call_isi (by rfl) F.«isinstance» (by decide +kernel) (pa_cons (pv 0) (pa_cons (pe_bltn (v := .ty "bool") (by rfl) F.«bool» (by decide +kernel) rfl) pa_nil))) (pe_one (pe_cmpR op_eq (pv 0) (pv 1) (nomark _))))))) pss_nil)
  (pss_cons (ps_if (pt_val (pe_callB call_isi (by rfl) F.«isinstance» (by decide +kernel) (pa_cons (pv 1) (pa_cons (pe_bltn (v := .ty "int") (by rfl) F.«int» (by decide +kernel) rfl) pa_nil)))) (pss_one (ps_ret (pe_and (pe_callB call_isi (by rfl) F.«isinstance» (by decide +kernel) (pa_cons (pv 0) (pa_cons (pe_bltn (v := .ty "int") (by rfl) F.«int» (by decide +kernel) rfl) pa_nil))) (pe_one (pe_cmpR op_eq (pv 0) (pv 1) (nomark _)))))) pss_nil)
  (pss_cons (ps_if (pt_val (pe_callB call_isi (by rfl) F.«isinstance» (by decide +kernel) (pa_cons (pv 1) (pa_cons (pe_bltn (v := .ty "str") (by rfl) F.«str» (by decide +kernel) rfl) pa_nil)))) (pss_one (ps_ret (pe_and (pe_callB call_isi (by rfl) F.«isinstance» (by decide +kernel) (pa_cons (pv 0) (pa_cons (pe_bltn (v := .ty "str") (by rfl) F.«str» (by decide +kernel) rfl) pa_nil))) (pe_one (pe_cmpR op_eq (pv 0) (pv 1) (nomark _)))))) pss_nil)
  (pss_cons (ps_if (pt_val (pe_callB call_isi (by rfl) F.«isinstance» (by decide +kernel) (pa_cons (pv 1) (pa_cons (pe_bltn (v := .ty "dict") (by rfl) F.«dict» (by decide +kernel) rfl) pa_nil)))) pss_never pss_nil)
  (pss_cons (ps_if (PW.pt (pw_and (pt_val (pe_callB call_isi (by rfl) F.«isinstance» (by decide +kernel) (pa_cons (pv 1) (pa_cons (pe_bltn (v := .ty "tuple") (by rfl) F.«tuple» (by decide +kernel) rfl) pa_nil)))) (pw_and1 (pt_not (pt_val (pe_callB call_isi (by rfl) F.«isinstance» (by decide +kernel) (pa_cons (pv 0) (pa_cons (pe_bltn (v := .ty "tuple") (by rfl) F.«tuple» (by decide +kernel) rfl) pa_nil)))))))) (pss_one (ps_ret pe_bl)) pss_nil)
  (pss_cons (ps_if (PW.pt (pw_and (pt_val (pe_callB call_isi (by rfl) F.«isinstance» (by decide +kernel) (pa_cons (pv 1) (pa_cons (pe_bltn (v := .ty "list") (by rfl) F.«list» (by decide +kernel) rfl) pa_nil)))) (pw_and1 (pt_not (pt_val (pe_callB call_isi (by rfl) F.«isinstance» (by decide +kernel) (pa_cons (pv 0) (pa_cons (pe_bltn (v := .ty "list") (by rfl) F.«list» (by decide +kernel) rfl) pa_nil)))))))) (pss_one (ps_ret pe_bl)) pss_nil)
  (pss_cons (ps_if (pt_cmpR op_ne (pe_callB call_len (by rfl) F.«len» PySem.boot_len (pa_cons (pv 0) pa_nil)) (pe_callB call_len (by rfl) F.«len» PySem.boot_len (pa_cons (pv 1) pa_nil)) (nomark _)) (pss_one (ps_ret pe_bl)) pss_nil)
  (pss_one (ps_ret (pe_callB (Kx.cr_all (K := K) rfl) (by rfl) F.«all» (by decide +kernel) (pa_cons (pe_lc (own := [("at", 3)]) rfl sc__law_same.nd (pi_range1 (by rfl) F.«range» (pa_cons (pe_callB call_len (by rfl) F.«len» PySem.boot_len (pa_cons (pv 1) pa_nil)) pa_nil)) (blkOk_by (own := [("at", 3)]) (N := N__law_same) (sc := defScope s__law_same) (by decide +kernel)) (fun _ _ _ _ _ => (pg_name (i := 3) sc__law_same.nd rfl (Or.inl rfl))) (fun _ _ _ _ _ => pts_nil) (fun _ _ _ _ _ => (Lw.pe_c c__law_same hr (by omega) (by rfl) (pa_cons (pe_ix (Kx.ix_lt (K := K)) (pv 0) (pv 3) (fun _ _ => rfl)) (pa_cons (pe_ix (Kx.ix_lt (K := K)) (pv 1) (pv 3) (fun _ _ => rfl)) pa_nil))))) pa_nil))))))))))))), ?_⟩
    cases hx with
    | non =>
      cases hy
      exact ⟨_, rfl, rfl, _, rfl, _, rfl, rfl, _, rfl, _, rfl, rfl, k H (Same.refl H)⟩
    | bl b =>
      cases hy
      have tb : TyX K H (.bl b) (.type "bool") := .base (.bl b)
      have e : decide (V.bl b = V.bl b) = true := decide_eq_true rfl
      refine ⟨_, rfl, rfl, _, rfl, _, rfl, rfl, _, rfl, _, rfl, ⟨_, _, _, _, true, rfl, .ty _, tb, kit_ty (by decide +kernel), _, rfl, _, rfl, ⟨_, _, _, _, true, rfl, .ty _, tb, kit_ty (by decide +kernel), _, rfl, _, rfl, ⟨_, _, _, _, true, rfl, .ty _, tb, kit_ty (by decide +kernel), _, rfl, _, rfl, _, rfl, rfl, ?_⟩⟩⟩⟩
      show Q (.bl (decide (V.bl b = V.bl b))) H
      rw [e]
      exact k H (Same.refl H)
    | int i =>
      cases hy
      have tb : TyX K H (.int i) (.type "int") := .base (.int i)
      have e : decide (V.int i = V.int i) = true := decide_eq_true rfl
      refine ⟨_, rfl, rfl, _, rfl, _, rfl, rfl, _, rfl, _, rfl, ⟨_, _, _, _, false, rfl, .ty _, tb, kit_ty (by decide +kernel), _, rfl, _, rfl, ⟨_, _, _, _, false, rfl, .ty _, tb, kit_ty (by decide +kernel), _, rfl, _, rfl, ⟨_, _, _, _, true, rfl, .ty _, tb, kit_ty (by decide +kernel), _, rfl, _, rfl, ⟨_, _, _, _, true, rfl, .ty _, tb, kit_ty (by decide +kernel), _, rfl, _, rfl, _, rfl, rfl, ?_⟩⟩⟩⟩⟩
      show Q (.bl (decide (V.int i = V.int i))) H
      rw [e]
      exact k H (Same.refl H)
    | str z =>
      cases hy
      have tb : TyX K H (.str z) (.type "str") := .base (.str z)
      have e : decide (V.str z = V.str z) = true := decide_eq_true rfl
      refine ⟨_, rfl, rfl, _, rfl, _, rfl, rfl, _, rfl, _, rfl, ⟨_, _, _, _, false, rfl, .ty _, tb, kit_ty (by decide +kernel), _, rfl, _, rfl, ⟨_, _, _, _, false, rfl, .ty _, tb, kit_ty (by decide +kernel), _, rfl, _, rfl, ⟨_, _, _, _, false, rfl, .ty _, tb, kit_ty (by decide +kernel), _, rfl, _, rfl, ⟨_, _, _, _, true, rfl, .ty _, tb, kit_ty (by decide +kernel), _, rfl, _, rfl, ⟨_, _, _, _, true, rfl, .ty _, tb, kit_ty (by decide +kernel), _, rfl, _, rfl, _, rfl, rfl, ?_⟩⟩⟩⟩⟩⟩
      show Q (.bl (decide (V.str z = V.str z))) H
      rw [e]
      exact k H (Same.refl H)
    | @lst _ a xs ds e h l =>
      cases hy with
      | @lst _ a2 ys _ e2 h2 l2 =>
        have tx : TyX K H (.ref a) (.type "list") := .base (.lst e)
        have ty : TyX K H (.ref a2) (.type "list") := .base (.lst e2)
        refine ⟨_, rfl, rfl, _, rfl, _, rfl, rfl, _, rfl, _, rfl, ⟨_, _, _, _, false, rfl, .ty _, ty, kit_ty (by decide +kernel), _, rfl, _, rfl, ⟨_, _, _, _, false, rfl, .ty _, tx, kit_ty (by decide +kernel), _, rfl, _, rfl, ⟨_, _, _, _, false, rfl, .ty _, ty, kit_ty (by decide +kernel), _, rfl, _, rfl, ⟨_, _, _, _, false, rfl, .ty _, ty, kit_ty (by decide +kernel), _, rfl, _, rfl, ⟨_, _, _, _, false, rfl, .ty _, ty, kit_ty (by decide +kernel), _, rfl, _, rfl, ⟨_, _, _, _, false, rfl, .ty _, ty, kit_ty (by decide +kernel), _, rfl, _, rfl, ⟨_, _, _, _, true, rfl, .ty _, ty, kit_ty (by decide +kernel), _, rfl, _, rfl, ⟨_, _, _, _, true, rfl, .ty _, tx, kit_ty (by decide +kernel), _, rfl, ?_⟩⟩⟩⟩⟩⟩⟩⟩⟩
        refine ⟨_, rfl, _, _, rfl, .inl ⟨_, SqL.of e, rfl⟩, _, rfl, _, _, rfl, .inl ⟨_, SqL.of e2, rfl⟩, rfl, _, rfl, ?_⟩
        have el : xs.length = ys.length := by rw [l.length, l2.length]
        refine iteNS (by rw [el]) ?_
        refine ⟨_, rfl, _, _, rfl, .inl ⟨_, SqL.of e2, rfl⟩, _, rfl, by omega, by omega, fun D hD => ?_⟩
        refine lc_mk (walk_range (lo := 0) (n := ys.length)) (fun i acc H' => Same H H' ∧ acc = (List.replicate i true).map V.bl) ⟨Same.new hD, rfl⟩ (fun _ _ _ _ _ => trivial) ?_ ?_
        · rintro i x acc H3 H4 hi ⟨sm, rfl⟩ eD hl ⟨rfl, rfl⟩
          have hid : i < ds.length := by rw [← l2.length]; exact hi
          obtain ⟨x, hx, dx⟩ := l.get (List.getElem?_eq_getElem hid)
          obtain ⟨y, hy, dy⟩ := l2.get (List.getElem?_eq_getElem hid)
          have e0 : (0 : Int) + (i : Int) = (i : Int) := Int.zero_add _
          refine ⟨rfl, _, rfl, _, rfl, .inl ⟨a, _, _, x, rfl, rfl, sm.seq (SqL.of e), by rw [e0]; exact atI_nat hx, _, rfl, _, rfl, .inl ⟨a2, _, _, y, rfl, rfl, sm.seq (SqL.of e2), by rw [e0]; exact atI_nat hy, x, y, _, rfl, dx.same sm, dy.same sm, fun H5 s5 => ?_⟩⟩⟩
          exact Made.put (s5 _ _ eD) hl hi (small_line (by omega)) ⟨(sm.trans s5).mut hD, by rw [List.replicate_succ', List.map_append]; rfl⟩
        · rintro acc H3 ⟨sm, rfl⟩ eD hl
          refine ⟨D, _, rfl, SqL.of eD, ?_⟩
          have ea : (List.replicate ys.length true).all id = true := by simp
          rw [ea]
          exact k _ sm
    | @tup _ a xs ds e h l =>
      cases hy with
      | @tup _ a2 ys _ e2 h2 l2 =>
        have tx : TyX K H (.ref a) (.type "tuple") := .base (.tup e)
        have ty : TyX K H (.ref a2) (.type "tuple") := .base (.tup e2)
        refine ⟨_, rfl, rfl, _, rfl, _, rfl, rfl, _, rfl, _, rfl, ⟨_, _, _, _, false, rfl, .ty _, ty, kit_ty (by decide +kernel), _, rfl, _, rfl, ⟨_, _, _, _, false, rfl, .ty _, tx, kit_ty (by decide +kernel), _, rfl, _, rfl, ⟨_, _, _, _, false, rfl, .ty _, ty, kit_ty (by decide +kernel), _, rfl, _, rfl, ⟨_, _, _, _, false, rfl, .ty _, ty, kit_ty (by decide +kernel), _, rfl, _, rfl, ⟨_, _, _, _, false, rfl, .ty _, ty, kit_ty (by decide +kernel), _, rfl, _, rfl, ⟨_, _, _, _, true, rfl, .ty _, ty, kit_ty (by decide +kernel), _, rfl, _, rfl, ⟨_, _, _, _, true, rfl, .ty _, tx, kit_ty (by decide +kernel), _, rfl, _, rfl, ⟨_, _, _, _, false, rfl, .ty _, ty, kit_ty (by decide +kernel), _, rfl, ?_⟩⟩⟩⟩⟩⟩⟩⟩⟩
        refine ⟨_, rfl, _, _, rfl, .inr ⟨_, SqT.of e, rfl⟩, _, rfl, _, _, rfl, .inr ⟨_, SqT.of e2, rfl⟩, rfl, _, rfl, ?_⟩
        have el : xs.length = ys.length := by rw [l.length, l2.length]
        refine iteNS (by rw [el]) ?_
        refine ⟨_, rfl, _, _, rfl, .inr ⟨_, SqT.of e2, rfl⟩, _, rfl, by omega, by omega, fun D hD => ?_⟩
        refine lc_mk (walk_range (lo := 0) (n := ys.length)) (fun i acc H' => Same H H' ∧ acc = (List.replicate i true).map V.bl) ⟨Same.new hD, rfl⟩ (fun _ _ _ _ _ => trivial) ?_ ?_
        · rintro i x acc H3 H4 hi ⟨sm, rfl⟩ eD hl ⟨rfl, rfl⟩
          have hid : i < ds.length := by rw [← l2.length]; exact hi
          obtain ⟨x, hx, dx⟩ := l.get (List.getElem?_eq_getElem hid)
          obtain ⟨y, hy, dy⟩ := l2.get (List.getElem?_eq_getElem hid)
          have e0 : (0 : Int) + (i : Int) = (i : Int) := Int.zero_add _
          refine ⟨rfl, _, rfl, _, rfl, .inr ⟨a, _, _, x, rfl, rfl, SqT.of (sm _ _ e), by rw [e0]; exact atI_nat hx, _, rfl, _, rfl, .inr ⟨a2, _, _, y, rfl, rfl, SqT.of (sm _ _ e2), by rw [e0]; exact atI_nat hy, x, y, _, rfl, dx.same sm, dy.same sm, fun H5 s5 => ?_⟩⟩⟩
          exact Made.put (s5 _ _ eD) hl hi (small_line (by omega)) ⟨(sm.trans s5).mut hD, by rw [List.replicate_succ', List.map_append]; rfl⟩
        · rintro acc H3 ⟨sm, rfl⟩ eD hl
          refine ⟨D, _, rfl, SqL.of eD, ?_⟩
          have ea : (List.replicate ys.length true).all id = true := by simp
          rw [ea]
          exact k _ sm
end
end K83

set_option Elab.async false
set_option linter.all false
set_option maxRecDepth 100000
set_option maxHeartbeats 4000000
namespace Lw
open PySem PySem.Spec PyProof.Rows L2
/-- what _law_fault hands back: the class's name and its one field's value -/
def spFault (K : PySem.W.Frag) (ok : List (Str × Str)) (a : Addr) (cls : Value) (d : Option Addr) : Sp := fun vs H Q _ => ∃ (x fl : Str) (dd : Addr) (y : V), vs = [.ref a] ∧ (x, fl) ∈ ok ∧ cls = .ref (He.ga K x) ∧ d = some dd ∧ H dd = some (.xd [(fl, y)]) ∧
  ∀ b H', H b = none → Same H H' → H' b = some (.tup [.str x, y]) → Q (.ref b) H'
def spFaultP (K : PySem.W.Frag) (ok : List (Str × Str)) (p : Addr × Obj) : Sp := fun vs H Q E => ∃ (cls : Value) (d : Option Addr), Zc cls d p.2 ∧ (∃ vs, p.2.data = .fields vs) ∧ spFault K ok p.1 cls d vs H Q E
structure CalF (P : Program) (w : World) (K : PySem.W.Frag) (mg : Str → Option Value) (base : Heap) (k : Nat) (ok : List (Str × Str)) : Prop where
  ex : ∃ (f : Addr) (fd : FuncData) (ps : List Str), Hot.FnHp P w K mg base CX0 k f fd ps (spFaultP K ok) ∧ mg "_law_fault" = some (.ref f) ∧ PySem.W.keepIn K (.ref f) = true ∧ Binds K fd ps []
def tFlt (K : PySem.W.Frag) (ok : List (Str × Str)) (a : Addr) (cls : Value) (d : Option Addr) (i : Nat) : TE := fun σ H Q => ∃ v, σ[i]? = some (some v) ∧ spFault K ok a cls d [v] H Q E0
theorem pe_flt {X : Cx} {j k : Nat} {ok : List (Str × Str)} {p pos : Pos} {e : Expr} {i : Nat} {a : Addr} {oe : Obj} {cls : Value} {d : Option Addr} {pn : List (Addr × Obj)} (c : CalF X.prog X.w X.K X.mg X.base k ok) (hr : Room j X.A) (hk : k ≤ j)
    (hg : Gl (X.suite a ((a, oe) :: pn)) "_law_fault") (hz : L2N.Zn cls d oe) (hf : ∃ vs, oe.data = .fields vs) (ha : PA (X.suite a ((a, oe) :: pn)) [e] (tCons (tVar i) tNil))
    (hst : starEach [e] X.env = (false, eval e X.env) :: starEach [] X.env := by rfl) (hpl : (backTo pos (starEach [] X.env)).any (·.1) = false := by rfl) :
    PE (X.suite a ((a, oe) :: pn)) (.Call (.Name "_law_fault" p) [e] [] pos) (tFlt X.K ok a cls d i) := by
  obtain ⟨f, fd, ps, F, hm, kp, b⟩ := c.ex
  have hot : L2H.Hot1 (X.suite a ((a, oe) :: pn)).A (a, oe) := by
    obtain ⟨vs, hv⟩ := hf
    exact ⟨rfl, vs, hv, hz.2.2 vs hv⟩
  have base := Hot.pe_callHp (X := X.suite a ((a, oe) :: pn)) (E := E0) F (L2H.roomH_mark (hr.mono hk) _) hot List.mem_cons_self hg hm kp b pass0 ha (by decide) hst hpl (pos := pos) (q := p)
  refine ⟨fun pins s σ H Q I h => base.run pins s σ H Q I ?_⟩
  obtain ⟨v, hv, q⟩ := h
  exact ⟨v, hv, cls, d, hz.zc, hf, q⟩
end Lw
namespace K83
open PySem PySem.Spec PyProof.Rows L2 Lw
/-- the error classes of the top, as _law_fault asks for them -/
structure Flt (K : PySem.W.Frag) (mg : Str → Option Value) : Prop where
  g : ∀ x ∈ errs, mg x = some (.ref (He.ga K x))
  gb : mg "HighError" = some (.ref (He.ga K "HighError"))
  c : ∀ x ∈ errs, Ecom.ErrC K (He.ga K x)
  k : ∀ x ∈ errs, ∀ y ∈ errs, PySem.W.kitOne K (.ref (He.ga K x)) (.ref (He.ga K y)) = some (decide (x = y))
  kb : ∀ x ∈ errs, PySem.W.kitOne K (.ref (He.ga K x)) (.ref (He.ga K "HighError")) = some true
  kv : ∀ x ∈ errs, PySem.W.kitOne K (.ref (He.ga K x)) (.type "ValueError") = some true
  m : ∀ x ∈ errs, PySem.W.exmOne K (.ref (He.ga K x)) (.ref (He.ga K "HighError")) = some true
def flts : List (Str × Str) := [("BadDisk", "number")]
section
variable {P : Program} {w : World} {K : PySem.W.Frag} {mg : Str → Option Value} {base : Heap} {f : Addr} {fd : FuncData}
abbrev N__law_fault : List Str := ["error", "found"]
theorem sc__law_fault : FnScope N__law_fault ["error"] (defScope s__law_fault) := ⟨rfl, rfl, rfl, by decide +kernel, rfl, by decide +kernel, by decide +kernel⟩
theorem fn_fault (D : FunD K "_law_fault" "_law_fault" (defArgs s__law_fault) (defBody s__law_fault) (defScope s__law_fault) [] [] f fd) (F : Nms mg) (M : Flt K mg) (nw : PySem.W.findIn K (.ref (He.ga K "BadDisk")) "number" = some none) :
    Hot.FnHp P w K mg base CX0 1 f fd ["error"] (spFaultP K flts) := by
  refine Hot.fn_ofHp D sc__law_fault (fun p vs H Q E h => ?_) (fun cdv A outer s H vs Q E p hot hr h => ?_)
  · obtain ⟨cls, d, _, _, x, fl, dd, y, rfl, _⟩ := h
    rfl
  · obtain ⟨cls, d, hz, hf, x, fl, dd, y, rfl, hx, rfl, rfl, hd, k⟩ := h
    have hx2 : (x, fl) = (("BadDisk", "number") : Str × Str) := List.mem_singleton.mp hx
    cases hx2
    have hxe : ("BadDisk" : Str) ∈ errs := by decide +kernel
    have T := M.c _ hxe
    have g_TooMany := M.g "TooMany" (by decide +kernel)
    have g_BadText := M.g "BadText" (by decide +kernel)
    have g_BadPlant := M.g "BadPlant" (by decide +kernel)
    have g_BadCode := M.g "BadCode" (by decide +kernel)
    have g_BadMove := M.g "BadMove" (by decide +kernel)
    have g_BadTrace := M.g "BadTrace" (by decide +kernel)
    have g_BadPaper := M.g "BadPaper" (by decide +kernel)
    have g_BadSeats := M.g "BadSeats" (by decide +kernel)
    have g_BadDisk := M.g "BadDisk" (by decide +kernel)
    have g_BadDeed := M.g "BadDeed" (by decide +kernel)
    have g_HighError := M.gb
    refine ⟨_, ((pss_cons (ps_set (i := 1) sc__law_fault.nd rfl (Or.inl rfl) (pe_lst pa_nil))
  (Lw.pss_cut (ps_if (pt_val (pe_callB (Hot.call_isP (List.mem_singleton.mpr rfl) T.e hz hf) (by rfl) F.«isinstance» (by decide +kernel) (pa_cons (pv 0) (pa_cons (pe_glob (v := .ref (He.ga K "TooMany")) (by rfl) g_TooMany rfl) pa_nil)))) pss_never pss_nil)
  (Lw.pss_cut (ps_if (pt_val (pe_callB (Hot.call_isP (List.mem_singleton.mpr rfl) T.e hz hf) (by rfl) F.«isinstance» (by decide +kernel) (pa_cons (pv 0) (pa_cons (pe_glob (v := .ref (He.ga K "BadText")) (by rfl) g_BadText rfl) pa_nil)))) pss_never pss_nil)
  (Lw.pss_cut (ps_if (pt_val (pe_callB (Hot.call_isP (List.mem_singleton.mpr rfl) T.e hz hf) (by rfl) F.«isinstance» (by decide +kernel) (pa_cons (pv 0) (pa_cons (pe_glob (v := .ref (He.ga K "BadPlant")) (by rfl) g_BadPlant rfl) pa_nil)))) pss_never pss_nil)
  (Lw.pss_cut (ps_if (pt_val (pe_callB (Hot.call_isP (List.mem_singleton.mpr rfl) T.e hz hf) (by rfl) F.«isinstance» (by decide +kernel) (pa_cons (pv 0) (pa_cons (pe_glob (v := .ref (He.ga K "BadCode")) (by rfl) g_BadCode rfl) pa_nil)))) pss_never pss_nil)
  (Lw.pss_cut (ps_if (pt_val (pe_callB (Hot.call_isP (List.mem_singleton.mpr rfl) T.e hz hf) (by rfl) F.«isinstance» (by decide +kernel) (pa_cons (pv 0) (pa_cons (pe_glob (v := .ref (He.ga K "BadMove")) (by rfl) g_BadMove rfl) pa_nil)))) pss_never pss_nil)
  (Lw.pss_cut (ps_if (pt_val (pe_callB (Hot.call_isP (List.mem_singleton.mpr rfl) T.e hz hf) (by rfl) F.«isinstance» (by decide +kernel) (pa_cons (pv 0) (pa_cons (pe_glob (v := .ref (He.ga K "BadTrace")) (by rfl) g_BadTrace rfl) pa_nil)))) pss_never pss_nil)
  (Lw.pss_cut (ps_if (pt_val (pe_callB (Hot.call_isP (List.mem_singleton.mpr rfl) T.e hz hf) (by rfl) F.«isinstance» (by decide +kernel) (pa_cons (pv 0) (pa_cons (pe_glob (v := .ref (He.ga K "BadPaper")) (by rfl) g_BadPaper rfl) pa_nil)))) pss_never pss_nil)
  (Lw.pss_cut (ps_if (pt_val (pe_callB (Hot.call_isP (List.mem_singleton.mpr rfl) T.e hz hf) (by rfl) F.«isinstance» (by decide +kernel) (pa_cons (pv 0) (pa_cons (pe_glob (v := .ref (He.ga K "BadSeats")) (by rfl) g_BadSeats rfl) pa_nil)))) pss_never pss_nil)
  (Lw.pss_cut (ps_if (pt_val (pe_callB (Hot.call_isP (List.mem_singleton.mpr rfl) T.e hz hf) (by rfl) F.«isinstance» (by decide +kernel) (pa_cons (pv 0) (pa_cons (pe_glob (v := .ref (He.ga K "BadDisk")) (by rfl) g_BadDisk rfl) pa_nil)))) (pss_one (ps_expr (pe_bm PySem.F.plainAttrs_list PySem.F.slot_list_append PySem.F.type_list_append mt_append (pv 1) (pa_cons (pe_tup (pa_cons pe_str (pa_cons (Hot.pe_xp (List.mem_singleton.mpr rfl) T.x nw hz hf (pv 0)) pa_nil))) pa_nil)))) pss_nil)
  (Lw.pss_cut (ps_if (pt_val (pe_callB (Hot.call_isP (List.mem_singleton.mpr rfl) T.e hz hf) (by rfl) F.«isinstance» (by decide +kernel) (pa_cons (pv 0) (pa_cons (pe_glob (v := .ref (He.ga K "BadDeed")) (by rfl) g_BadDeed rfl) pa_nil)))) pss_never pss_nil)
  (pss_cons (ps_if (PW.pt (pw_or (pt_not (pt_val (pe_callB (Hot.call_isP (List.mem_singleton.mpr rfl) T.e hz hf) (by rfl) F.«isinstance» (by decide +kernel) (pa_cons (pv 0) (pa_cons (pe_glob (v := .ref (He.ga K "HighError")) (by rfl) g_HighError rfl) pa_nil))))) (pw_or (pt_not (pt_val (pe_callB (Hot.call_isP (List.mem_singleton.mpr rfl) T.e hz hf) (by rfl) F.«isinstance» (by decide +kernel) (pa_cons (pv 0) (pa_cons (pe_bltn (v := .ty "ValueError") (by rfl) F.«ValueError» (by decide +kernel) rfl) pa_nil))))) (pw_or1 (pt_cmpR op_ne (pe_callB (Kx.call_len_seq (K := K)) (by rfl) F.«len» PySem.boot_len (pa_cons (pv 1) pa_nil)) pe_int (nomark _)))))) (pss_one (ps_ret (pe_tup (pa_cons pe_str pa_nil)))) pss_nil)
  (pss_one (ps_ret (pe_ix (Kx.ix_list (K := K)) (pv 1) pe_int (fun _ _ => rfl))))))))))))))))), ?_⟩
    refine ⟨(by show 0 ≤ sizeLine; decide), fun q hq => ?_⟩
    have q1 : upd H q (.lst []) q = some (HO.lst []) := upd_same
    have d1 : upd H q (.lst []) dd = some (.xd [("number", y)]) := Same.new hq _ _ hd
    have no : ∀ z, z ∈ errs → decide (("BadDisk" : Str) = z) = false → PySem.W.kitOne K (.ref (He.ga K "BadDisk")) (.ref (He.ga K z)) = some false := fun z hz e => by rw [M.k _ hxe z hz, e]
    refine ⟨fun σ' H' => σ' = _ ∧ H' = _, ⟨_, rfl, _, _, false, _, rfl, fun _ r => r, no "TooMany" (by decide +kernel) (by decide +kernel), d1, _, rfl, rfl, rfl⟩, ?_⟩
    rintro _ _ ⟨rfl, rfl⟩
    refine ⟨fun σ' H' => σ' = _ ∧ H' = _, ⟨_, rfl, _, _, false, _, rfl, fun _ r => r, no "BadText" (by decide +kernel) (by decide +kernel), d1, _, rfl, rfl, rfl⟩, ?_⟩
    rintro _ _ ⟨rfl, rfl⟩
    refine ⟨fun σ' H' => σ' = _ ∧ H' = _, ⟨_, rfl, _, _, false, _, rfl, fun _ r => r, no "BadPlant" (by decide +kernel) (by decide +kernel), d1, _, rfl, rfl, rfl⟩, ?_⟩
    rintro _ _ ⟨rfl, rfl⟩
    refine ⟨fun σ' H' => σ' = _ ∧ H' = _, ⟨_, rfl, _, _, false, _, rfl, fun _ r => r, no "BadCode" (by decide +kernel) (by decide +kernel), d1, _, rfl, rfl, rfl⟩, ?_⟩
    rintro _ _ ⟨rfl, rfl⟩
    refine ⟨fun σ' H' => σ' = _ ∧ H' = _, ⟨_, rfl, _, _, false, _, rfl, fun _ r => r, no "BadMove" (by decide +kernel) (by decide +kernel), d1, _, rfl, rfl, rfl⟩, ?_⟩
    rintro _ _ ⟨rfl, rfl⟩
    refine ⟨fun σ' H' => σ' = _ ∧ H' = _, ⟨_, rfl, _, _, false, _, rfl, fun _ r => r, no "BadTrace" (by decide +kernel) (by decide +kernel), d1, _, rfl, rfl, rfl⟩, ?_⟩
    rintro _ _ ⟨rfl, rfl⟩
    refine ⟨fun σ' H' => σ' = _ ∧ H' = _, ⟨_, rfl, _, _, false, _, rfl, fun _ r => r, no "BadPaper" (by decide +kernel) (by decide +kernel), d1, _, rfl, rfl, rfl⟩, ?_⟩
    rintro _ _ ⟨rfl, rfl⟩
    refine ⟨fun σ' H' => σ' = _ ∧ H' = _, ⟨_, rfl, _, _, false, _, rfl, fun _ r => r, no "BadSeats" (by decide +kernel) (by decide +kernel), d1, _, rfl, rfl, rfl⟩, ?_⟩
    rintro _ _ ⟨rfl, rfl⟩
    refine ⟨fun σ' H' => σ' = (L2.start N__law_fault [V.ref p.1]).set 1 (some (.ref q)) ∧ Same H H' ∧ ∃ b, H b = none ∧ H' b = some (.tup [.str "BadDisk", y]) ∧ H' q = some (.lst [.ref b]), ⟨_, rfl, _, _, true, _, rfl, fun _ r => r, M.k "BadDisk" hxe "BadDisk" hxe, d1, _, rfl, ?_⟩, ?_⟩
    · refine ⟨_, rfl, .inl ⟨rfl, _, SqL.of q1⟩, _, rfl, rfl, _, _, d1, rfl, (by show 2 ≤ sizeLine; decide), fun b hb => ⟨q, [], _, rfl, rfl, ?_, (by show 0 < sizeLine; decide), rfl, ?_, b, (Same.new hq).free hb, ?_, upd_same⟩⟩
      · rw [upd_ne (fun z => by subst z; rw [q1] at hb; cases hb), q1]
      · exact ((Same.new hq).trans (Same.new hb)).mut hq
      · rw [upd_ne (fun z => by subst z; rw [q1] at hb; cases hb), upd_same]
    rintro _ H2 ⟨rfl, s2, b, nb, e2, e3⟩
    have d2 := s2 _ _ hd
    refine ⟨fun σ' H' => σ' = _ ∧ H' = _, ⟨_, rfl, _, _, false, _, rfl, fun _ r => r, no "BadDeed" (by decide +kernel) (by decide +kernel), d2, _, rfl, rfl, rfl⟩, ?_⟩
    rintro _ _ ⟨rfl, rfl⟩
    refine ⟨_, rfl, _, _, true, _, rfl, fun _ r => r, M.kb _ hxe, d2, _, rfl, ?_⟩
    refine ⟨_, rfl, _, _, true, _, rfl, fun _ r => r, M.kv _ hxe, d2, _, rfl, ?_⟩
    refine ⟨_, rfl, q, _, rfl, .inl (SqL.of e3), ?_⟩
    refine ⟨rfl, _, rfl, iteNS (by rfl) ?_⟩
    exact ⟨_, rfl, q, _, _, _, rfl, rfl, SqL.of e3, rfl, k b _ nb s2 e2⟩
end
end K83

set_option Elab.async false
set_option linter.all false
set_option maxRecDepth 100000
set_option maxHeartbeats 4000000
/-! own classes, bundled -/
namespace Lw
open PySem PySem.Spec PyProof.Rows L2
structure CalM (P : Program) (w : World) (K : PySem.W.Frag) (mg : Str → Option Value) (base : Heap) (CX : CXT) (k : Nat) (C : Addr) (m : Str) (sp : Sp) : Prop where
  ex : ∃ (f : Addr) (fd : FuncData) (ps : List Str), FnOk P w K mg base CX k f fd ps sp ∧ Meth K C m f ∧ Binds K fd ps []
  cl : Cls K C
structure CalC (P : Program) (w : World) (K : PySem.W.Frag) (mg : Str → Option Value) (base : Heap) (CX : CXT) (k : Nat) (x : Str) (C : Addr) (sp : Sp) : Prop where
  ex : ∃ (f : Addr) (fd : FuncData) (ps : List Str), FnOk P w K mg base CX k f fd ps sp ∧ Mk K C f ∧ Binds K fd ps [] ∧ mg x = some (.ref C)
section
variable {X : Cx} {j k : Nat} {C : Addr} {x m : Str} {sp : Sp} {o e : Expr} {es : List Expr} {ta : TE} {t : TA} {p apos pos : Pos} {W : WX}
theorem pe_m {pl : Sem Bool} (c : CalM X.prog X.w X.K X.mg X.base CX0 k C m sp) (hr : Room j X.A) (hk : k ≤ j) (he : PE X o ta) (ha : PA X (e :: es) t)
    (hst : starEach (e :: es) X.env = (false, eval e X.env) :: starEach es X.env := by rfl) (hpl : (backTo pos (starEach es X.env)).any (·.1) = false := by rfl)
    (ht : eval (.Call (.Attribute o m apos) (e :: es) [] pos) X.env = (do
      let ov ← eval o X.env
      standAt apos.atName
      let (f, first) ← holding [ov] (getMethod ov m pl)
      callWith pos f first (backTo pos (starEach (e :: es) X.env)) (backToKw pos (keywordEach [] X.env))) := by rfl) :
    PE X (.Call (.Attribute o m apos) (e :: es) [] pos) (tMeth C m sp [] E0 ta t) := by
  obtain ⟨f, fd, ps, F, hm, b⟩ := c.ex
  exact pe_meth he c.cl hm F (hr.mono hk) b .nil pass0 ha hst hpl ht
theorem pe_m0 {pl : Sem Bool} (c : CalM X.prog X.w X.K X.mg X.base CX0 k C m sp) (hr : Room j X.A) (hk : k ≤ j) (he : PE X o ta)
    (ht : eval (.Call (.Attribute o m apos) [] [] pos) X.env = (do
      let ov ← eval o X.env
      standAt apos.atName
      let (f, first) ← holding [ov] (getMethod ov m pl)
      callWith pos f first (backTo pos (starEach [] X.env)) (backToKw pos (keywordEach [] X.env))) := by rfl) :
    PE X (.Call (.Attribute o m apos) [] [] pos) (tMeth C m sp [] E0 ta tNil) := by
  obtain ⟨f, fd, ps, F, hm, b⟩ := c.ex
  exact pe_meth0 he c.cl hm F (hr.mono hk) b .nil pass0 ht
theorem pe_new (c : CalC X.prog X.w X.K X.mg X.base CX0 k x C sp) (hr : Room j X.A) (hk : k + 1 ≤ j) (hg : Gl X x) (ha : PA X (e :: es) t)
    (hdb : (x == ("__debug__" : Str)) = false := by decide) (he : starEach (e :: es) X.env = (false, eval e X.env) :: starEach es X.env := by rfl) (hpl : (backTo pos (starEach es X.env)).any (·.1) = false := by rfl) :
    PE X (.Call (.Name x p) (e :: es) [] pos) (tMake C sp [] E0 t) := by
  obtain ⟨f, fd, ps, F, M, b, hm⟩ := c.ex
  exact pe_make M F (hr.mono hk) hg hm b .nil pass0 ha hdb he hpl
/-- C(e, ..) whose __init__ may raise, what it raises wished for -/
def tMakeS (C : Addr) (sp : Sp) (E : L2.St → XK) (t : TA) : TE := fun σ H Q => t σ H fun vs H1 => ∀ x dx, H1 x = none → H1 dx = none → dx ≠ x →
  sp (.ref x :: vs) (upd (upd H1 dx (.own x)) x (.ins C dx [])) (fun v H2 => v = .non ∧ Q (.ref x) H2) (E σ)
theorem pe_newS (c : CalC X.prog X.w X.K X.mg X.base (L2N.CX X.prog X.w) k x C sp) (hr : Room j X.A) (hk : k + 1 ≤ j) (hg : Gl X x) (tk : L2N.Takes X W) (ha : PA X (e :: es) t)
    (hdb : (x == ("__debug__" : Str)) = false := by decide) (he : starEach (e :: es) X.env = (false, eval e X.env) :: starEach es X.env := by rfl) (hpl : (backTo pos (starEach es X.env)).any (·.1) = false := by rfl) :
    PE X (.Call (.Name x p) (e :: es) [] pos) (tMakeS C sp (WE W) t) := by
  obtain ⟨f, fd, ps, F, M, b, hm⟩ := c.ex
  refine ⟨fun pins s σ H Q I h => ?_⟩
  refine wpAny_Call_Name_kw (ld_glob I hg hm ?_ hdb)
  refine PySem.W.callWith_K (h₀ := X.base) I.ok.mod.kin M.kp (thn (ha.run pos pins s σ H _ I h) fun us s1 ⟨vs, H1, I1, r, q⟩ => ⟨I1.kIn, ?_⟩) he hpl
  have hq := q (s1.heap.objs.size + 1) s1.heap.objs.size (I1.hok.fresh (Nat.le_succ _)) (I1.hok.fresh (Nat.le_refl _)) (Nat.ne_of_lt (Nat.lt_succ_self _))
  have I2 := Inv.made (C := C) I1
  have r2 : Vals (V.ref (s1.heap.objs.size + 1) :: vs) (Value.ref (s1.heap.objs.size + 1) :: us) := .cons rfl r
  have hl : (Value.ref (s1.heap.objs.size + 1) :: us).length = ps.length := by
    have e := r2.length
    rw [F.len _ _ _ _ hq] at e
    exact e.symm
  have bb := b _ (Value.ref (s1.heap.objs.size + 1) :: us) I2.kIn (by rw [List.append_nil]; exact hl)
  rw [List.append_nil] at bb
  refine wpAny_call (make_map (f := f) I1.kIn M.makes M.init (beq_iff_eq.mp M.fn) (codeAny_mono (F.run _ X.stack _ _ ⟨Value.ref (s1.heap.objs.size + 1) :: us, []⟩ (Value.ref (s1.heap.objs.size + 1) :: us) _ _ (WE W σ) ((hr.mono hk).make C us [])
    (I2.env0.make C us []) bb r2 hq) fun r s' hq' => ?_))
  cases r with
  | error er => exact L2N.passAt tk σ _ _ _ er s' I2 hq'
  | ok fl =>
    cases fl with
    | ret u =>
      obtain ⟨v, H', I3, rv, ev, q3⟩ := I2.after hq'
      subst ev
      exact ⟨rv, ⟨V.ref (s1.heap.objs.size + 1), H', I3, rfl, q3⟩⟩
    | next => exact False.elim hq'
    | brk => exact False.elim hq'
    | cont => exact False.elim hq'
end
/-- a dict comprehension over what is walked -/
theorem dc_it {J : It} {n : Nat} {G : Hp → Prop} {Y : Nat → Hp → V → Hp → Prop} (w : Walk J n G Y) {g : TG} {tt : TT} {tk tv : TE} {vs : List Nat} {σ : L2.St} {H1 : Hp} {D : Addr} {Qd : Hp → Prop} (Pv : Nat → Hp → Prop) (h0 : Pv 0 (upd H1 D (.dK []))) (hG : ∀ i H, i ≤ n → Pv i H → G H)
    (hs : ∀ i x H H', i < n → Pv i H → Y i H x H' → g x (wipe σ vs) H' fun σ2 H2 => wipe σ2 vs = wipe σ vs ∧ tt σ2 H2 fun b H3 =>
      if b = true then tk σ2 H3 fun y H4 => tv σ2 H4 fun z H5 => ∃ kvs k, y = kV k ∧ H5 D = some (.dK kvs) ∧ kvs.length < sizeLine ∧ Pv (i + 1) (upd H5 D (.dK (putK kvs k z))) else Pv (i + 1) H3) (hd : ∀ H, Pv n H → Qd H) :
    ∃ W : Nat → Nat → Hp → Prop, (∃ m, W 0 m (upd H1 D (.dK []))) ∧ ∀ i m H, W i m H →
      (J.stop i H ∧ Qd H) ∨ (J.go i H ∧ ∃ Nx : Hp → Prop, (∀ H', Nx H' → ∃ m', m' < m ∧ W (i + 1) m' H') ∧ ∀ x H', J.yld i H x H' → g x (wipe σ vs) H' fun σ2 H2 => wipe σ2 vs = wipe σ vs ∧ tt σ2 H2 fun b H3 =>
        if b = true then tk σ2 H3 fun y H4 => tv σ2 H4 fun z H5 => ∃ kvs k, y = kV k ∧ H5 D = some (.dK kvs) ∧ kvs.length < sizeLine ∧ Nx (upd H5 D (.dK (putK kvs k z))) else Nx H3) := by
  refine ⟨fun i m H => m = n - i ∧ i ≤ n ∧ Pv i H, ⟨n, by simp, Nat.zero_le _, h0⟩, ?_⟩
  rintro i m H ⟨rfl, hi, p⟩
  have q := hG i H hi p
  by_cases hlt : i < n
  · exact .inr ⟨w.goes i H hlt q, Pv (i + 1), fun H' p' => ⟨n - (i + 1), by omega, rfl, hlt, p'⟩, fun x H' y => hs i x H H' hlt p (w.yields i H x H' hlt q y)⟩
  · have e : i = n := by omega
    subst e
    exact .inl ⟨w.stops H q, hd H p⟩
/-! ### frames -/
/-- all but the objects at S -/
def hid (S : List Addr) (H : Hp) : Hp := fun b => if b ∈ S then none else H b
theorem hid_in {S : List Addr} {H : Hp} {b : Addr} (h : b ∈ S) : hid S H b = none := if_pos h
theorem hid_out {S : List Addr} {H : Hp} {b : Addr} (h : b ∉ S) : hid S H b = H b := if_neg h
theorem hid_same (S : List Addr) (H : Hp) : Same (hid S H) H := fun b o e => by
  by_cases h : b ∈ S
  · rw [hid_in h] at e
    cases e
  · rw [hid_out h] at e
    exact e
end Lw

set_option Elab.async false
set_option linter.all false
set_option maxRecDepth 100000
set_option maxHeartbeats 4000000
namespace Lg
open PySem TL L2
theorem log_len {zs : List Str} (hn : zs.length ≤ 2000) (hz : ∀ z ∈ zs, z.length ≤ 2000) : (logS zs).length ≤ zs.length * 2040 := by
  have key : ∀ (zs : List Str) (j : Nat), j + zs.length ≤ 2000 → (∀ z ∈ zs, z.length ≤ 2000) → ((linesFrom j zs).map (·.length)).sum ≤ zs.length * 2040 := by
    intro zs
    induction zs with
    | nil => intro j _ _; exact Nat.zero_le _
    | cons y r ih =>
      intro j hj hy
      have h1 := ih (j + 1) (by rw [List.length_cons] at hj; omega) fun z h => hy z (List.mem_cons_of_mem _ h)
      have h2 := hy y (List.mem_cons_self ..)
      rw [List.length_cons] at hj
      have h3 := line_len (n := ((j + 1 : Nat) : Int)) (z := y) (by omega) (by omega) (by omega)
      show (lineS _ y).length + ((linesFrom (j + 1) r).map (·.length)).sum ≤ (r.length + 1) * 2040
      omega
  have h0 := key zs 0 (by omega) hz
  rw [sum_lens] at h0
  rw [len_tl, flat_log]
  exact h0
theorem lineB_len {n : Nat} {z : Str} (h : n ≤ 1000000) (hz : z.length ≤ 2000) : (lineB n z).length ≤ 2040 := by
  have h3 := line_len (n := (n : Int)) (z := z) (by omega) (by omega) (by omega)
  have e2 : lineS (n : Int) z = lineB n z ++ "\n" := rfl
  rw [e2, len_append] at h3
  have e3 : ("\n" : Str).length = 1 := by decide +kernel
  omega
theorem cut_take (xs : List V) (i : Nat) : cutV xs none (some (i : Int)) = xs.take i := by
  unfold cutV
  rw [HT.sIx_none, HT.sIx_nat, List.drop_zero, Nat.sub_zero]
  rcases Nat.le_total i xs.length with h | h
  · rw [Nat.min_eq_left h]
  · rw [Nat.min_eq_right h, List.take_length, List.take_of_length_le h]
theorem cutS_take (z : Str) (i : Nat) : tl (cutS z none (some (i : Int))) = (tl z).take i := by
  unfold cutS
  rw [HT.sIx_none, HT.sIx_nat, List.drop_zero, Nat.sub_zero, tl_mk]
  rw [len_tl]
  rcases Nat.le_total i (tl z).length with h | h
  · rw [Nat.min_eq_left h]
  · rw [Nat.min_eq_right h, List.take_length, List.take_of_length_le h]
theorem nats_get {ms : List Nat} {i : Nat} {x : V} (h : (ms.map fun c : Nat => V.int c)[i]? = some x) : ∃ z : Nat, ms[i]? = some z ∧ x = V.int z := by
  rw [List.getElem?_map] at h
  cases q : ms[i]? with
  | none =>
    rw [q] at h
    cases h
  | some z =>
    rw [q] at h
    cases h
    exact ⟨z, rfl, rfl⟩
end Lg
namespace Lg
open PySem TL L2
theorem fold_mem (a : Array Nat) : ∀ (k : Nat) (acc : Array Nat) (c : Nat), c ∈ ((List.replicate k a).foldl (· ++ ·) acc).toList → c ∈ acc.toList ∨ c ∈ a.toList
  | 0, acc, c, h => .inl h
  | k + 1, acc, c, h => by
    rw [List.replicate_succ, List.foldl_cons] at h
    rcases fold_mem a k (acc ++ a) c h with h | h
    · rw [Array.toList_append, List.mem_append] at h
      exact h
    · exact .inr h
theorem mul_mem {z : Str} {n : Int} {c : Nat} (h : c ∈ tl (Txt.mul z n)) : c ∈ tl z := by
  unfold Txt.mul at h
  split at h
  · exact absurd (show c ∈ ([] : List Nat) from h) (by simp)
  · split at h
    · exact h
    · rcases fold_mem z.cps n.toNat #[] c h with h | h
      · simp at h
      · exact h
theorem row_of_signs {z : Str} (h1 : 1 ≤ z.length) (h2 : z.length ≤ 2000) (h : ∀ c ∈ tl z, 32 ≤ c ∧ c ≤ 126) : isRow (tl z) = true := by
  unfold isRow
  rw [len_tl] at h1 h2
  simp only [Bool.and_eq_true, decide_eq_true_eq, List.all_eq_true]
  exact ⟨h1, h2, fun c hc => h c hc⟩
theorem row_bad {l : List Nat} {c : Nat} (h : c ∈ l) (hc : c < 32) : isRow l = false := by
  cases e : isRow l with
  | false => rfl
  | true =>
    unfold isRow at e
    simp only [Bool.and_eq_true, decide_eq_true_eq, List.all_eq_true] at e
    have := (e.2.2 c h).1
    omega
theorem cutS_len (z : Str) (lo hi : Option Int) : (cutS z lo hi).length ≤ z.length := by
  rw [len_tl, len_tl]
  unfold cutS
  rw [tl_mk, List.length_take, List.length_drop]
  have : z.cps.toList.length = (tl z).length := rfl
  omega
theorem log_one (z : Str) : logS [z] = lineS 1 z := ext_tl (by
  rw [flat_log]
  show tl (lineS ((0 + 1 : Nat) : Int) z) ++ [] = _
  rw [List.append_nil]
  rfl)
theorem log_rows {zs : List Str} (hz : ∀ z ∈ zs, isRow (tl z) = true) : Txt.split (logS zs) "\n" = bodies 0 zs ++ [("" : Str)] := by
  refine split_log hz (by decide +kernel) ?_
  rw [flat_log]
  have : tl ("" : Str) = [] := by decide +kernel
  rw [this, List.append_nil]
theorem joinL_end (S : List Nat) : ∀ (r : List (List Nat)) (x : List Nat), joinL S (x :: r ++ [[]]) = joinL S (x :: r) ++ S
  | [], x => by
    show x ++ (S ++ []) = x ++ S
    rw [List.append_nil]
  | y :: r, x => by
    show x ++ (S ++ joinL S (y :: r ++ [[]])) = x ++ (S ++ joinL S (y :: r)) ++ S
    rw [joinL_end S r y]
    simp
theorem joinL_head (S p : List Nat) : ∀ (r : List (List Nat)) (x : List Nat), joinL S ((p ++ x) :: r) = p ++ joinL S (x :: r)
  | [], x => rfl
  | y :: r, x => by
    show (p ++ x) ++ (S ++ joinL S (y :: r)) = p ++ (x ++ (S ++ joinL S (y :: r)))
    rw [List.append_assoc]
/-- one line feed more than the rows have -/
theorem split_more {zs : List Str} {p : Str} (hz : ∀ z ∈ zs, isRow (tl z) = true) (hp : 10 ∉ tl p) : ∃ (ls : List Str) (last : Str), Txt.split (p ++ logS zs ++ "\n") "\n" = ls ++ [last] ∧ ls.length = zs.length + 1 := by
  have e0 := flat_join zs 0 ""
  have e1 : tl ("" : Str) = [] := by decide +kernel
  rw [e1, List.append_nil] at e0
  have free : ∀ l ∈ (bodies 0 zs ++ [("" : Str)]).map tl, 10 ∉ l := fun l hl => by
    obtain ⟨y, hy, rfl⟩ := List.mem_map.mp hl
    rcases List.mem_append.mp hy with hy | hy
    · obtain ⟨n, z, h1, _, rfl⟩ := bodies_mem hy
      exact lineB_free (hz z h1)
    · rw [List.mem_singleton.mp hy, e1]
      simp
  have hlen : ((bodies 0 zs ++ [("" : Str)]).map tl).length = zs.length + 1 := by
    rw [List.length_map, List.length_append, bodies_length]
    rfl
  generalize (bodies 0 zs ++ [("" : Str)]).map tl = L at e0 free hlen
  cases L with
  | nil => simp at hlen
  | cons x r =>
    have et : tl (p ++ logS zs ++ "\n") = joinL [10] ((tl p ++ x) :: r ++ [[]]) := by
      rw [joinL_end, joinL_head, tl_append, tl_append, flat_log, e0, nl_eq]
    have es : (Txt.split (p ++ logS zs ++ "\n") "\n").map tl = (tl p ++ x) :: r ++ [[]] := by
      rw [split_spl _ "\n" (by rw [nl_eq]; simp) (kind_ok (by decide +kernel)), et, nl_eq]
      refine spl_join (by simp) fun q hq => ?_
      rcases List.mem_append.mp hq with hq | hq
      · rcases List.mem_cons.mp hq with rfl | hq
        · rw [List.mem_append, not_or]
          exact ⟨hp, free _ List.mem_cons_self⟩
        · exact free _ (List.mem_cons_of_mem _ hq)
      · rw [List.mem_singleton.mp hq]
        simp
    have hl := congrArg List.length es
    rw [List.length_map, List.length_append, List.length_cons, List.length_singleton] at hl
    rw [List.length_cons] at hlen
    generalize Txt.split (p ++ logS zs ++ "\n") "\n" = W at hl
    have hne : W ≠ [] := fun e => by rw [e] at hl; simp at hl
    refine ⟨W.dropLast, W.getLast hne, (List.dropLast_concat_getLast hne).symm, ?_⟩
    rw [List.length_dropLast]
    omega
end Lg
namespace Lw
open PySem PySem.Spec PyProof.Rows L2
theorem da_strs {H : Hp} {n : Nat} : ∀ (zs : List Str), DaAll H (n + 1) (zs.map V.str) (zs.map PyData.str)
  | [] => .nil
  | z :: r => .cons (.str z) (da_strs r)
theorem da_tup_strs {H : Hp} {n : Nat} {a : Addr} {zs : List Str} (h : H a = some (.tup (zs.map V.str))) (hl : zs.length ≤ 1000000) : Da H (n + 2) (.ref a) (.tuple (zs.map PyData.str)) := .tup h (by rw [List.length_map]; exact hl) (da_strs zs)
end Lw
namespace Lw
open PySem PySem.Spec PyProof.Rows L2
theorem Mv.put {a D : Addr} {H1 H2 H5 : Hp} {o : HO} (m2 : Mv a H1 H2) (hD : H2 D = none) (naD : a ≠ D) (m5 : Mv a H1 H5) : Mv a H1 (upd H5 D o) := ⟨fun b q n e => by
  rw [upd_ne (ne_of_none (m2.keep b q n e) hD)]
  exact m5.keep b q n e, by
  obtain ⟨s0, s1, s2, e, h⟩ := m5.src
  exact ⟨s0, s1, s2, by rw [upd_ne naD]; exact e, h⟩⟩
end Lw
namespace Lg
open PySem TL L2
theorem rg_nats (n : Nat) : rgV 0 ((n : Int) + 1) = (List.range (n + 1)).map fun c : Nat => V.int c := by
  unfold rgV
  have e : ((n : Int) + 1 - 0).toNat = n + 1 := by omega
  rw [e]
  refine List.map_congr_left fun a _ => ?_
  rw [Int.zero_add]
end Lg

set_option Elab.async false
set_option linter.all false
set_option maxRecDepth 100000
set_option maxHeartbeats 4000000
namespace Lg
open PySem TL L2
theorem flat_end : ∀ (zs : List Str) (k : Nat), zs ≠ [] → (flat k zs)[(flat k zs).length - 1]? = some 10 ∧ 0 < (flat k zs).length
  | [], _, h => absurd rfl h
  | [z], k, _ => by
    rw [flat_cons]
    have e : flat (k + 1) [] = [] := rfl
    rw [e]
    simp
  | z :: y :: r, k, _ => by
    obtain ⟨h1, h2⟩ := flat_end (y :: r) (k + 1) (by simp)
    rw [flat_cons]
    generalize flat (k + 1) (y :: r) = F at h1 h2
    have hl : (tl (lineB ((k + 1 : Nat) : Int) z) ++ 10 :: F).length - 1 = (tl (lineB ((k + 1 : Nat) : Int) z)).length + ((F.length - 1) + 1) := by
      rw [List.length_append, List.length_cons]
      omega
    refine ⟨?_, by rw [List.length_append, List.length_cons]; omega⟩
    rw [hl, List.getElem?_append_right (by omega)]
    have e : (tl (lineB ((k + 1 : Nat) : Int) z)).length + ((F.length - 1) + 1) - (tl (lineB ((k + 1 : Nat) : Int) z)).length = (F.length - 1) + 1 := by omega
    rw [e]
    simpa using h1
theorem rfind_log {t last : Str} {zs : List Str} (ht : tl t = flat 0 zs ++ tl last) (hl : 10 ∉ tl last) : Txt.rfind t "\n" + 1 = ((flat 0 zs).length : Int) := by
  have en : ("\n" : Str) = ⟨#[10]⟩ := nl_eq
  rw [en]
  have at_ : ∀ i, StrLaws.At t ⟨#[10]⟩ t.length i ↔ (tl t)[i]? = some 10 := fun i => StrLaws.subAt_one t 10 i
  rcases PyProof.Rows.rfind_whole t ⟨#[10]⟩ with ⟨e, h⟩ | ⟨i, e, h1, h2⟩
  · rw [e]
    by_cases hz : zs = []
    · subst hz
      rfl
    · obtain ⟨g1, g2⟩ := flat_end zs 0 hz
      exact absurd ((at_ ((flat 0 zs).length - 1)).mpr (by rw [ht, List.getElem?_append_left (by omega)]; exact g1)) (h _)
  · rw [e]
    have g := (at_ i).mp h1
    rw [ht] at g
    have hi : i < (flat 0 zs).length := by
      rcases Nat.lt_or_ge i (flat 0 zs).length with h | h
      · exact h
      · rw [List.getElem?_append_right h] at g
        exact absurd (List.mem_of_getElem? g) hl
    by_cases hz : zs = []
    · subst hz
      exact absurd hi (by show ¬ i < 0; omega)
    · obtain ⟨g1, g2⟩ := flat_end zs 0 hz
      rcases Nat.lt_or_ge i ((flat 0 zs).length - 1) with hlt | hge
      · exact absurd ((at_ ((flat 0 zs).length - 1)).mpr (by rw [ht, List.getElem?_append_left (by omega)]; exact g1)) (h2 _ hlt)
      · omega
theorem cut_back {t last : Str} {zs : List Str} (ht : tl t = flat 0 zs ++ tl last) (hl : 10 ∉ tl last) : cutS t none (some (Txt.rfind t "\n" + 1)) = logS zs := by
  rw [rfind_log ht hl]
  refine ext_tl ?_
  rw [cutS_take, ht, flat_log, List.take_left' rfl]
end Lg

set_option Elab.async false
set_option linter.all false
set_option maxRecDepth 100000
set_option maxHeartbeats 4000000
namespace K83
open PySem PySem.Spec PyProof.Rows L2 Lw
abbrev DK (K : PySem.W.Frag) : Addr := He.ga K "Disk"
def fsD (sy f i : Addr) : List (Str × V) := [("own_power", .non), ("own_synced", .ref sy), ("own_files", .ref f), ("own_items", .ref i)]
/-- the files' dict holds this text of the log -/
def Kvt (kvs : List (Key × V)) (txt : Str) : Prop := (kvs = [] ∧ txt = "") ∨ kvs = [(.inr "log", .str txt)]
/-- a disk at p, its log's text, how many items wait; H0: what is none of it -/
structure Dk (K : PySem.W.Frag) (H0 H : Hp) (p : Addr) (txt : Str) (it : Nat) : Prop where
  same : Same H0 H
  ex : ∃ dx sy f i kvs its, H p = some (.ins (DK K) dx (fsD sy f i)) ∧ H f = some (.dK kvs) ∧ Kvt kvs txt ∧ H i = some (.lst its) ∧ its.length = it ∧ H0 p = none ∧ H0 f = none ∧ H0 i = none
/-- the disk's class -/
structure DkC (K : PySem.W.Frag) : Prop where
  cl : Cls K (DK K)
  np : NoAttr K (DK K) "own_power"
  ns : NoAttr K (DK K) "own_synced"
  nf : NoAttr K (DK K) "own_files"
  ni : NoAttr K (DK K) "own_items"
/-- an item more: the heap behind it -/
theorem dk_put {K : PySem.W.Frag} {H H0 : Hp} {p dx sy f i b : Addr} {kvs : List (Key × V)} {its its' : List V} {o1 : HO} (hp : H p = some (.ins (DK K) dx (fsD sy f i))) (hf : H f = some (.dK kvs)) (hi : H i = some (.lst its)) (sm : Same H0 H) (p0 : H0 p = none) (f0 : H0 f = none) (i0 : H0 i = none) (hb : H b = none) :
    upd (upd H b o1) i (.lst its') p = some (.ins (DK K) dx (fsD sy f i)) ∧ upd (upd H b o1) i (.lst its') f = some (.dK kvs) ∧ upd (upd H b o1) i (.lst its') i = some (.lst its') ∧ Same H0 (upd (upd H b o1) i (.lst its')) := by
  have npi : p ≠ i := fun q => by rw [q, hi] at hp; cases hp
  have nfi : f ≠ i := fun q => by rw [q, hi] at hf; cases hf
  refine ⟨?_, ?_, upd_same, (sm.trans (Same.new hb)).mut i0⟩
  · rw [upd_ne npi]
    exact Same.new hb _ _ hp
  · rw [upd_ne nfi]
    exact Same.new hb _ _ hf
section
variable {P : Program} {w : World} {K : PySem.W.Frag} {mg : Str → Option Value} {base : Heap} {f : Addr} {fd : FuncData}
def spWith : Sp := fun vs H Q _ => ∃ (d a : Addr) (kvs : List (Key × V)) (txt : Str), vs = [.ref d, .ref a] ∧ H d = some (.dK kvs) ∧ Kvt kvs txt ∧ txt.length ≤ 1000000 ∧
  ((∃ s : Str, H a = some (.tup [.str "put", .str "log", .str s]) ∧ s.length ≤ 1000000 ∧ Q .non (upd H d (.dK [(.inr "log", .str (txt ++ s))]))) ∨
   (∃ n : Int, H a = some (.tup [.str "trim", .str "log", .int n]) ∧ Q .non (upd H d (.dK [(.inr "log", .str (cutS txt none (some n)))]))))
abbrev N_with_item : List Str := ["files", "item", "text"]
theorem sc_with_item : FnScope N_with_item ["files", "item"] (defScope s_with_item) := ⟨rfl, rfl, rfl, by decide +kernel, rfl, by decide +kernel, by decide +kernel⟩
theorem ok_with_item (D : FunD K "with_item" "with_item" (defArgs s_with_item) (defBody s_with_item) (defScope s_with_item) [] [] f fd) (F : Nms mg) : FnOk P w K mg base CX0 1 f fd ["files", "item"] spWith := by
  refine D.ok sc_with_item (fun vs H Q E h => ?_) (fun cdv A outer s H vs Q E hr h => ?_)
  · obtain ⟨d, a, _, _, rfl, _⟩ := h
    rfl
  · obtain ⟨d, a, kvs, txt, rfl, hd, hk, ht, k⟩ := h
    refine ⟨_, PSs.nox ((pss_cons (ps_set (i := 2) sc_with_item.nd rfl (Or.inl rfl) (pe_dget2 (hu_of hr) (pv 0) (pe_ix (Kx.ix_tup (K := K)) (pv 1) pe_int (fun _ _ => rfl)) pe_str ⟨rfl, rfl, rfl, rfl⟩))
  (pss_one (ps_if (pt_cmpR op_eq (pe_ix (Kx.ix_tup (K := K)) (pv 1) pe_int (fun _ _ => rfl)) pe_str (nomark _)) (pss_one (ps_dput (hu_of hr) (pv 0) (pe_ix (Kx.ix_tup (K := K)) (pv 1) pe_int (fun _ _ => rfl)) (pe_op op_add_str (pv 2) (pe_ix (Kx.ix_tup (K := K)) (pv 1) pe_int (fun _ _ => rfl))) rfl)) (pss_one (ps_dput (hu_of hr) (pv 0) (pe_ix (Kx.ix_tup (K := K)) (pv 1) pe_int (fun _ _ => rfl)) (pe_slice sl_str (pv 2) po_none (po_some (pe_ix (Kx.ix_tup (K := K)) (pv 1) pe_int (fun _ _ => rfl)))) rfl)))))), ?_⟩
    have kget : (valV kvs (.inr "log")).getD (V.str "") = V.str txt := by
      rcases hk with ⟨rfl, rfl⟩ | rfl
      · rfl
      · rfl
    have kput : ∀ v, putK kvs (.inr "log") v = [(.inr "log", v)] := fun v => by
      rcases hk with ⟨rfl, rfl⟩ | rfl
      · rfl
      · rfl
    have klen : kvs.length < sizeLine := by
      rcases hk with ⟨rfl, rfl⟩ | rfl
      · show 0 < sizeLine
        decide
      · show 1 < sizeLine
        decide
    rcases k with ⟨z, ha, hz, k⟩ | ⟨n, ha, k⟩
    · refine ⟨_, rfl, d, rfl, .inl ⟨kvs, .inl hd⟩, _, rfl, a, _, _, _, rfl, rfl, SqT.of ha, rfl, valV kvs (.inr "log"), DGet.k (k := .inr "log") hd, ?_⟩
      rw [kget]
      refine ⟨_, rfl, a, _, _, _, rfl, rfl, SqT.of ha, rfl, rfl, _, rfl, ?_⟩
      refine ite2 (fun _ => ?_) (fun c => absurd (decide_eq_true rfl) c)
      refine ⟨_, rfl, _, rfl, a, _, _, _, rfl, rfl, SqT.of ha, rfl, _, _, rfl, rfl, small_line (by omega), _, rfl, _, rfl, a, _, _, _, rfl, rfl, SqT.of ha, rfl, d, _, rfl, DPut.k (k := .inr "log") hd klen, ?_⟩
      rw [kput]
      exact k
    · refine ⟨_, rfl, d, rfl, .inl ⟨kvs, .inl hd⟩, _, rfl, a, _, _, _, rfl, rfl, SqT.of ha, rfl, valV kvs (.inr "log"), DGet.k (k := .inr "log") hd, ?_⟩
      rw [kget]
      refine ⟨_, rfl, a, _, _, _, rfl, rfl, SqT.of ha, rfl, rfl, _, rfl, ?_⟩
      refine ite2 (fun c => absurd (V.str.inj (of_decide_eq_true c)) (by decide +kernel)) (fun _ => ?_)
      refine ⟨_, rfl, _, rfl, a, _, _, _, rfl, rfl, SqT.of ha, rfl, _, rfl, txt, rfl, small_line (by omega), _, rfl, _, rfl, a, _, _, _, rfl, rfl, SqT.of ha, rfl, d, _, rfl, DPut.k (k := .inr "log") hd klen, ?_⟩
      rw [kput]
      exact k
def spDkInit (K : PySem.W.Frag) : Sp := fun vs H Q _ => ∃ (p dx : Addr) (H0 : Hp), vs = [.ref p, .non] ∧ H p = some (.ins (DK K) dx []) ∧ Same H0 H ∧ H0 p = none ∧ ∀ H', Dk K H0 H' p "" 0 → Q .non H'
abbrev N_Disk___init__ : List Str := ["self", "power"]
theorem sc_Disk___init__ : FnScope N_Disk___init__ ["self", "power"] (defScope s_Disk___init__) := ⟨rfl, rfl, rfl, by decide +kernel, rfl, by decide +kernel, by decide +kernel⟩
theorem ok_dk_init (D : FunD K "__init__" "Disk.__init__" (defArgs s_Disk___init__) (defBody s_Disk___init__) (defScope s_Disk___init__) [] [] f fd) (F : Nms mg) (C : DkC K) : FnOk P w K mg base CX0 1 f fd ["self", "power"] (spDkInit K) := by
  refine D.ok sc_Disk___init__ (fun vs H Q E h => ?_) (fun cdv A outer s H vs Q E hr h => ?_)
  · obtain ⟨p, dx, H0, rfl, _⟩ := h
    rfl
  · obtain ⟨p, dx, H0, rfl, hp, sm, h0, k⟩ := h
    refine ⟨_, PSs.nox ((pss_cons (ps_fld (pv 0) (pv 1) rfl)
  (pss_cons (ps_fld (pv 0) pe_dnewK rfl)
  (pss_cons (ps_fld (pv 0) pe_dnewK rfl)
  (pss_one (ps_fld (pv 0) (pe_lst pa_nil) rfl)))))), ?_⟩
    refine ⟨_, rfl, _, rfl, p, _, dx, _, rfl, hp, C.cl, C.np, (by show 0 < 1000; decide), fun sy hsy => ?_⟩
    have S1 := (sm.mut (o := .ins (DK K) dx [("own_power", .non)]) h0).trans (Same.new (o := .dK []) hsy)
    have e1 := Same.new (o := .dK []) hsy p _ upd_same
    refine ⟨_, rfl, p, _, dx, _, rfl, e1, C.cl, C.ns, (by show 1 < 1000; decide), fun f hf => ?_⟩
    have S2 := S1.mut (o := .ins (DK K) dx (putF "own_synced" (.ref sy) [("own_power", .non)])) h0
    have f0 := S2.free hf
    have S3 := S2.trans (Same.new (o := .dK []) hf)
    have e2 := Same.new (o := .dK []) hf p _ upd_same
    have nfp : f ≠ p := fun q => by rw [q, upd_same] at hf; cases hf
    refine ⟨_, rfl, p, _, dx, _, rfl, e2, C.cl, C.nf, (by show 2 < 1000; decide), (by show 0 ≤ sizeLine; decide), fun i hi => ?_⟩
    have S4 := S3.mut (o := .ins (DK K) dx (putF "own_files" (.ref f) (putF "own_synced" (.ref sy) [("own_power", .non)]))) h0
    have i0 := S4.free hi
    have S5 := S4.trans (Same.new (o := .lst []) hi)
    have e3 := Same.new (o := .lst []) hi p _ upd_same
    have nip : i ≠ p := fun q => by rw [q, upd_same] at hi; cases hi
    have nfi : f ≠ i := fun q => by rw [← q, upd_ne nfp, upd_same] at hi; cases hi
    refine ⟨_, rfl, p, _, dx, _, rfl, e3, C.cl, C.ni, (by show 3 < 1000; decide), k _ ⟨S5.mut h0, dx, sy, f, i, [], [], upd_same, ?_, .inl ⟨rfl, rfl⟩, ?_, rfl, h0, f0, i0⟩⟩
    · rw [upd_ne nfp, upd_ne nfi, upd_ne nfp, upd_same]
    · rw [upd_ne nip, upd_same]
def spSpend (K : PySem.W.Frag) : Sp := fun vs H Q _ => ∃ (p dx sy fi i : Addr), vs = [.ref p] ∧ H p = some (.ins (DK K) dx (fsD sy fi i)) ∧ Q .non H
abbrev N_Disk_spend : List Str := ["self"]
theorem sc_Disk_spend : FnScope N_Disk_spend ["self"] (defScope s_Disk_spend) := ⟨rfl, rfl, rfl, by decide +kernel, rfl, by decide +kernel, by decide +kernel⟩
theorem ok_spend (D : FunD K "spend" "Disk.spend" (defArgs s_Disk_spend) (defBody s_Disk_spend) (defScope s_Disk_spend) [] [] f fd) (F : Nms mg) (C : DkC K) : FnOk P w K mg base CX0 1 f fd ["self"] (spSpend K) := by
  refine D.ok sc_Disk_spend (fun vs H Q E h => ?_) (fun cdv A outer s H vs Q E hr h => ?_)
  · obtain ⟨p, _, _, _, _, rfl, _⟩ := h
    rfl
  · obtain ⟨p, dx, sy, fi, i, rfl, hp, k⟩ := h
    refine ⟨_, PSs.nox ((pss_cons (ps_if (pt_cmpR op_isN (Kx.pe_fld (K := K) (pv 0) rfl) pe_non (nomark _)) (pss_one (ps_retN)) pss_nil)
  pss_never)), ?_⟩
    exact ⟨_, rfl, p, _, dx, _, _, rfl, hp, C.cl, C.np, rfl, rfl, _, rfl, k⟩
def spWrite (K : PySem.W.Frag) : Sp := fun vs H Q _ => ∃ (p : Addr) (H0 : Hp) (txt s : Str) (it : Nat), vs = [.ref p, .str "log", .str s] ∧ Dk K H0 H p txt it ∧ txt.length + s.length ≤ 100000 ∧ it + s.length ≤ 100000 ∧ ∀ H', Dk K H0 H' p (txt ++ s) (it + s.length) → Q .non H'
abbrev N_Disk_write_to : List Str := ["self", "file", "text", "sign"]
theorem sc_Disk_write_to : FnScope N_Disk_write_to ["self", "file", "text"] (defScope s_Disk_write_to) := ⟨rfl, rfl, rfl, by decide +kernel, rfl, by decide +kernel, by decide +kernel⟩
theorem ok_write (D : FunD K "write_to" "Disk.write_to" (defArgs s_Disk_write_to) (defBody s_Disk_write_to) (defScope s_Disk_write_to) [] [] f fd) (F : Nms mg) (C : DkC K) (c_with_item : Cal P w K mg base CX0 1 "with_item" spWith)
    (m_Disk_spend : CalM P w K mg base CX0 1 (DK K) "spend" (spSpend K)) : FnOk P w K mg base CX0 2 f fd ["self", "file", "text"] (spWrite K) := by
  refine D.ok sc_Disk_write_to (fun vs H Q E h => ?_) (fun cdv A outer s H vs Q E hr h => ?_)
  · obtain ⟨p, _, _, _, _, rfl, _⟩ := h
    rfl
  · obtain ⟨p, H0, txt, z, it, rfl, hD, hl, hi, k⟩ := h
    refine ⟨_, PSs.nox ((pss_one (ps_for PassesOwn.never rfl (pi_str (pv 2)) (pg_name (i := 3) sc_Disk_write_to.nd rfl (Or.inl rfl)) (pss_cons (ps_expr (Lw.pe_m0 m_Disk_spend hr (by omega) (pv 0)))
  (pss_cons (ps_expr (pe_bm PySem.F.plainAttrs_list PySem.F.slot_list_append PySem.F.type_list_append mt_append (Kx.pe_fld (K := K) (pv 0) rfl) (pa_cons (pe_tup (pa_cons pe_str (pa_cons (pv 1) (pa_cons (pv 3) pa_nil)))) pa_nil)))
  (pss_one (ps_expr (Lw.pe_c c_with_item hr (by omega) (by rfl) (pa_cons (Kx.pe_fld (K := K) (pv 0) rfl) (pa_cons (pe_tup (pa_cons pe_str (pa_cons (pv 1) (pa_cons (pv 3) pa_nil)))) pa_nil)))))))))), ?_⟩
    obtain ⟨sm, dx, sy, f, i, kvs, its, hp, hf, hk, hi2, hil, p0, f0, i0⟩ := hD
    have hc := TL.len_tl z
    refine ⟨_, rfl, _, rfl, ?_⟩
    refine for_it walk_str (fun n σ H' => Same H0 H' ∧ (∃ kvs its, H' p = some (.ins (DK K) dx (fsD sy f i)) ∧ H' f = some (.dK kvs) ∧ Kvt kvs (txt ++ Lg.mk ((TL.tl z).take n)) ∧ H' i = some (.lst its) ∧ its.length = it + n) ∧ ∃ v, σ = [some (.ref p), some (.str "log"), some (.str z), v])
      ⟨sm, ⟨kvs, its, hp, hf, ?_, hi2, hil⟩, none, rfl⟩ (fun _ _ _ _ _ => trivial) ?_ ?_
    · have e : txt ++ Lg.mk ((TL.tl z).take 0) = txt := TL.ext_tl (by rw [TL.tl_append, Lg.tl_mk', List.take_zero, List.append_nil])
      rw [e]
      exact hk
    · rintro n x σ H4 H5 hn ⟨s4, ⟨kvs, its, hp, hf, hk, hi2, hil⟩, v, rfl⟩ ⟨rfl, c, hci, rfl⟩
      have hci' : (TL.tl z)[n]? = some c := by
        rw [← hci]
        simp [TL.tl]
      have hn2 : n < z.length := hn
      refine ⟨_, rfl, p, dx, _, rfl, hp, rfl, p, dx, sy, f, i, rfl, hp, ?_⟩
      refine ⟨_, rfl, p, _, dx, _, _, rfl, hp, C.cl, C.ni, rfl, .inl ⟨rfl, _, SqL.of hi2⟩, _, rfl, _, rfl, (by show 3 ≤ sizeLine; decide), fun b hb => ⟨i, its, _, rfl, rfl, Same.new hb _ _ hi2, by rw [sizeLine_eq]; omega, ?_⟩⟩
      obtain ⟨q1, q2, q3, q4⟩ := dk_put (o1 := .tup [.str "put", .str "log", .str ⟨#[c]⟩]) (its' := its ++ [.ref b]) hp hf hi2 s4 p0 f0 i0 hb
      refine ⟨_, rfl, p, _, dx, _, _, rfl, q1, C.cl, C.nf, rfl, _, rfl, _, rfl, (by show 3 ≤ sizeLine; decide), fun b2 hb2 => ?_⟩
      refine ⟨f, b2, kvs, _, rfl, Same.new hb2 _ _ q2, hk, ?_, .inl ⟨_, upd_same, (by show 1 ≤ _; decide), ?_⟩⟩
      · rw [Lg.len_append, TL.len_tl (Lg.mk _), Lg.tl_mk', List.length_take]
        omega
      · have nfb : f ≠ b2 := ne_of_none q2 hb2
        have nfp : f ≠ p := fun q => by rw [q, q1] at q2; cases q2
        have nfi : f ≠ i := fun q => by rw [q, q3] at q2; cases q2
        refine ⟨(q4.trans (Same.new hb2)).mut f0, ⟨_, its ++ [.ref b], ?_, upd_same, .inr ?_, ?_, ?_⟩, _, rfl⟩
        · rw [upd_ne (Ne.symm nfp)]
          exact Same.new hb2 _ _ q1
        · have e : txt ++ Lg.mk ((TL.tl z).take n) ++ ⟨#[c]⟩ = txt ++ Lg.mk ((TL.tl z).take (n + 1)) := TL.ext_tl (by
            rw [TL.tl_append, TL.tl_append, TL.tl_append, Lg.tl_mk', Lg.tl_mk', Lg.take_more hci', List.append_assoc])
          rw [e]
        · rw [upd_ne (Ne.symm nfi)]
          exact Same.new hb2 _ _ q3
        · rw [List.length_append, hil]
          rfl
    · rintro σ H4 ⟨s4, ⟨kvs, its, hp, hf, hk, hi2, hil⟩, v, rfl⟩
      refine k _ ⟨s4, dx, sy, f, i, kvs, its, hp, hf, ?_, hi2, hil, p0, f0, i0⟩
      have e : Lg.mk ((TL.tl z).take z.cps.size) = z := TL.ext_tl (by
        rw [Lg.tl_mk', List.take_of_length_le]
        rw [← hc]
        exact Nat.le_refl _)
      rw [← e]
      exact hk
def spTrim (K : PySem.W.Frag) : Sp := fun vs H Q _ => ∃ (p : Addr) (H0 : Hp) (txt : Str) (n : Int) (it : Nat), vs = [.ref p, .str "log", .int n] ∧ Dk K H0 H p txt it ∧ txt.length ≤ 100000 ∧ it ≤ 100000 ∧ ∀ H', Dk K H0 H' p (cutS txt none (some n)) (it + 1) → Q .non H'
abbrev N_Disk_trim : List Str := ["self", "file", "signs"]
theorem sc_Disk_trim : FnScope N_Disk_trim ["self", "file", "signs"] (defScope s_Disk_trim) := ⟨rfl, rfl, rfl, by decide +kernel, rfl, by decide +kernel, by decide +kernel⟩
theorem ok_trim (D : FunD K "trim" "Disk.trim" (defArgs s_Disk_trim) (defBody s_Disk_trim) (defScope s_Disk_trim) [] [] f fd) (F : Nms mg) (C : DkC K) (c_with_item : Cal P w K mg base CX0 1 "with_item" spWith)
    (m_Disk_spend : CalM P w K mg base CX0 1 (DK K) "spend" (spSpend K)) : FnOk P w K mg base CX0 2 f fd ["self", "file", "signs"] (spTrim K) := by
  refine D.ok sc_Disk_trim (fun vs H Q E h => ?_) (fun cdv A outer s H vs Q E hr h => ?_)
  · obtain ⟨p, _, _, _, _, rfl, _⟩ := h
    rfl
  · obtain ⟨p, H0, txt, n, it, rfl, hD, hl, hi, k⟩ := h
    refine ⟨_, PSs.nox ((pss_cons (ps_expr (Lw.pe_m0 m_Disk_spend hr (by omega) (pv 0)))
  (pss_cons (ps_expr (pe_bm PySem.F.plainAttrs_list PySem.F.slot_list_append PySem.F.type_list_append mt_append (Kx.pe_fld (K := K) (pv 0) rfl) (pa_cons (pe_tup (pa_cons pe_str (pa_cons (pv 1) (pa_cons (pv 2) pa_nil)))) pa_nil)))
  (pss_one (ps_expr (Lw.pe_c c_with_item hr (by omega) (by rfl) (pa_cons (Kx.pe_fld (K := K) (pv 0) rfl) (pa_cons (pe_tup (pa_cons pe_str (pa_cons (pv 1) (pa_cons (pv 2) pa_nil)))) pa_nil)))))))), ?_⟩
    obtain ⟨s4, dx, sy, f, i, kvs, its, hp, hf, hk, hi2, hil, p0, f0, i0⟩ := hD
    refine ⟨_, rfl, p, dx, _, rfl, hp, rfl, p, dx, sy, f, i, rfl, hp, ?_⟩
    refine ⟨_, rfl, p, _, dx, _, _, rfl, hp, C.cl, C.ni, rfl, .inl ⟨rfl, _, SqL.of hi2⟩, _, rfl, _, rfl, (by show 3 ≤ sizeLine; decide), fun b hb => ⟨i, its, _, rfl, rfl, Same.new hb _ _ hi2, by rw [sizeLine_eq]; omega, ?_⟩⟩
    obtain ⟨q1, q2, q3, q4⟩ := dk_put (o1 := .tup [.str "trim", .str "log", .int n]) (its' := its ++ [.ref b]) hp hf hi2 s4 p0 f0 i0 hb
    refine ⟨_, rfl, p, _, dx, _, _, rfl, q1, C.cl, C.nf, rfl, _, rfl, _, rfl, (by show 3 ≤ sizeLine; decide), fun b2 hb2 => ?_⟩
    refine ⟨f, b2, kvs, _, rfl, Same.new hb2 _ _ q2, hk, by omega, .inr ⟨_, upd_same, ?_⟩⟩
    have nfb : f ≠ b2 := ne_of_none q2 hb2
    have nfp : f ≠ p := fun q => by rw [q, q1] at q2; cases q2
    have nfi : f ≠ i := fun q => by rw [q, q3] at q2; cases q2
    refine k _ ⟨(q4.trans (Same.new hb2)).mut f0, dx, sy, f, i, _, its ++ [.ref b], ?_, upd_same, .inr rfl, ?_, ?_, p0, f0, i0⟩
    · rw [upd_ne (Ne.symm nfp)]
      exact Same.new hb2 _ _ q1
    · rw [upd_ne (Ne.symm nfi)]
      exact Same.new hb2 _ _ q3
    · rw [List.length_append, hil]
      rfl
def spSync (K : PySem.W.Frag) : Sp := fun vs H Q _ => ∃ (p : Addr) (H0 : Hp) (txt : Str) (it : Nat), vs = [.ref p] ∧ Dk K H0 H p txt it ∧ ∀ H', Dk K H0 H' p txt 0 → Q .non H'
abbrev N_Disk_sync : List Str := ["self", "file"]
theorem sc_Disk_sync : FnScope N_Disk_sync ["self"] (defScope s_Disk_sync) := ⟨rfl, rfl, rfl, by decide +kernel, rfl, by decide +kernel, by decide +kernel⟩
theorem ok_sync (D : FunD K "sync" "Disk.sync" (defArgs s_Disk_sync) (defBody s_Disk_sync) (defScope s_Disk_sync) [] [] f fd) (F : Nms mg) (C : DkC K)
    (m_Disk_spend : CalM P w K mg base CX0 1 (DK K) "spend" (spSpend K)) : FnOk P w K mg base CX0 2 f fd ["self"] (spSync K) := by
  refine D.ok sc_Disk_sync (fun vs H Q E h => ?_) (fun cdv A outer s H vs Q E hr h => ?_)
  · obtain ⟨p, _, _, _, rfl, _⟩ := h
    rfl
  · obtain ⟨p, H0, txt, it, rfl, hD, k⟩ := h
    refine ⟨_, PSs.nox ((pss_cons (ps_expr (Lw.pe_m0 m_Disk_spend hr (by omega) (pv 0)))
  (pss_cons (ps_fld (pv 0) (pe_lock (pe_dc (own := [("file", 1)]) rfl sc_Disk_sync.nd (pi_keys (Kx.pe_fld (K := K) (pv 0) rfl)) (blkOk_by (own := [("file", 1)]) (N := N_Disk_sync) (sc := defScope s_Disk_sync) (by decide +kernel)) (fun _ _ _ _ _ => (pg_name (i := 1) sc_Disk_sync.nd rfl (Or.inl rfl))) (fun _ _ _ _ _ => pts_nil) (fun _ _ _ _ _ => (pv 1)) (fun _ _ _ _ _ => (pe_dget (hu_of hr) (Kx.pe_fld (K := K) (pv 0) rfl) (pv 1) (fun _ _ => rfl))))) rfl)
  (pss_one (ps_fld (pv 0) (pe_lst pa_nil) rfl))))), ?_⟩
    obtain ⟨s4, dx, sy, f, i, kvs, its, hp, hf, hk, hi2, hil, p0, f0, i0⟩ := hD
    refine ⟨_, rfl, p, dx, _, rfl, hp, rfl, p, dx, sy, f, i, rfl, hp, ?_⟩
    have npf : p ≠ f := fun q => by rw [q, hf] at hp; cases hp
    refine ⟨f, .dK kvs, hf, True.intro, fun od => ?_⟩
    have ep := (upd_ne (H := H) (o := .frz od (.dK kvs)) npf).trans hp
    refine ⟨_, rfl, p, _, dx, _, _, rfl, ep, C.cl, C.nf, rfl, f, od, rfl, .inl ⟨kvs, upd_same, fun D hD => ?_⟩⟩
    have nfD : f ≠ D := ne_of_none upd_same hD
    have npD : p ≠ D := ne_of_none ep hD
    refine dc_it walk_keys (fun n H' => (∀ b o, b ≠ D → b ≠ f → H b = some o → H' b = some o) ∧ H' f = some (.frz od (.dK kvs)) ∧ ∃ ks : List (Key × V), ks.length ≤ n ∧ H' D = some (.dK ks)) ⟨fun b o hb hbf e => by rw [upd_ne hb, upd_ne hbf]; exact e, by rw [upd_ne nfD, upd_same], [], Nat.le_refl _, upd_same⟩ (fun _ _ _ h => h.2.1) ?_ ?_
    · rintro n x H4 H5 hn ⟨sk, ef, ks, hks, eD⟩ ⟨rfl, key, v, hkv, rfl⟩
      have hv : valV kvs key = some v ∧ kvs.length = 1 := by
        rcases hk with ⟨rfl, _⟩ | rfl
        · simp at hkv
        · have : n = 0 := by simp at hn; exact hn
          subst this
          simp at hkv
          obtain ⟨rfl, rfl⟩ := hkv
          exact ⟨rfl, rfl⟩
      have ep5 := sk p _ npD npf hp
      refine ⟨rfl, _, rfl, _, rfl, p, _, dx, _, _, rfl, ep5, C.cl, C.nf, rfl, _, rfl, f, v, rfl, .inl ⟨kvs, key, .inr ⟨od, ef⟩, rfl, hv.1.symm⟩, ks, key, rfl, eD, ?_, fun b o hb hbf e => ?_, ?_, putK ks key v, ?_, upd_same⟩
      · have := hv.2
        rw [sizeLine_eq]
        omega
      · rw [upd_ne hb]
        exact sk b o hb hbf e
      · rw [upd_ne nfD]
        exact ef
      · have hkn : ∀ (l : List (Key × V)), (putK l key v).length ≤ l.length + 1 := fun l => by
          unfold putK
          split <;> simp
        have := hkn ks
        omega
    · rintro H4 ⟨sk, ef, ks, _, eD⟩
      refine ⟨ef, ?_⟩
      have ep4 := sk p _ npD npf hp
      have Df : D ≠ f := Ne.symm nfD
      have hD0 : H D = none := by rw [upd_ne Df] at hD; exact hD
      have S4 : Same H0 (upd H4 f (.dK kvs)) := fun b o e => by
        have nbf : b ≠ f := ne_of_none e f0
        have e1 := s4 b o e
        rw [upd_ne nbf]
        exact sk b o (ne_of_none e1 hD0) nbf e1
      have e5 : upd H4 f (.dK kvs) p = some (.ins (DK K) dx (fsD sy f i)) := by rw [upd_ne npf]; exact ep4
      refine ⟨_, rfl, p, _, dx, _, rfl, e5, C.cl, C.ns, (by show 4 < 1000; decide), (by show 0 ≤ sizeLine; decide), fun i2 hi3 => ?_⟩
      have e6 := Same.new (o := .lst []) hi3 p _ upd_same
      have S5 := S4.mut (o := .ins (DK K) dx (putF "own_synced" (.ref D) (fsD sy f i))) p0
      have i20 := S5.free hi3
      have nfp : f ≠ p := Ne.symm npf
      have nip : i2 ≠ p := fun q => by rw [q, upd_same] at hi3; cases hi3
      have nif : f ≠ i2 := ne_of_none (by rw [upd_ne nfp, upd_same]) hi3
      refine ⟨_, rfl, p, _, dx, _, rfl, e6, C.cl, C.ni, (by show 4 < 1000; decide), k _ ⟨(S5.trans (Same.new hi3)).mut p0, dx, D, f, i2, kvs, [], upd_same, ?_, hk, ?_, rfl, p0, f0, i20⟩⟩
      · rw [upd_ne nfp, upd_ne nif, upd_ne nfp, upd_same]
      · rw [upd_ne nip, upd_same]
def spRead (K : PySem.W.Frag) : Sp := fun vs H Q _ => ∃ (p : Addr) (H0 : Hp) (txt : Str) (it : Nat), vs = [.ref p, .str "log"] ∧ Dk K H0 H p txt it ∧ Q (.str txt) H
abbrev N_Disk_read_from : List Str := ["self", "file"]
theorem sc_Disk_read_from : FnScope N_Disk_read_from ["self", "file"] (defScope s_Disk_read_from) := ⟨rfl, rfl, rfl, by decide +kernel, rfl, by decide +kernel, by decide +kernel⟩
theorem ok_read (D : FunD K "read_from" "Disk.read_from" (defArgs s_Disk_read_from) (defBody s_Disk_read_from) (defScope s_Disk_read_from) [] [] f fd) (F : Nms mg) (C : DkC K) : FnOk P w K mg base CX0 1 f fd ["self", "file"] (spRead K) := by
  refine D.ok sc_Disk_read_from (fun vs H Q E h => ?_) (fun cdv A outer s H vs Q E hr h => ?_)
  · obtain ⟨p, _, _, _, rfl, _⟩ := h
    rfl
  · obtain ⟨p, H0, txt, it, rfl, hD, k⟩ := h
    refine ⟨_, PSs.nox ((pss_one (ps_ret (pe_dget2 (hu_of hr) (Kx.pe_fld (K := K) (pv 0) rfl) (pv 1) pe_str ⟨rfl, rfl, rfl, rfl⟩)))), ?_⟩
    obtain ⟨s4, dx, sy, f, i, kvs, its, hp, hf, hk, hi2, hil, p0, f0, i0⟩ := hD
    refine ⟨_, rfl, p, _, dx, _, _, rfl, hp, C.cl, C.nf, rfl, f, rfl, .inl ⟨kvs, .inl hf⟩, _, rfl, valV kvs (.inr "log"), DGet.k (k := .inr "log") hf, ?_⟩
    have kget : (valV kvs (.inr "log")).getD (V.str "") = V.str txt := by
      rcases hk with ⟨rfl, rfl⟩ | rfl
      · rfl
      · rfl
    rw [kget]
    exact k
def spWait (K : PySem.W.Frag) : Sp := fun vs H Q _ => ∃ (p : Addr) (H0 : Hp) (txt : Str) (it : Nat), vs = [.ref p] ∧ Dk K H0 H p txt it ∧ Q (.int (it : Nat)) H
abbrev N_Disk_waiting : List Str := ["self"]
theorem sc_Disk_waiting : FnScope N_Disk_waiting ["self"] (defScope s_Disk_waiting) := ⟨rfl, rfl, rfl, by decide +kernel, rfl, by decide +kernel, by decide +kernel⟩
theorem ok_wait (D : FunD K "waiting" "Disk.waiting" (defArgs s_Disk_waiting) (defBody s_Disk_waiting) (defScope s_Disk_waiting) [] [] f fd) (F : Nms mg) (C : DkC K) : FnOk P w K mg base CX0 1 f fd ["self"] (spWait K) := by
  refine D.ok sc_Disk_waiting (fun vs H Q E h => ?_) (fun cdv A outer s H vs Q E hr h => ?_)
  · obtain ⟨p, _, _, _, rfl, _⟩ := h
    rfl
  · obtain ⟨p, H0, txt, it, rfl, hD, k⟩ := h
    refine ⟨_, PSs.nox ((pss_one (ps_ret (pe_callB (Kx.call_len_seq (K := K)) (by rfl) F.«len» PySem.boot_len (pa_cons (Kx.pe_fld (K := K) (pv 0) rfl) pa_nil))))), ?_⟩
    obtain ⟨s4, dx, sy, f, i, kvs, its, hp, hf, hk, hi2, hil, p0, f0, i0⟩ := hD
    refine ⟨_, rfl, p, _, dx, _, _, rfl, hp, C.cl, C.ni, rfl, i, _, rfl, .inl (SqL.of hi2), ?_⟩
    rw [hil]
    exact k
end
end K83

set_option Elab.async false
set_option linter.all false
set_option maxRecDepth 100000
set_option maxHeartbeats 4000000
namespace K83
open PySem PySem.Spec PyProof.Rows L2 Lw
/-! ### the disk within a larger heap -/
section
variable {K : PySem.W.Frag} {H0 H H' : Hp} {p b : Addr} {txt : Str} {it : Nat} {o o' : HO}
theorem Dk.same' (d : Dk K H0 H p txt it) (s : Same H H') : Dk K H0 H' p txt it := by
  obtain ⟨sm, dx, sy, f, i, kvs, its, hp, hf, hk, hi, hl, p0, f0, i0⟩ := d
  exact ⟨sm.trans s, dx, sy, f, i, kvs, its, s _ _ hp, s _ _ hf, hk, s _ _ hi, hl, p0, f0, i0⟩
/-- a new thing beside it -/
theorem Dk.new (d : Dk K H0 H p txt it) (hb : H b = none) : Dk K (upd H0 b o) (upd H b o) p txt it := by
  obtain ⟨sm, dx, sy, f, i, kvs, its, hp, hf, hk, hi, hl, p0, f0, i0⟩ := d
  have n := Same.new (o := o) hb
  refine ⟨fun c u e => ?_, dx, sy, f, i, kvs, its, n _ _ hp, n _ _ hf, hk, n _ _ hi, hl, ?_, ?_, ?_⟩
  · by_cases h : c = b
    · subst h
      rw [upd_same] at e ⊢
      exact e
    · rw [upd_ne h] at e ⊢
      exact sm _ _ e
  · rw [upd_ne (ne_of_none hp hb)]
    exact p0
  · rw [upd_ne (ne_of_none hf hb)]
    exact f0
  · rw [upd_ne (ne_of_none hi hb)]
    exact i0
/-- a thing beside it changed -/
theorem Dk.set (d : Dk K H0 H p txt it) (hb : H0 b = some o') : Dk K (upd H0 b o) (upd H b o) p txt it := by
  obtain ⟨sm, dx, sy, f, i, kvs, its, hp, hf, hk, hi, hl, p0, f0, i0⟩ := d
  have np : p ≠ b := Ne.symm (ne_of_none hb p0)
  have nf : f ≠ b := Ne.symm (ne_of_none hb f0)
  have ni : i ≠ b := Ne.symm (ne_of_none hb i0)
  refine ⟨fun c u e => ?_, dx, sy, f, i, kvs, its, by rw [upd_ne np]; exact hp, by rw [upd_ne nf]; exact hf, hk, by rw [upd_ne ni]; exact hi, hl, by rw [upd_ne np]; exact p0, by rw [upd_ne nf]; exact f0, by rw [upd_ne ni]; exact i0⟩
  by_cases h : c = b
  · subst h
    rw [upd_same] at e ⊢
    exact e
  · rw [upd_ne h] at e ⊢
    exact sm _ _ e
/-- behind a draw -/
theorem Dk.mv {a : Addr} {s : HO} (d : Dk K H0 H p txt it) (ha : H0 a = some s) (m : Mv a H H') : ∃ s', H' a = some s' ∧ Dk K (upd H0 a s') H' p txt it := by
  obtain ⟨sm, dx, sy, f, i, kvs, its, hp, hf, hk, hi, hl, p0, f0, i0⟩ := d
  obtain ⟨s0, s1, s2, e, _⟩ := m.src
  have np : p ≠ a := Ne.symm (ne_of_none ha p0)
  have nf : f ≠ a := Ne.symm (ne_of_none ha f0)
  have ni : i ≠ a := Ne.symm (ne_of_none ha i0)
  refine ⟨_, e, fun c u ec => ?_, dx, sy, f, i, kvs, its, m.keep _ _ np hp, m.keep _ _ nf hf, hk, m.keep _ _ ni hi, hl, by rw [upd_ne np]; exact p0, by rw [upd_ne nf]; exact f0, by rw [upd_ne ni]; exact i0⟩
  by_cases h : c = a
  · subst h
    rw [upd_same] at ec
    rw [e]
    exact ec
  · rw [upd_ne h] at ec
    exact m.keep _ _ h (sm _ _ ec)
/-- a tuple that stands beside it -/
theorem Dk.tup {xs : List V} (d : Dk K H0 H p txt it) (e : H b = some (.tup xs)) : Dk K (upd H0 b (.tup xs)) H p txt it ∧ Same H0 (upd H0 b (.tup xs)) := by
  obtain ⟨sm, dx, sy, f, i, kvs, its, hp, hf, hk, hi, hl, p0, f0, i0⟩ := d
  have np : p ≠ b := fun q => by rw [q, e] at hp; cases hp
  have nf : f ≠ b := fun q => by rw [q, e] at hf; cases hf
  have ni : i ≠ b := fun q => by rw [q, e] at hi; cases hi
  refine ⟨⟨fun c u ec => ?_, dx, sy, f, i, kvs, its, hp, hf, hk, hi, hl, by rw [upd_ne np]; exact p0, by rw [upd_ne nf]; exact f0, by rw [upd_ne ni]; exact i0⟩, fun c u ec => ?_⟩
  · by_cases h : c = b
    · subst h
      rw [upd_same] at ec
      rw [e]
      exact ec
    · rw [upd_ne h] at ec
      exact sm _ _ ec
  · by_cases h : c = b
    · subst h
      rw [upd_same]
      exact e.symm.trans (sm _ _ ec)
    · rw [upd_ne h]
      exact ec
theorem _root_.L2.Same.up {H1 H2 : Hp} {c : Addr} {u : HO} (s : Same H1 H2) : Same (upd H1 c u) (upd H2 c u) := fun e v ec => by
  by_cases h : e = c
  · subst h
    rw [upd_same] at ec ⊢
    exact ec
  · rw [upd_ne h] at ec ⊢
    exact s _ _ ec
/-- less of what is beside it -/
theorem Dk.less {H1 : Hp} (d : Dk K H0 H p txt it) (s : Same H1 H0) : Dk K H1 H p txt it := by
  obtain ⟨sm, dx, sy, f, i, kvs, its, hp, hf, hk, hi, hl, p0, f0, i0⟩ := d
  exact ⟨s.trans sm, dx, sy, f, i, kvs, its, hp, hf, hk, hi, hl, s.free p0, s.free f0, s.free i0⟩
end
abbrev SK (K : PySem.W.Frag) : Addr := He.ga K "Store"
structure StC (K : PySem.W.Frag) : Prop where
  cl : Cls K (SK K)
  nd : NoAttr K (SK K) "own_disk"
  nr : NoAttr K (SK K) "own_rows"
def fsS (p r : Addr) : List (Str × V) := [("own_disk", .ref p), ("own_rows", .ref r)]
def okInt : V → Prop := fun y => ∃ n : Int, y = .int n ∧ 0 ≤ n ∧ n < 10 ^ 10
/-- the text read as a log: ls, last its parts by line feeds, zs the rows that are right -/
structure Rd (t : Str) (zs ls : List Str) (last : Str) : Prop where
  sp : Txt.split t "\n" = ls ++ [last]
  few : ls.length ≤ 2000
  len : ∀ l ∈ ls, l.length ≤ 100000
  le : zs.length ≤ ls.length
  is : ∀ (i : Nat) z, zs[i]? = some z → ∃ l, ls[i]? = some l ∧ Lg.Is ((i + 1 : Nat) : Int) l z
  no : ∀ l, ls[zs.length]? = some l → ∀ z, ¬ Lg.Is ((zs.length + 1 : Nat) : Int) l z
section
variable {P : Program} {w : World} {K : PySem.W.Frag} {mg : Str → Option Value} {base : Heap} {f : Addr} {fd : FuncData} {HE BK TM BD : Addr}
abbrev N_BadDisk___init__ : List Str := ["self", "number"]
theorem sc_BadDisk___init__ : FnScope N_BadDisk___init__ ["self", "number"] (defScope s_BadDisk___init__) := ⟨rfl, rfl, rfl, by decide +kernel, rfl, by decide +kernel, by decide +kernel⟩
theorem ok_BadDisk (D : FunD K "__init__" "BadDisk.__init__" (defArgs s_BadDisk___init__) (defBody s_BadDisk___init__) (defScope s_BadDisk___init__) [] [] f fd) (F : Nms mg) (g_HighError : mg "HighError" = some (.ref HE)) (b_HighError : Ecom.BasC K HE) (T : OexC K BK) (no : PySem.W.findIn K (.ref BK) "number" = some none) :
    FnOk P w K mg base CX0 1 f fd ["self", "number"] (spErr1 BK "number" okInt) := by
  refine D.ok sc_BadDisk___init__ (fun vs H Q E h => ?_) (fun cdv A outer s H vs Q E hr h => ?_)
  · obtain ⟨a, y, rfl, _⟩ := h
    rfl
  · obtain ⟨a, y, rfl, ⟨n, rfl, h0, h1⟩, ha, k⟩ := h
    refine ⟨_, PSs.nox ((pss_cons (ps_expr (Ecom.pe_binit (by rfl) g_HighError b_HighError (pa_cons (pv 0) (pa_cons (pe_op op_add_str pe_str (pe_callTy call_str_int (by rfl) F.«str» (by decide +kernel) (pa_cons (pv 1) pa_nil))) pa_nil))))
  (pss_one (ps_ost (pv 0) (pv 1))))), ?_⟩
    have l1 : (Str.ofString (toString n)).length ≤ 10 := Lg.num_len h0 h1
    have e : ("disk: " : Str).length = 6 := by decide +kernel
    refine ⟨_, rfl, _, rfl, _, rfl, Lg.log2_small h0 h1, _, _, rfl, rfl, small_line (by rw [e]; omega), a, BK, _, rfl, (by show 1 ≤ 1000; decide), T, ha, ?_⟩
    exact ⟨_, rfl, _, rfl, a, BK, rfl, T, no, .inl ⟨ha, k⟩⟩
/-- Store(disk): a spoilt log is refused; a cut one is cut back -/
def spStInit (K : PySem.W.Frag) (BK : Addr) : Sp := fun vs H Q E => ∃ (st p dx : Addr) (H0 : Hp) (txt : Str) (it : Nat) (zs ls : List Str) (last : Str), vs = [.ref st, .ref p] ∧ H0 st = some (.ins (SK K) dx []) ∧ Dk K H0 H p txt it ∧ Rd txt zs ls last ∧ txt.length ≤ 100000 ∧ it ≤ 1000 ∧
  (zs.length < ls.length → ∀ d H', Dk K H0 H' p txt it → H' d = some (.xd [("number", .int ((zs.length : Int) + 1))]) → E (.ref BK) (some d) H') ∧
  (¬ zs.length < ls.length → ∀ H' r, H0 r = none → Dk K (upd (upd H0 r (.lst (zs.map V.str))) st (.ins (SK K) dx (fsS p r))) H' p (if last = "" then txt else cutS txt none (some (Txt.rfind txt "\n" + 1))) (if last = "" then it else 0) → Q .non H')
abbrev N_Store___init__ : List Str := ["self", "disk", "text", "rows", "state"]
theorem sc_Store___init__ : FnScope N_Store___init__ ["self", "disk"] (defScope s_Store___init__) := ⟨rfl, rfl, rfl, by decide +kernel, rfl, by decide +kernel, by decide +kernel⟩
theorem ok_st_init (D : FunD K "__init__" "Store.__init__" (defArgs s_Store___init__) (defBody s_Store___init__) (defScope s_Store___init__) [] [] f fd) (F : Nms mg) (C : StC K) (x_recover_log : Cal P w K mg base (L2N.CX P w) 6 "recover_log" (spRecover TM))
    (r_BadDisk : Err P w K mg base 1 "BadDisk" BK (spErr1 BK "number" okInt)) (m_Disk_read_from : CalM P w K mg base CX0 1 (DK K) "read_from" (spRead K)) (m_Disk_trim : CalM P w K mg base CX0 2 (DK K) "trim" (spTrim K)) (m_Disk_sync : CalM P w K mg base CX0 2 (DK K) "sync" (spSync K)) :
    FnOk P w K mg base (L2N.CX P w) 7 f fd ["self", "disk"] (spStInit K BK) := by
  refine D.ok sc_Store___init__ (fun vs H Q E h => ?_) (fun cdv A outer s H vs Q E hr h => ?_)
  · obtain ⟨st, p, _, _, _, _, _, _, _, rfl, _⟩ := h
    rfl
  · obtain ⟨st, p, dx, H0, txt, it, zs, ls, last, rfl, hst, hD, hR, ht, hi, k1, k2⟩ := h
    refine ⟨_, ((pss_cons (ps_set (i := 2) sc_Store___init__.nd rfl (Or.inl rfl) (Lw.pe_m m_Disk_read_from hr (by omega) (pv 1) (pa_cons pe_str pa_nil)))
  (pss_cons (ps_asg (Lw.pe_cx x_recover_log hr (by omega) (by rfl) (L2N.takes_of rfl rfl rfl rfl) (pa_cons (pv 2) pa_nil)) (Kx.pg_tup (K := K) (by rfl) (pgs_cons (pg_name (i := 3) sc_Store___init__.nd rfl (Or.inl rfl)) (pgs_cons (pg_name (i := 4) sc_Store___init__.nd rfl (Or.inl rfl)) pgs_nil))))
  (pss_cons (ps_if (pt_cmpR op_eq (pe_ix (Kx.ix_tup (K := K)) (pv 4) pe_int (fun _ _ => rfl)) pe_str (nomark _)) (pss_one (L2N.ps_raise rfl (L2N.takes_of rfl rfl rfl rfl) (Lw.pmk r_BadDisk hr (by omega) (by rfl) (pa_cons (pe_ix (Kx.ix_tup (K := K)) (pv 4) pe_int (fun _ _ => rfl)) pa_nil)))) pss_nil)
  (Lw.pss_cut (ps_if (pt_cmpR op_eq (pe_ix (Kx.ix_tup (K := K)) (pv 4) pe_int (fun _ _ => rfl)) pe_str (nomark _)) (pss_cons (ps_expr (Lw.pe_m m_Disk_trim hr (by omega) (pv 1) (pa_cons pe_str (pa_cons (pe_op op_add (pe_bm PySem.F.plainAttrs_str PySem.F.slot_str_rfind PySem.F.type_str_rfind mt_rfind (pv 2) (pa_cons pe_str pa_nil)) pe_int) pa_nil))))
  (pss_one (ps_expr (Lw.pe_m0 m_Disk_sync hr (by omega) (pv 1))))) pss_nil)
  (pss_cons (ps_fld (pv 0) (pv 1) rfl)
  (pss_one (ps_fld (pv 0) (pe_callTy (Kx.call_list_of (K := K)) (by rfl) F.«list» (by decide +kernel) (pa_cons (pv 3) pa_nil)) rfl)))))))), ?_⟩
    obtain ⟨dxd, sy, fi, i, _, _, hp, _⟩ := hD.ex
    have hfew := hR.few
    have hle := hR.le
    refine ⟨_, rfl, p, dxd, _, rfl, hp, rfl, p, H0, txt, it, rfl, hD, ?_⟩
    refine ⟨_, rfl, txt, ls, last, zs, rfl, hR.sp, by omega, fun h => absurd h (by omega), fun _ => ⟨hR.len, hR.le, hR.is, hR.no, fun H1 a b c s1 ea eb ec => ?_⟩⟩
    refine ⟨_, _, rfl, SqT.of ec, rfl, _, _, rfl, _, _, rfl, rfl, ?_⟩
    have d1 := hD.same' s1
    by_cases hsp : zs.length < ls.length
    · have er : recState zs ls last = [.str "spoilt", .int ((zs.length : Int) + 1)] := if_pos hsp
      rw [er] at eb
      refine ⟨_, rfl, b, _, _, _, rfl, rfl, SqT.of eb, rfl, rfl, _, rfl, ?_⟩
      refine ite2 (fun _ => ?_) (fun c => absurd (decide_eq_true rfl) c)
      exact ⟨_, rfl, b, _, _, _, rfl, rfl, SqT.of eb, rfl, mk_err1 ⟨_, rfl, by omega, by omega⟩ fun d H' hd s' e => k1 hsp d H' (d1.same' s') e⟩
    · have hst1 := d1.same _ _ hst
      have nsta : st ≠ a := fun q => by rw [q, ea] at hst1; cases hst1
      obtain ⟨dB, sB⟩ := d1.tup ea
      have hstB : upd H0 a (.tup (zs.map V.str)) st = some (.ins (SK K) dx []) := by rw [upd_ne nsta]; exact hst
      -- behind the log's mending
      have fin : ∀ (σ : L2.St) (H2 : Hp) (txt2 : Str) (it2 : Nat), Dk K (upd H0 a (.tup (zs.map V.str))) H2 p txt2 it2 → txt2 = (if last = "" then txt else cutS txt none (some (Txt.rfind txt "\n" + 1))) → it2 = (if last = "" then it else 0) → ∀ x r, H2 r = none → r ≠ st → x = upd (upd (upd H2 st (.ins (SK K) dx [("own_disk", .ref p)])) r (.lst (zs.map V.str))) st (.ins (SK K) dx (fsS p r)) → Q .non x := by
        rintro σ H2 txt2 it2 d2 rfl rfl x r hr hrs rfl
        have hrB : H0 r = none := (sB.trans d2.same).free hr
        refine k2 hsp _ r hrB (((((d2.set (o := .ins (SK K) dx [("own_disk", .ref p)]) hstB).new (o := .lst (zs.map V.str)) (by rw [upd_ne hrs]; exact hr)).set (o := .ins (SK K) dx (fsS p r)) (by rw [upd_ne (Ne.symm hrs), upd_same])).less ?_))
        intro c u ec
        by_cases h : c = st
        · subst h
          rw [upd_same] at ec ⊢
          exact ec
        · rw [upd_ne h] at ec ⊢
          by_cases h2 : c = r
          · subst h2
            rw [upd_same] at ec ⊢
            exact ec
          · rw [upd_ne h2] at ec ⊢
            rw [upd_ne h]
            exact sB _ _ ec
      have goal : ∀ (H2 : Hp) (txt2 : Str) (it2 : Nat), Dk K (upd H0 a (.tup (zs.map V.str))) H2 p txt2 it2 → txt2 = (if last = "" then txt else cutS txt none (some (Txt.rfind txt "\n" + 1))) → it2 = (if last = "" then it else 0) → ∃ (e1 : H2 st = some (.ins (SK K) dx [])) (e2 : upd H2 st (.ins (SK K) dx [("own_disk", .ref p)]) a = some (.tup (zs.map V.str))), True := by
        intro H2 txt2 it2 d2 _ _
        exact ⟨d2.same _ _ hstB, by rw [upd_ne (Ne.symm nsta)]; exact d2.same _ _ upd_same, trivial⟩
      by_cases hl : last = ""
      · have er : recState zs ls last = [.str "whole"] := by
          unfold recState
          rw [if_neg hsp, if_pos hl]
        rw [er] at eb
        refine ⟨_, rfl, b, _, _, _, rfl, rfl, SqT.of eb, rfl, rfl, _, rfl, ?_⟩
        refine ite2 (fun c => absurd (V.str.inj (of_decide_eq_true c)) (by decide +kernel)) (fun _ => ?_)
        refine ⟨fun σ' H' => σ' = [some (.ref st), some (.ref p), some (.str txt), some (.ref a), some (.ref b)] ∧ H' = H1, ⟨_, rfl, b, _, _, _, rfl, rfl, SqT.of eb, rfl, rfl, _, rfl, ?_⟩, ?_⟩
        · exact ite2 (fun c => absurd (V.str.inj (of_decide_eq_true c)) (by decide +kernel)) (fun _ => ⟨rfl, rfl⟩)
        · rintro _ _ ⟨rfl, rfl⟩
          obtain ⟨e1, e2, _⟩ := goal _ _ _ dB (by rw [if_pos hl]) (by rw [if_pos hl])
          refine ⟨_, rfl, _, rfl, st, _, dx, _, rfl, e1, C.cl, C.nd, (by show 0 < 1000; decide), ?_⟩
          refine ⟨_, rfl, a, _, rfl, .inr (SqT.of e2), fun r hr => ⟨_, rfl, st, _, dx, _, rfl, Same.new hr _ _ upd_same, C.cl, C.nr, (by show 1 < 1000; decide), ?_⟩⟩
          have hrs : r ≠ st := fun q => by rw [q, upd_same] at hr; cases hr
          exact fin [] _ _ _ dB (by rw [if_pos hl]) (by rw [if_pos hl]) _ r (by rw [upd_ne hrs] at hr; exact hr) hrs rfl
      · have er : recState zs ls last = [.str "cut", .int ((zs.length : Int) + 1)] := by
          unfold recState
          rw [if_neg hsp, if_neg hl]
        rw [er] at eb
        refine ⟨_, rfl, b, _, _, _, rfl, rfl, SqT.of eb, rfl, rfl, _, rfl, ?_⟩
        refine ite2 (fun c => absurd (V.str.inj (of_decide_eq_true c)) (by decide +kernel)) (fun _ => ?_)
        refine ⟨fun σ' H' => σ' = [some (.ref st), some (.ref p), some (.str txt), some (.ref a), some (.ref b)] ∧ Dk K (upd H0 a (.tup (zs.map V.str))) H' p (cutS txt none (some (Txt.rfind txt "\n" + 1))) 0, ⟨_, rfl, b, _, _, _, rfl, rfl, SqT.of eb, rfl, rfl, _, rfl, ?_⟩, ?_⟩
        · refine ite2 (fun _ => ?_) (fun c => absurd (decide_eq_true rfl) c)
          have hp1 := s1 _ _ hp
          refine ⟨_, rfl, p, dxd, _, rfl, hp1, rfl, _, rfl, rfl, _, _, rfl, rfl, _, _, rfl, rfl, p, _, txt, _, it, rfl, dB, by omega, by omega, fun H2 d2 => ?_⟩
          obtain ⟨dx2, _, _, _, _, _, hp2, _⟩ := d2.ex
          exact ⟨_, rfl, p, dx2, _, rfl, hp2, rfl, p, _, _, _, rfl, d2, fun H3 d3 => ⟨rfl, d3⟩⟩
        · rintro _ H2 ⟨rfl, d2⟩
          obtain ⟨e1, e2, _⟩ := goal _ _ _ d2 (by rw [if_neg hl]) (by rw [if_neg hl])
          refine ⟨_, rfl, _, rfl, st, _, dx, _, rfl, e1, C.cl, C.nd, (by show 0 < 1000; decide), ?_⟩
          refine ⟨_, rfl, a, _, rfl, .inr (SqT.of e2), fun r hr => ⟨_, rfl, st, _, dx, _, rfl, Same.new hr _ _ upd_same, C.cl, C.nr, (by show 1 < 1000; decide), ?_⟩⟩
          have hrs : r ≠ st := fun q => by rw [q, upd_same] at hr; cases hr
          exact fin [] _ _ _ d2 (by rw [if_neg hl]) (by rw [if_neg hl]) _ r (by rw [upd_ne hrs] at hr; exact hr) hrs rfl
/-- add_row of a right row -/
def spAdd (K : PySem.W.Frag) : Sp := fun vs H Q _ => ∃ (st p r dx : Addr) (H0 : Hp) (txt z : Str) (it : Nat) (zs : List Str), vs = [.ref st, .str z] ∧ H0 st = some (.ins (SK K) dx (fsS p r)) ∧ H0 r = some (.lst (zs.map V.str)) ∧ Dk K H0 H p txt it ∧ Lg.isRow (TL.tl z) = true ∧ zs.length < 2000 ∧ txt.length ≤ 50000 ∧ it ≤ 1000 ∧
  ∀ H', Dk K (upd H0 r (.lst ((zs ++ [z]).map V.str))) H' p (txt ++ Lg.lineS ((zs.length + 1 : Nat) : Int) z) 0 → Q .non H'
abbrev N_Store_add_row : List Str := ["self", "words", "line"]
theorem sc_Store_add_row : FnScope N_Store_add_row ["self", "words"] (defScope s_Store_add_row) := ⟨rfl, rfl, rfl, by decide +kernel, rfl, by decide +kernel, by decide +kernel⟩
theorem ok_add (D : FunD K "add_row" "Store.add_row" (defArgs s_Store_add_row) (defBody s_Store_add_row) (defScope s_Store_add_row) [] [] f fd) (F : Nms mg) (C : StC K) (x_bound : Cal P w K mg base (L2N.CX P w) 3 "bound" (spBound TM)) (x_log_line : Cal P w K mg base (L2N.CX P w) 4 "log_line" (spLogLine TM BD))
    (m_Disk_write_to : CalM P w K mg base CX0 2 (DK K) "write_to" (spWrite K)) (m_Disk_sync : CalM P w K mg base CX0 2 (DK K) "sync" (spSync K)) :
    FnOk P w K mg base CX0 5 f fd ["self", "words"] (spAdd K) := by
  refine D.ok sc_Store_add_row (fun vs H Q E h => ?_) (fun cdv A outer s H vs Q E hr h => ?_)
  · obtain ⟨st, _, _, _, _, _, z, _, _, rfl, _⟩ := h
    rfl
  · obtain ⟨st, p, r, dx, H0, txt, z, it, zs, rfl, hst, hr0, hD, hz, hn, ht, hi, k⟩ := h
    refine ⟨_, PSs.nox ((pss_cons (ps_expr (Lw.pe_cq x_bound hr (by omega) (by rfl) (pa_cons pe_str (pa_cons (pe_op op_add (pe_callB (Kx.call_len_seq (K := K)) (by rfl) F.«len» PySem.boot_len (pa_cons (Kx.pe_fld (K := K) (pv 0) rfl) pa_nil)) pe_int) pa_nil))))
  (pss_cons (ps_set (i := 2) sc_Store_add_row.nd rfl (Or.inl rfl) (Lw.pe_cq x_log_line hr (by omega) (by rfl) (pa_cons (pe_op op_add (pe_callB (Kx.call_len_seq (K := K)) (by rfl) F.«len» PySem.boot_len (pa_cons (Kx.pe_fld (K := K) (pv 0) rfl) pa_nil)) pe_int) (pa_cons (pv 1) pa_nil))))
  (pss_cons (ps_expr (Lw.pe_m m_Disk_write_to hr (by omega) (Kx.pe_fld (K := K) (pv 0) rfl) (pa_cons pe_str (pa_cons (pv 2) pa_nil))))
  (pss_cons (ps_expr (Lw.pe_m0 m_Disk_sync hr (by omega) (Kx.pe_fld (K := K) (pv 0) rfl)))
  (pss_one (ps_expr (pe_bm PySem.F.plainAttrs_list PySem.F.slot_list_append PySem.F.type_list_append mt_append (Kx.pe_fld (K := K) (pv 0) rfl) (pa_cons (pv 1) pa_nil))))))))), ?_⟩
    have est := hD.same _ _ hst
    have er := hD.same _ _ hr0
    obtain ⟨hz1, hz2⟩ := Lg.row_len hz
    have el : (zs.map V.str).length = zs.length := List.length_map _
    refine ⟨_, rfl, st, _, dx, _, _, rfl, est, C.cl, C.nr, rfl, r, _, rfl, .inl (SqL.of er), _, _, rfl, rfl, "log", _, 2000, rfl, by unfold vals_LIMITS; simp, by decide +kernel, fun h => absurd h (by rw [el]; omega), fun _ => ?_⟩
    refine ⟨_, rfl, st, _, dx, _, _, rfl, est, C.cl, C.nr, rfl, r, _, rfl, .inl (SqL.of er), _, _, rfl, rfl, _, rfl, _, z, rfl, by omega, by omega, by omega, fun h => absurd h (by omega), fun _ h => absurd (hz.symm.trans h) (by simp), fun _ H1 s1 => ?_⟩
    have e1 : (((zs.map V.str).length : Nat) : Int) + 1 = ((zs.length + 1 : Nat) : Int) := by
      rw [el]
      rfl
    have d1 := hD.same' s1
    obtain ⟨dxd, _, _, _, _, _, hp1, _⟩ := d1.ex
    have hll : (Lg.lineS ((zs.length + 1 : Nat) : Int) z).length ≤ 2040 := by
      have := Lg.line_len (n := ((zs.length + 1 : Nat) : Int)) (z := z) (by omega) (by omega) (by omega)
      omega
    refine ⟨_, rfl, st, _, dx, _, _, rfl, s1 _ _ est, C.cl, C.nd, rfl, p, dxd, _, rfl, hp1, rfl, _, rfl, p, H0, txt, Lg.lineS ((zs.length + 1 : Nat) : Int) z, it, ?_, d1, by omega, by omega, fun H2 d2 => ?_⟩
    · show [V.ref p, V.str "log", V.str (Lg.lineS ((((zs.map V.str).length : Nat) : Int) + 1) z)] = _
      rw [e1]
    obtain ⟨dx2, _, _, _, _, _, hp2, _⟩ := d2.ex
    refine ⟨_, rfl, st, _, dx, _, _, rfl, d2.same _ _ hst, C.cl, C.nd, rfl, p, dx2, _, rfl, hp2, rfl, p, H0, _, _, rfl, d2, fun H3 d3 => ?_⟩
    have er3 := d3.same _ _ hr0
    refine ⟨_, rfl, st, _, dx, _, _, rfl, d3.same _ _ hst, C.cl, C.nr, rfl, .inl ⟨rfl, _, SqL.of er3⟩, _, rfl, r, _, _, rfl, rfl, er3, by rw [el, sizeLine_eq]; omega, k _ ?_⟩
    have d4 := d3.set (o := .lst (zs.map V.str ++ [V.str z])) hr0
    rw [List.map_append]
    exact d4
def spRows (K : PySem.W.Frag) : Sp := fun vs H Q _ => ∃ (st p r dx : Addr) (xs : List V), vs = [.ref st] ∧ H st = some (.ins (SK K) dx (fsS p r)) ∧ H r = some (.lst xs) ∧ ∀ l, H l = none → Q (.ref l) (upd H l (.lst xs))
abbrev N_Store_rows : List Str := ["self"]
theorem sc_Store_rows : FnScope N_Store_rows ["self"] (defScope s_Store_rows) := ⟨rfl, rfl, rfl, by decide +kernel, rfl, by decide +kernel, by decide +kernel⟩
theorem ok_rows (D : FunD K "rows" "Store.rows" (defArgs s_Store_rows) (defBody s_Store_rows) (defScope s_Store_rows) [] [] f fd) (F : Nms mg) (C : StC K) : FnOk P w K mg base CX0 1 f fd ["self"] (spRows K) := by
  refine D.ok sc_Store_rows (fun vs H Q E h => ?_) (fun cdv A outer s H vs Q E hr h => ?_)
  · obtain ⟨st, _, _, _, _, rfl, _⟩ := h
    rfl
  · obtain ⟨st, p, r, dx, xs, rfl, hst, hr0, k⟩ := h
    refine ⟨_, PSs.nox ((pss_one (ps_ret (pe_callTy (Kx.call_list_of (K := K)) (by rfl) F.«list» (by decide +kernel) (pa_cons (Kx.pe_fld (K := K) (pv 0) rfl) pa_nil))))), ?_⟩
    exact ⟨_, rfl, st, _, dx, _, _, rfl, hst, C.cl, C.nr, rfl, r, _, rfl, .inl (SqL.of hr0), k⟩
end
end K83

set_option Elab.async false
set_option linter.all false
set_option maxRecDepth 100000
set_option maxHeartbeats 4000000
namespace Lg
open PySem TL L2
/-- a line's head: number, length, check, each with its space -/
def numL' (n : Nat) (z : Str) : List Nat := numL n ++ 32 :: (numL (tl z).length ++ 32 :: (numL (chk n (tl z)).toNat ++ [32]))
theorem numL'_count (n : Nat) (z : Str) : (numL' n z).count 32 = 3 := by
  unfold numL'
  have h : ∀ m, (numL m).count 32 = 0 := fun m => List.count_eq_zero.mpr (nsp m)
  rw [List.count_append, List.count_cons_self, List.count_append, List.count_cons_self, List.count_append, h, h, h]
  rfl
theorem count_places (l : List Nat) (c : Nat) : ∀ n, ((List.range n).filter fun j => decide (l[j]? = some c)).length = (l.take n).count c
  | 0 => rfl
  | n + 1 => by
    rw [List.range_succ, List.filter_append, List.length_append, count_places l c n, List.take_add_one, List.count_append]
    congr 1
    cases h : l[n]? with
    | none => simp [h]
    | some x =>
      by_cases hx : x = c
      · subst hx
        simp [h]
      · simp [h, hx]
end Lg
namespace K83
open PySem PySem.Spec PyProof.Rows L2 Lw
section
variable {P : Program} {w : World} {K : PySem.W.Frag} {mg : Str → Option Value} {base : Heap} {f : Addr} {fd : FuncData}
def spStored (K : PySem.W.Frag) : Sp := fun vs H Q _ => ∃ (p : Addr) (H0 : Hp) (txt : Str) (it : Nat) (zs ls : List Str) (last : Str), vs = [.ref p] ∧ Dk K H0 H p txt it ∧ Rd txt zs ls last ∧ txt.length ≤ 100000 ∧ it ≤ 1000 ∧
  (zs.length < ls.length → ∀ H' t b, Dk K H0 H' p txt it → H' b = some (.tup [.str "BadDisk", .int ((zs.length : Int) + 1)]) → H' t = some (.tup [.non, .ref b]) → Q (.ref t) H') ∧
  (¬ zs.length < ls.length → ∀ H' t st r dx, H0 st = none → H0 r = none → r ≠ st → Dk K (upd (upd H0 r (.lst (zs.map V.str))) st (.ins (SK K) dx (fsS p r))) H' p (if last = "" then txt else cutS txt none (some (Txt.rfind txt "\n" + 1))) (if last = "" then it else 0) →
    H' t = some (.tup [.ref st, .non]) → Q (.ref t) H')
abbrev N__law_b_stored : List Str := ["disk", "store", "e"]
theorem sc__law_b_stored : FnScope N__law_b_stored ["disk"] (defScope s__law_b_stored) := ⟨rfl, rfl, rfl, by decide +kernel, rfl, by decide +kernel, by decide +kernel⟩
theorem ok_stored (D : FunD K "_law_b_stored" "_law_b_stored" (defArgs s__law_b_stored) (defBody s__law_b_stored) (defScope s__law_b_stored) [] [] f fd) (M : Flt K mg) (n_Store : CalC P w K mg base (L2N.CX P w) 7 "Store" (SK K) (spStInit K (He.ga K "BadDisk")))
    (c__law_fault : CalF P w K mg base 1 flts) : FnOk P w K mg base CX0 9 f fd ["disk"] (spStored K) := by
  refine D.ok sc__law_b_stored (fun vs H Q E h => ?_) (fun cdv A outer s H vs Q E hr h => ?_)
  · obtain ⟨p, _, _, _, _, _, _, rfl, _⟩ := h
    rfl
  · obtain ⟨p, H0, txt, it, zs, ls, last, rfl, hD, hR, ht, hi, k1, k2⟩ := h
    have g_HighError := M.gb
    refine ⟨_, PSs.nox ((pss_cons (L2N.ps_try_as (i := 2) rfl rfl sc__law_b_stored.nd rfl rfl ⟨by rfl, by decide, Or.inl g_HighError⟩ Lw.takesN (fun _ _ _ tk _ => (pss_one (ps_set (i := 1) sc__law_b_stored.nd rfl (Or.inl rfl) (Lw.pe_newS n_Store hr (by omega) (by rfl) tk (pa_cons (pv 0) pa_nil))))) (fun _ _ _ _ _ hz hf => (pss_one (ps_ret (pe_tup (pa_cons pe_non (pa_cons (Lw.pe_flt c__law_fault hr (by omega) (by rfl) hz hf (pa_cons (pv 2) pa_nil)) pa_nil)))))))
  (pss_one (ps_ret (pe_tup (pa_cons (pv 1) (pa_cons pe_non pa_nil))))))), ?_⟩
    have x0 : ∀ {b}, H b = none → H0 b = none := fun h => hD.same.free h
    refine ⟨_, rfl, fun x dx hx hdx ne => ⟨x, p, dx, upd (upd H0 dx (.own x)) x (.ins (SK K) dx []), txt, it, zs, ls, last, rfl, upd_same, (hD.new hdx).new (by rw [upd_ne (Ne.symm ne)]; exact hx), hR, ht, hi, fun hsp d H' d' e => ?_, fun hsp H' r hr d' => ?_⟩⟩
    · refine ⟨true, M.m _ (by decide +kernel), fun _ a ha => ⟨_, rfl, "BadDisk", "number", d, _, rfl, by decide +kernel, rfl, rfl, e, fun b H2 hb s2 e2 => ⟨(by show 2 ≤ sizeLine; decide), fun t ht2 => ?_⟩⟩, fun h => by cases h⟩
      exact k1 hsp _ t b ((d'.less ((Same.new (x0 hdx)).trans (Same.new (by rw [upd_ne (Ne.symm ne)]; exact x0 hx)))).same' (s2.trans (Same.new ht2))) (Same.new ht2 _ _ e2) upd_same
    · refine ⟨rfl, _, rfl, (by show 2 ≤ sizeLine; decide), fun t ht2 => ?_⟩
      have hrx : r ≠ x := fun q => by rw [q, upd_same] at hr; cases hr
      have hr0 : H0 r = none := by
        rw [upd_ne hrx] at hr
        exact (Same.new (x0 hdx)).free hr
      exact k2 hsp _ t x r dx (x0 hx) hr0 hrx ((d'.less (((Same.new (x0 hdx)).trans (Same.new (by rw [upd_ne (Ne.symm ne)]; exact x0 hx))).up.up)).same' (Same.new ht2)) upd_same
def spSpot (K : PySem.W.Frag) : Sp := fun vs H Q _ => ∃ (a rw : Addr) (zs : List Str), vs = [.ref a, .ref rw] ∧ Src H a ∧ H rw = some (.lst (zs.map V.str)) ∧ 1 ≤ zs.length ∧ zs.length ≤ 100 ∧ (∀ z ∈ zs, Wd 80 z) ∧
  ∀ (m pl : Nat) (hm : m < zs.length) (H' : Hp) (t : Addr), pl ≤ (Lg.lineB ((m + 1 : Nat) : Int) zs[m]).length → Mv a H H' → H' t = some (.tup [.int ((m : Int) + 1), .int (pl : Nat)]) → Q (.ref t) H'
abbrev N__law_b_spot : List Str := ["source", "rows", "number", "line", "head", "way", "spaces", "at"]
theorem sc__law_b_spot : FnScope N__law_b_spot ["source", "rows"] (defScope s__law_b_spot) := ⟨rfl, rfl, rfl, by decide +kernel, rfl, by decide +kernel, by decide +kernel⟩
theorem ok_spot (D : FunD K "_law_b_spot" "_law_b_spot" (defArgs s__law_b_spot) (defBody s__law_b_spot) (defScope s__law_b_spot) [] [] f fd) (F : Nms mg) (c__law_pick : Cal P w K mg base CX0 1 "_law_pick" spPick) (c__law_b_line : Cal P w K mg base CX0 2 "_law_b_line" spLine) :
    FnOk P w K mg base CX0 3 f fd ["source", "rows"] (spSpot K) := by
  refine D.ok sc__law_b_spot (fun vs H Q E h => ?_) (fun cdv A outer s H vs Q E hr h => ?_)
  · obtain ⟨a, rw, _, rfl, _⟩ := h
    rfl
  · obtain ⟨a, rw, zs, rfl, hs, hrw, hz1, hz2, hz, k⟩ := h
    refine ⟨_, PSs.nox ((pss_cons (ps_set (i := 2) sc__law_b_spot.nd rfl (Or.inl rfl) (pe_op op_add pe_int (Lw.pe_c c__law_pick hr (by omega) (by rfl) (pa_cons (pv 0) (pa_cons (pe_callB (Kx.call_len_seq (K := K)) (by rfl) F.«len» PySem.boot_len (pa_cons (pv 1) pa_nil)) pa_nil)))))
  (pss_cons (ps_set (i := 3) sc__law_b_spot.nd rfl (Or.inr rfl) (Lw.pe_c c__law_b_line hr (by omega) (by rfl) (pa_cons (pv 2) (pa_cons (pe_ix (Kx.ix_list (K := K)) (pv 1) (pe_op op_sub (pv 2) pe_int) (fun _ _ => rfl)) pa_nil))))
  (pss_cons (ps_set (i := 4) sc__law_b_spot.nd rfl (Or.inl rfl) (pe_op op_sub (pe_op op_sub (pe_callB call_len_str (by rfl) F.«len» PySem.boot_len (pa_cons (pv 3) pa_nil)) (pe_callB call_len_str (by rfl) F.«len» PySem.boot_len (pa_cons (pe_ix (Kx.ix_list (K := K)) (pv 1) (pe_op op_sub (pv 2) pe_int) (fun _ _ => rfl)) pa_nil))) pe_int))
  (pss_cons (ps_set (i := 5) sc__law_b_spot.nd rfl (Or.inl rfl) (Lw.pe_c c__law_pick hr (by omega) (by rfl) (pa_cons (pv 0) (pa_cons pe_int pa_nil))))
  (pss_cons (ps_if (pt_cmpR op_lt (pv 5) pe_int (nomark _)) (pss_one (ps_ret (pe_tup (pa_cons (pv 2) (pa_cons (Lw.pe_c c__law_pick hr (by omega) (by rfl) (pa_cons (pv 0) (pa_cons (pv 4) pa_nil))) pa_nil))))) pss_nil)
  (pss_cons (ps_if (pt_cmpR op_eq (pv 5) pe_int (nomark _)) (pss_cons (ps_setLc (i := 6) (own := [("at", 7)]) rfl sc__law_b_spot.nd rfl rfl (sw_true rfl rfl rfl (by decide +kernel)) (pi_range1 (by rfl) F.«range» (pa_cons (pv 4) pa_nil)) (blkOk_by (own := [("at", 7)]) (N := N__law_b_spot) (sc := defScope s__law_b_spot) (by decide +kernel)) (fun _ _ _ _ _ => (pg_name (i := 7) sc__law_b_spot.nd rfl (Or.inl rfl))) (fun _ _ _ _ _ => (pts_one (pt_cmpR op_eq (pe_ix ix_str (pv 3) (pv 7) (fun _ _ => rfl)) pe_str (nomark _)))) (fun _ _ _ _ _ => (pv 7)))
  (pss_one (ps_ret (pe_tup (pa_cons (pv 2) (pa_cons (pe_ix (Kx.ix_list (K := K)) (pv 6) (Lw.pe_c c__law_pick hr (by omega) (by rfl) (pa_cons (pv 0) (pa_cons pe_int pa_nil))) (fun _ _ => rfl)) pa_nil)))))) pss_nil)
  (pss_one (ps_ret (pe_tup (pa_cons (pv 2) (pa_cons (Lw.pe_mono (pe_ifExp (pt_cmpR op_eq (pv 5) pe_int (nomark _)) (pe_op op_sub (pe_callB call_len_str (by rfl) F.«len» PySem.boot_len (pa_cons (pv 3) pa_nil)) pe_int) (Lw.pe_c c__law_pick hr (by omega) (by rfl) (pa_cons (pv 0) (pa_cons (pe_callB call_len_str (by rfl) F.«len» PySem.boot_len (pa_cons (pv 3) pa_nil)) pa_nil))))) pa_nil)))))))))))), ?_⟩
    have naw : rw ≠ a := fun q => by
      obtain ⟨s0, s1, s2, e, _⟩ := hs
      rw [q, e] at hrw
      cases zs with
      | nil => simp at hz1
      | cons z r =>
        have h := HO.lst.inj (Option.some.inj hrw)
        simp at h
    refine ⟨_, rfl, _, rfl, rw, _, rfl, .inl (SqL.of hrw), a, _, rfl, hs, by rw [List.length_map]; omega, by rw [List.length_map]; omega, fun r H1 r0 r1 m1 => ⟨_, _, rfl, rfl, ?_⟩⟩
    obtain ⟨m, rfl⟩ := Int.eq_ofNat_of_zero_le r0
    have hm : m < zs.length := by rw [List.length_map] at r1; omega
    have e2 : (1 : Int) + ((m : Nat) : Int) = ((m + 1 : Nat) : Int) := by omega
    have hzm := List.getElem?_eq_getElem hm
    have wz := hz _ (List.getElem_mem hm)
    have hw1 := wz.le
    have eat : atI (zs.map V.str) ((1 : Int) + ((m : Nat) : Int) - 1) = some (V.str zs[m]) := by
      have e : (1 : Int) + ((m : Nat) : Int) - 1 = (m : Nat) := by omega
      rw [e]
      exact atI_nat (v := V.str zs[m]) (by rw [List.getElem?_map, hzm]; rfl)
    have erw := m1.keep rw _ naw hrw
    refine ⟨_, rfl, _, rfl, _, rfl, _, _, rfl, rfl, rw, _, _, _, rfl, rfl, SqL.of erw, eat, (1 : Int) + ((m : Nat) : Int), zs[m], rfl, by omega, by omega, by omega, ?_⟩
    rw [e2]
    generalize hln : Lg.lineS ((m + 1 : Nat) : Int) zs[m] = line
    have hlb : line = Lg.lineB ((m + 1 : Nat) : Int) zs[m] ++ "\n" := hln.symm
    have hcod : TL.tl line = Lg.numL' (m + 1) zs[m] ++ TL.tl zs[m] ++ [10] := by
      rw [hlb, TL.tl_append, Lg.tl_lineB, Lg.nl_eq]
      unfold Lg.lineL Lg.numL'
      simp
    generalize hN : Lg.numL' (m + 1) zs[m] = N at hcod
    have hNc : N.count 32 = 3 := by rw [← hN]; exact Lg.numL'_count _ _
    have hll : line.length = N.length + zs[m].length + 1 := by
      rw [TL.len_tl, hcod, List.length_append, List.length_append, ← TL.len_tl]
      rfl
    have hbl : (Lg.lineB ((m + 1 : Nat) : Int) zs[m]).length = N.length + zs[m].length := by
      have := hll
      rw [hlb, Lg.len_append] at this
      have e3 : ("\n" : Str).length = 1 := by decide +kernel
      omega
    have hN3 : 3 ≤ N.length := by rw [← hNc]; exact List.count_le_length
    have hl2 : line.length ≤ 2000 := by
      have := Lg.line_len (n := ((m + 1 : Nat) : Int)) (z := zs[m]) (by omega) (by omega) (by omega)
      rw [hln] at this
      omega
    have hls : line.length ≤ sizeLine := small_line (by omega)
    refine ⟨_, rfl, line, rfl, hls, _, rfl, _, rfl, _, _, rfl, rfl, rw, _, _, _, rfl, rfl, SqL.of erw, eat, zs[m], rfl, small_line (by omega), _, _, rfl, rfl, _, _, rfl, rfl, ?_⟩
    show gName 4 (V.int (((line.length : Nat) : Int) - ((zs[m].length : Nat) : Int) - 1)) _ _ _
    have eh : ((line.length : Nat) : Int) - ((zs[m].length : Nat) : Int) - 1 = ((N.length : Nat) : Int) := by omega
    rw [eh]
    refine ⟨_, rfl, a, 6, rfl, m1.src, by decide, by decide, fun wy H2 w0 w1 m2 => ?_⟩
    have m12 := m1.trans m2
    have fin : ∀ (pl : Nat) (H3 : Hp) (t : Addr), pl ≤ N.length + zs[m].length → Mv a H H3 → H3 t = none → Q (.ref t) (upd H3 t (.tup [.int ((1 : Int) + ((m : Nat) : Int)), .int (pl : Nat)])) := fun pl H3 t hp m3 ht => k m pl hm _ t (by rw [hbl]; exact hp) (m3.new ht) (by rw [upd_same, Int.add_comm])
    refine ⟨_, rfl, _, _, rfl, rfl, _, rfl, ?_⟩
    refine ite2 (fun _ => ?_) (fun _ => ?_)
    · refine ⟨_, rfl, _, rfl, _, rfl, a, _, rfl, m12.src, by omega, by omega, fun pl H3 p0 p1 m3 => ?_⟩
      obtain ⟨pl, rfl⟩ := Int.eq_ofNat_of_zero_le p0
      exact ⟨(by show 2 ≤ sizeLine; decide), fun t ht => fin pl _ t (by omega) (m12.trans m3) ht⟩
    refine ⟨_, rfl, rfl, _, rfl, ?_⟩
    refine ite2 (fun _ => ?_) (fun _ => ?_)
    · refine ⟨_, rfl, _, rfl, by omega, by omega, fun D hD => ?_⟩
      have naD : a ≠ D := by
        obtain ⟨_, _, _, e, _⟩ := m12.src
        exact ne_of_none e hD
      refine lc_mk (walk_range (lo := 0) (n := N.length)) (fun i acc H' => Mv a H H' ∧ acc = ((List.range i).filter fun j => decide ((TL.tl line)[j]? = some 32)).map fun j : Nat => V.int j) ⟨m12.new hD, rfl⟩ (fun _ _ _ _ _ => trivial) ?_ ?_
      · rintro i x acc H3 H4 hi ⟨m3, rfl⟩ eD hl ⟨rfl, rfl⟩
        have hi2 : i < (TL.tl line).length := by rw [← TL.len_tl]; omega
        have hci := List.getElem?_eq_getElem hi2
        refine ⟨rfl, _, rfl, _, rfl, line, _, _, rfl, rfl, hls, (by show atI _ (0 + (i : Int)) = _; rw [Int.zero_add]; exact atI_nat hci), rfl, _, rfl, ?_⟩
        have mvD : ∀ o, Mv a H (upd H4 D o) := fun o => m12.put hD naD m3
        refine ite2 (fun h => ?_) (fun h => ?_)
        · have hc : (TL.tl line)[i] = 32 := by
            have h2 := V.str.inj (of_decide_eq_true h)
            have h3 := congrArg TL.tl h2
            rw [Lg.sp_eq] at h3
            simpa using h3
          refine ⟨_, rfl, Made.put eD hl hi (small_line (by omega)) ⟨mvD _, ?_⟩⟩
          rw [List.range_succ, List.filter_append, List.map_append, List.filter_cons_of_pos (by rw [hci, hc]; rfl)]
          show _ ++ [V.int (0 + (i : Int))] = _
          rw [Int.zero_add]
          rfl
        · have hc : (TL.tl line)[i] ≠ 32 := fun q => h (decide_eq_true (by rw [q, Lg.sp_eq]))
          refine Made.skip eD hl ⟨m3, ?_⟩
          rw [List.range_succ, List.filter_append, List.filter_cons_of_neg (by rw [hci]; simpa using hc)]
          simp
      · rintro acc H3 ⟨m3, rfl⟩ eD hl
        have hlen : ((List.range N.length).filter fun j => decide ((TL.tl line)[j]? = some 32)).length = 3 := by
          rw [Lg.count_places, hcod, List.append_assoc, List.take_left' rfl, hNc]
        generalize hL : ((List.range N.length).filter fun j => decide ((TL.tl line)[j]? = some 32)) = L at eD hlen
        have hLm : ∀ j ∈ L, j < N.length := fun j hj => by
          rw [← hL] at hj
          exact List.mem_range.mp ((List.mem_filter.mp hj).1)
        refine ⟨_, rfl, _, rfl, _, rfl, a, 3, rfl, m3.src, by decide, by decide, fun q H4 q0 q1 m4 => ?_⟩
        obtain ⟨q, rfl⟩ := Int.eq_ofNat_of_zero_le q0
        have hq : q < L.length := by omega
        have eD4 := m4.keep D _ (Ne.symm naD) eD
        refine ⟨D, _, _, _, rfl, rfl, SqL.of eD4, atI_nat (v := V.int (L[q] : Nat)) (by rw [List.getElem?_map, List.getElem?_eq_getElem hq]; rfl), (by show 2 ≤ sizeLine; decide), fun t ht => fin _ _ t ?_ (m3.trans m4) ht⟩
        have := hLm _ (List.getElem_mem hq)
        omega
    refine ⟨_, rfl, fun v H' => ∃ pl : Nat, v = .int (pl : Nat) ∧ pl ≤ N.length + zs[m].length ∧ Mv a H H', ?_, ?_⟩
    · refine ⟨_, rfl, rfl, _, rfl, ?_⟩
      refine ite2 (fun _ => ?_) (fun _ => ?_)
      · refine ⟨_, rfl, line, rfl, hls, _, _, rfl, rfl, N.length + zs[m].length, ?_, Nat.le_refl _, m12⟩
        show V.int (((line.length : Nat) : Int) - 1) = _
        have : ((line.length : Nat) : Int) - 1 = ((N.length + zs[m].length : Nat) : Int) := by omega
        rw [this]
      · refine ⟨_, rfl, _, rfl, line, rfl, hls, a, _, rfl, m12.src, by omega, by omega, fun pl H3 p0 p1 m3 => ?_⟩
        obtain ⟨pl, rfl⟩ := Int.eq_ofNat_of_zero_le p0
        exact ⟨pl, rfl, by omega, m12.trans m3⟩
    · rintro v H3 ⟨pl, rfl, hp, m3⟩
      exact ⟨(by show 2 ≤ sizeLine; decide), fun t ht => fin pl _ t hp m3 ht⟩
def spOther : Sp := fun vs H Q _ => ∃ (a : Addr) (d : Nat), vs = [.ref a, .str ⟨#[d]⟩] ∧ Src H a ∧ ∀ (x : Nat) H', x ≠ d → Mv a H H' → Q (.str ⟨#[x]⟩) H'
abbrev N__law_b_other : List Str := ["source", "sign", "way", "menu", "found"]
theorem sc__law_b_other : FnScope N__law_b_other ["source", "sign"] (defScope s__law_b_other) := ⟨rfl, rfl, rfl, by decide +kernel, rfl, by decide +kernel, by decide +kernel⟩
theorem ok_other (D : FunD K "_law_b_other" "_law_b_other" (defArgs s__law_b_other) (defBody s__law_b_other) (defScope s__law_b_other) [] [] f fd) (F : Nms mg) (c__law_pick : Cal P w K mg base CX0 1 "_law_pick" spPick) (c__law_b_signs : Cal P w K mg base CX0 1 "_law_b_signs" spSigns) :
    FnOk P w K mg base CX0 2 f fd ["source", "sign"] spOther := by
  refine D.ok sc__law_b_other (fun vs H Q E h => ?_) (fun cdv A outer s H vs Q E hr h => ?_)
  · obtain ⟨a, d, rfl, _⟩ := h
    rfl
  · obtain ⟨a, d, rfl, hs, k⟩ := h
    refine ⟨_, PSs.nox ((pss_cons (ps_set (i := 2) sc__law_b_other.nd rfl (Or.inl rfl) (Lw.pe_c c__law_pick hr (by omega) (by rfl) (pa_cons (pv 0) (pa_cons pe_int pa_nil))))
  (pss_cons (ps_set (i := 3) sc__law_b_other.nd rfl (Or.inl rfl) (pe_ix (Kx.ix_list (K := K)) (pe_lst (pa_cons pe_str (pa_cons pe_str (pa_cons pe_str (pa_cons pe_str (pa_cons (Lw.pe_c0 c__law_b_signs hr (by omega) (by rfl)) pa_nil)))))) (pv 2) (fun _ _ => rfl)))
  (pss_cons (ps_set (i := 4) sc__law_b_other.nd rfl (Or.inl rfl) (pe_ix ix_str (pv 3) (Lw.pe_c c__law_pick hr (by omega) (by rfl) (pa_cons (pv 0) (pa_cons (pe_callB call_len_str (by rfl) F.«len» PySem.boot_len (pa_cons (pv 3) pa_nil)) pa_nil))) (fun _ _ => rfl)))
  (pss_one (ps_ret (Lw.pe_mono (pe_ifExp (pt_cmpR op_ne (pv 4) (pv 1) (nomark _)) (pv 4) (Lw.pe_mono (pe_ifExp (pt_cmpR op_ne (pv 1) pe_str (nomark _)) pe_str pe_str)))))))))), ?_⟩
    refine ⟨_, rfl, a, 5, rfl, hs, by decide, by decide, fun wy H1 w0 w1 m1 => ?_⟩
    refine ⟨rfl, (by show 5 ≤ sizeLine; decide), fun D hD => ?_⟩
    obtain ⟨mn, em, l0, l1⟩ : ∃ mn : Str, atI [V.str "0123456789", V.str " ", V.str "\n", V.str "\t", V.str signs] wy = some (V.str mn) ∧ 0 < mn.length ∧ mn.length ≤ 1000 := by
      have hw : wy = 0 ∨ wy = 1 ∨ wy = 2 ∨ wy = 3 ∨ wy = 4 := by omega
      rcases hw with rfl | rfl | rfl | rfl | rfl
      · exact ⟨_, rfl, by decide +kernel, by decide +kernel⟩
      · exact ⟨_, rfl, by decide +kernel, by decide +kernel⟩
      · exact ⟨_, rfl, by decide +kernel, by decide +kernel⟩
      · exact ⟨_, rfl, by decide +kernel, by decide +kernel⟩
      · exact ⟨_, rfl, by decide +kernel, by decide +kernel⟩
    have m2 := m1.new (o := .lst [V.str "0123456789", V.str " ", V.str "\n", V.str "\t", V.str signs]) hD
    refine ⟨_, rfl, D, _, _, _, rfl, rfl, SqL.of upd_same, em, ?_⟩
    have hls : mn.length ≤ sizeLine := small_line (by omega)
    refine ⟨_, rfl, _, rfl, _, rfl, mn, rfl, hls, a, _, rfl, m2.src, by omega, by omega, fun j H2 j0 j1 m3 => ?_⟩
    obtain ⟨j, rfl⟩ := Int.eq_ofNat_of_zero_le j0
    have hj : j < (TL.tl mn).length := by rw [← TL.len_tl]; omega
    refine ⟨mn, _, _, rfl, rfl, hls, atI_nat (List.getElem?_eq_getElem hj), ?_⟩
    generalize (TL.tl mn)[j] = c
    have inj : ∀ {x y : Nat}, V.str ⟨#[x]⟩ = V.str ⟨#[y]⟩ → x = y := fun h => by
      have h2 := congrArg TL.tl (V.str.inj h)
      simpa using h2
    refine ⟨fun v H' => ∃ x : Nat, v = .str ⟨#[x]⟩ ∧ x ≠ d ∧ H' = H2, ⟨_, rfl, _, rfl, rfl, _, rfl, ?_⟩, ?_⟩
    · refine ite2 (fun h => ?_) (fun h => ?_)
      · refine ⟨_, rfl, c, rfl, fun q => ?_, rfl⟩
        rw [q, decide_eq_true rfl] at h
        cases h
      · refine ⟨fun v H' => ∃ x : Nat, v = .str ⟨#[x]⟩ ∧ x ≠ d ∧ H' = H2, ⟨_, rfl, rfl, _, rfl, ?_⟩, fun _ _ z => z⟩
        refine ite2 (fun h => ?_) (fun h => ?_)
        · refine ⟨55, by decide +kernel, fun q => ?_, rfl⟩
          subst q
          have e7 : V.str ⟨#[55]⟩ = V.str "7" := by decide +kernel
          rw [e7, decide_eq_true rfl] at h
          cases h
        · refine ⟨32, by rw [Lg.sp_eq], fun q => ?_, rfl⟩
          subst q
          refine h ?_
          rw [decide_eq_false]
          · rfl
          · decide +kernel
    · rintro v H3 ⟨x, rfl, hx, rfl⟩
      exact k x _ hx (m2.trans m3)
end
end K83

set_option Elab.async false
set_option linter.all false
set_option maxRecDepth 100000
set_option maxHeartbeats 4000000
namespace Lw
open PySem PySem.Spec PyProof.Rows L2
theorem da_lst_strs {H : Hp} {n : Nat} {a : Addr} {zs : List Str} (h : H a = some (.lst (zs.map V.str))) (hl : zs.length ≤ 1000000) : Da H (n + 2) (.ref a) (.list (zs.map PyData.str)) := .lst h (by rw [List.length_map]; exact hl) (da_strs zs)
end Lw
namespace K83
open PySem PySem.Spec PyProof.Rows L2 Lw
section
variable {P : Program} {w : World} {K : PySem.W.Frag} {mg : Str → Option Value} {base : Heap} {f : Addr} {fd : FuncData}
def spKept (K : PySem.W.Frag) : Sp := fun vs H Q _ => ∃ (a rw stt : Addr) (t : Str) (zs ls : List Str) (last : Str), vs = [.ref a, .str t, .ref rw, .ref stt] ∧ Src H a ∧ H rw = some (.lst (zs.map V.str)) ∧ H stt = some (.tup (recState zs ls last)) ∧ rw ≠ a ∧ Rd t zs ls last ∧ t.length ≤ 10000 ∧ zs.length ≤ 100 ∧
  (∀ z ∈ zs, Lg.isRow (TL.tl z) = true) ∧ (¬ zs.length < ls.length → TL.tl t = Lg.flat 0 zs ++ TL.tl last ∧ 10 ∉ TL.tl last) ∧ ∀ H', Mv a H H' → Q (.bl true) H'
abbrev N__law_b_kept : List Str := ["source", "text", "rows", "state", "disk", "store", "raised", "words", "told", "kept"]
theorem sc__law_b_kept : FnScope N__law_b_kept ["source", "text", "rows", "state"] (defScope s__law_b_kept) := ⟨rfl, rfl, rfl, by decide +kernel, rfl, by decide +kernel, by decide +kernel⟩
theorem ok_kept (D : FunD K "_law_b_kept" "_law_b_kept" (defArgs s__law_b_kept) (defBody s__law_b_kept) (defScope s__law_b_kept) [] [] f fd) (F : Nms mg) (n_Disk : CalC P w K mg base CX0 1 "Disk" (DK K) (spDkInit K))
    (m_Disk_write_to : CalM P w K mg base CX0 2 (DK K) "write_to" (spWrite K)) (m_Disk_sync : CalM P w K mg base CX0 2 (DK K) "sync" (spSync K)) (m_Disk_read_from : CalM P w K mg base CX0 1 (DK K) "read_from" (spRead K)) (m_Disk_waiting : CalM P w K mg base CX0 1 (DK K) "waiting" (spWait K))
    (m_Store_rows : CalM P w K mg base CX0 1 (SK K) "rows" (spRows K)) (m_Store_add_row : CalM P w K mg base CX0 5 (SK K) "add_row" (spAdd K)) (c__law_b_stored : Cal P w K mg base CX0 9 "_law_b_stored" (spStored K))
    (c__law_b_drawn_words : Cal P w K mg base CX0 2 "_law_b_drawn_words" spDrawn) (c__law_b_log : Cal P w K mg base CX0 3 "_law_b_log" (spLog K)) (c__law_same : Cal P w K mg base CX0 3 "_law_same" (spSame 3)) :
    FnOk P w K mg base CX0 10 f fd ["source", "text", "rows", "state"] (spKept K) := by
  refine D.ok sc__law_b_kept (fun vs H Q E h => ?_) (fun cdv A outer s H vs Q E hr h => ?_)
  · obtain ⟨a, rw, stt, t, _, _, _, rfl, _⟩ := h
    rfl
  · obtain ⟨a, rw, stt, t, zs, ls, last, rfl, hs, hrw, hstt, nra, hR, ht, hn, hz, hc, k⟩ := h
    refine ⟨_, PSs.nox ((pss_cons (ps_set (i := 4) sc__law_b_kept.nd rfl (Or.inl rfl) (Lw.pe_new n_Disk hr (by omega) (by rfl) (pa_cons pe_non pa_nil)))
  (pss_cons (ps_expr (Lw.pe_m m_Disk_write_to hr (by omega) (pv 4) (pa_cons pe_str (pa_cons (pv 1) pa_nil))))
  (pss_cons (ps_expr (Lw.pe_m0 m_Disk_sync hr (by omega) (pv 4)))
  (pss_cons (ps_asg (Lw.pe_c c__law_b_stored hr (by omega) (by rfl) (pa_cons (pv 4) pa_nil)) (Kx.pg_tup (K := K) (by rfl) (pgs_cons (pg_name (i := 5) sc__law_b_kept.nd rfl (Or.inl rfl)) (pgs_cons (pg_name (i := 6) sc__law_b_kept.nd rfl (Or.inl rfl)) pgs_nil))))
  (pss_cons (ps_if (pt_cmpR op_eq (pe_ix (Kx.ix_tup (K := K)) (pv 3) pe_int (fun _ _ => rfl)) pe_str (nomark _)) (pss_one (ps_ret (Lw.pe_c c__law_same hr (by omega) (by rfl) (pa_cons (pe_lst (pa_cons (pv 6) (pa_cons (Lw.pe_m m_Disk_read_from hr (by omega) (pv 4) (pa_cons pe_str pa_nil)) (pa_cons (Lw.pe_m0 m_Disk_waiting hr (by omega) (pv 4)) pa_nil)))) (pa_cons (pe_lst (pa_cons (pe_tup (pa_cons pe_str (pa_cons (pe_ix (Kx.ix_tup (K := K)) (pv 3) pe_int (fun _ _ => rfl)) pa_nil))) (pa_cons (pv 1) (pa_cons pe_int pa_nil)))) pa_nil))))) pss_nil)
  (pss_cons (ps_if (PW.pt (pw_or (pt_cmpR op_notN (pv 6) pe_non (nomark _)) (pw_or1 (pt_not (pt_val (Lw.pe_c c__law_same hr (by omega) (by rfl) (pa_cons (pe_lst (pa_cons (Lw.pe_m0 m_Store_rows hr (by omega) (pv 5)) (pa_cons (Lw.pe_m m_Disk_read_from hr (by omega) (pv 4) (pa_cons pe_str pa_nil)) pa_nil))) (pa_cons (pe_lst (pa_cons (pe_callTy (Kx.call_list_of (K := K)) (by rfl) F.«list» (by decide +kernel) (pa_cons (pv 2) pa_nil)) (pa_cons (Lw.pe_c c__law_b_log hr (by omega) (by rfl) (pa_cons (pv 2) pa_nil)) pa_nil))) pa_nil)))))))) (pss_one (ps_ret pe_bl)) pss_nil)
  (pss_cons (ps_set (i := 7) sc__law_b_kept.nd rfl (Or.inl rfl) (Lw.pe_c c__law_b_drawn_words hr (by omega) (by rfl) (pa_cons (pv 0) (pa_cons pe_int pa_nil))))
  (pss_cons (ps_set (i := 8) sc__law_b_kept.nd rfl (Or.inl rfl) (Lw.pe_m m_Store_add_row hr (by omega) (pv 5) (pa_cons (pv 7) pa_nil)))
  (pss_cons (ps_set (i := 9) sc__law_b_kept.nd rfl (Or.inl rfl) (pe_op op_cat (pe_callTy (Kx.call_list_of (K := K)) (by rfl) F.«list» (by decide +kernel) (pa_cons (pv 2) pa_nil)) (pe_lst (pa_cons (pv 7) pa_nil))))
  (pss_cons (ps_expr (pe_bm PySem.F.plainAttrs_list PySem.F.slot_list_append PySem.F.type_list_append mt_append (Lw.pe_m0 m_Store_rows hr (by omega) (pv 5)) (pa_cons pe_str pa_nil)))
  (pss_one (ps_ret (pe_and (pe_cmpR op_isN (pv 8) pe_non (nomark _)) (pe_one (Lw.pe_c c__law_same hr (by omega) (by rfl) (pa_cons (pe_lst (pa_cons (Lw.pe_m0 m_Store_rows hr (by omega) (pv 5)) (pa_cons (Lw.pe_m m_Disk_read_from hr (by omega) (pv 4) (pa_cons pe_str pa_nil)) (pa_cons (Lw.pe_m0 m_Disk_waiting hr (by omega) (pv 4)) pa_nil)))) (pa_cons (pe_lst (pa_cons (pv 9) (pa_cons (Lw.pe_c c__law_b_log hr (by omega) (by rfl) (pa_cons (pv 9) pa_nil)) (pa_cons pe_int pa_nil)))) pa_nil)))))))))))))))))), ?_⟩
    have hz2 : ∀ z ∈ zs, z.length ≤ 2000 := fun z h => (Lg.row_len (hz z h)).2
    have hlog := Lg.log_len (zs := zs) (by omega) hz2
    refine fun p dx hx hdx ne => ⟨p, dx, H, rfl, upd_same, (Same.new hdx).trans (Same.new (by rw [upd_ne (Ne.symm ne)]; exact hx)), hx, fun H1 d1 => ⟨rfl, ?_⟩⟩
    obtain ⟨dx1, _, _, _, _, _, hp1, _⟩ := d1.ex
    have e0 : ("" : Str).length = 0 := by decide +kernel
    refine ⟨_, rfl, p, dx1, _, rfl, hp1, rfl, _, rfl, p, H, "", t, 0, rfl, d1, by omega, by omega, fun H2 d2 => ?_⟩
    obtain ⟨dx2, _, _, _, _, _, hp2, _⟩ := d2.ex
    refine ⟨_, rfl, p, dx2, _, rfl, hp2, rfl, p, H, _, _, rfl, d2, fun H3 d3 => ?_⟩
    have et : ("" : Str) ++ t = t := TL.ext_tl (by
      rw [TL.tl_append]
      have : TL.tl ("" : Str) = [] := by decide +kernel
      rw [this]
      rfl)
    rw [et] at d3
    refine ⟨_, rfl, p, H, t, 0, zs, ls, last, rfl, d3, hR, by omega, by omega, fun hsp H4 tt b d4 eb ett => ?_, fun hsp H4 tt st r dxs hst0 hr0 hrs d4 ett => ?_⟩
    · -- refused
      have er : recState zs ls last = [.str "spoilt", .int ((zs.length : Int) + 1)] := if_pos hsp
      rw [er] at hstt
      have est := d4.same _ _ hstt
      obtain ⟨dx4, _, _, _, _, _, hp4, _⟩ := d4.ex
      refine ⟨_, _, rfl, SqT.of ett, rfl, _, _, rfl, _, _, rfl, rfl, ?_⟩
      refine ⟨_, rfl, stt, _, _, _, rfl, rfl, SqT.of est, rfl, rfl, _, rfl, ?_⟩
      refine ite2 (fun _ => ?_) (fun c => absurd (decide_eq_true rfl) c)
      refine ⟨_, rfl, _, rfl, p, dx4, _, rfl, hp4, rfl, p, H, t, 0, rfl, d4, _, rfl, p, dx4, _, rfl, hp4, rfl, p, H, t, 0, rfl, d4, (by show 3 ≤ sizeLine; decide), fun l1 hl1 => ?_⟩
      have n1 := Same.new (o := .lst [.ref b, .str t, .int ((0 : Nat) : Int)]) hl1
      refine ⟨_, rfl, stt, _, _, _, rfl, rfl, SqT.of (n1 _ _ est), rfl, (by show 2 ≤ sizeLine; decide), fun t2 ht2 => ⟨_, rfl, (by show 3 ≤ sizeLine; decide), fun l2 hl2 => ?_⟩⟩
      have n2 := Same.new (o := .tup [.str "BadDisk", .int ((zs.length : Int) + 1)]) ht2
      have n3 := Same.new (o := .lst [.ref t2, .str t, .int 0]) hl2
      refine ⟨_, _, .list [.tuple [.str "BadDisk", .int ((zs.length : Int) + 1)], .str t, .int 0], rfl, .lst (n3 _ _ (n2 _ _ upd_same)) (by show 3 ≤ _; decide) (.cons (.tup (n3 _ _ (n2 _ _ (n1 _ _ eb))) (by show 2 ≤ _; decide) (.cons (.str _) (.cons (.int _) .nil))) (.cons (.str _) (.cons (.int _) .nil))),
        .lst upd_same (by show 3 ≤ _; decide) (.cons (.tup (n3 _ _ upd_same) (by show 2 ≤ _; decide) (.cons (.str _) (.cons (.int _) .nil))) (.cons (.str _) (.cons (.int _) .nil))), fun H5 s5 => ?_⟩
      exact k _ ((Mv.refl hs).same (d4.same.trans (n1.trans (n2.trans (n3.trans s5)))))
    · -- taken up
      obtain ⟨hc1, hc2⟩ := hc hsp
      have ex4 : (if last = "" then t else cutS t none (some (Txt.rfind t "\n" + 1))) = Lg.logS zs := by
        by_cases hl : last = ""
        · rw [if_pos hl]
          refine TL.ext_tl ?_
          rw [hc1, hl, Lg.flat_log]
          have : TL.tl ("" : Str) = [] := by decide +kernel
          rw [this, List.append_nil]
        · rw [if_neg hl]
          exact Lg.cut_back hc1 hc2
      have ei4 : (if last = "" then 0 else 0) = 0 := by split <;> rfl
      rw [ex4, ei4] at d4
      obtain ⟨v0, ev0, nv0⟩ : ∃ v0 : Str, atI (recState zs ls last) 0 = some (V.str v0) ∧ v0 ≠ "spoilt" := by
        unfold recState
        rw [if_neg hsp]
        split
        · exact ⟨"whole", rfl, by decide +kernel⟩
        · exact ⟨"cut", rfl, by decide +kernel⟩
      have nb : ∀ {b o}, H b = some o → b ≠ r ∧ b ≠ st := fun e => ⟨ne_of_none e hr0, ne_of_none e hst0⟩
      generalize hB : upd (upd H r (.lst (zs.map V.str))) st (.ins (SK K) dxs (fsS p r)) = B at d4
      have Bst : B st = some (.ins (SK K) dxs (fsS p r)) := by rw [← hB, upd_same]
      have Br : B r = some (.lst (zs.map V.str)) := by rw [← hB, upd_ne hrs, upd_same]
      have BH : ∀ b o, H b = some o → B b = some o := fun b o e => by
        obtain ⟨n1, n2⟩ := nb e
        rw [← hB, upd_ne n2, upd_ne n1]
        exact e
      obtain ⟨dx4, _, _, _, _, _, hp4, _⟩ := d4.ex
      refine ⟨_, _, rfl, SqT.of ett, rfl, _, _, rfl, _, _, rfl, rfl, ?_⟩
      refine ⟨_, rfl, stt, _, _, _, rfl, rfl, SqT.of (d4.same _ _ (BH _ _ hstt)), ev0, rfl, _, rfl, ?_⟩
      refine ite2 (fun c => absurd (V.str.inj (of_decide_eq_true c)) nv0) (fun _ => ?_)
      refine ⟨_, rfl, rfl, _, rfl, ?_⟩
      refine ⟨_, rfl, st, dxs, _, rfl, d4.same _ _ Bst, rfl, st, p, r, dxs, _, rfl, d4.same _ _ Bst, d4.same _ _ Br, fun l hl => ?_⟩
      have q1 := Same.new (o := .lst (zs.map V.str)) hl
      have d5 := d4.same' q1
      refine ⟨_, rfl, p, dx4, _, rfl, q1 _ _ hp4, rfl, p, B, _, _, rfl, d5, (by show 2 ≤ sizeLine; decide), fun l1 hl1 => ?_⟩
      have q2 := Same.new (o := .lst [.ref l, .str (Lg.logS zs)]) hl1
      have d6 := d5.same' q2
      have rw6 := d6.same _ _ (BH _ _ hrw)
      refine ⟨_, rfl, rw, _, rfl, .inl (SqL.of rw6), fun l2 hl2 => ?_⟩
      have q3 := Same.new (o := .lst (zs.map V.str)) hl2
      refine ⟨_, rfl, rw, zs, rfl, SqL.of (q3 _ _ rw6), by omega, hz2, fun H6 s6 => ⟨(by show 2 ≤ sizeLine; decide), fun l3 hl3 => ?_⟩⟩
      have q4 := Same.new (o := .lst [.ref l2, .str (Lg.logS zs)]) hl3
      refine ⟨_, _, .list [.list (zs.map PyData.str), .str (Lg.logS zs)], rfl, .lst (q4 _ _ (s6 _ _ (q3 _ _ upd_same))) (by show 2 ≤ _; decide) (.cons (da_lst_strs (q4 _ _ (s6 _ _ (q3 _ _ (q2 _ _ upd_same)))) (by omega)) (.cons (.str _) .nil)),
        .lst upd_same (by show 2 ≤ _; decide) (.cons (da_lst_strs (q4 _ _ (s6 _ _ upd_same)) (by omega)) (.cons (.str _) .nil)), fun H7 s7 => ⟨_, rfl, iteF ?_⟩⟩
      have d7 := d6.same' (q3.trans (s6.trans (q4.trans s7)))
      have hs7 : Src H7 a := d7.same.src (Same.src (fun b o e => BH b o e) hs)
      refine ⟨_, rfl, a, 9, rfl, hs7, by decide, by decide, fun z H8 wz m8 => ?_⟩
      obtain ⟨s0, hs0⟩ : ∃ s0, B a = some s0 := by
        obtain ⟨s0, s1, s2, e, _⟩ := hs
        exact ⟨_, BH _ _ e⟩
      obtain ⟨s', es', d8⟩ := d7.mv hs0 m8
      have nsa : st ≠ a := fun q => by
        obtain ⟨_, _, _, e, _⟩ := hs
        exact (nb e).2 q.symm
      have nra2 : r ≠ a := fun q => by
        obtain ⟨_, _, _, e, _⟩ := hs
        exact (nb e).1 q.symm
      have B8st : upd B a s' st = some (.ins (SK K) dxs (fsS p r)) := by rw [upd_ne nsa]; exact Bst
      have B8r : upd B a s' r = some (.lst (zs.map V.str)) := by rw [upd_ne nra2]; exact Br
      have hwl := wz.le
      have zr : Lg.isRow (TL.tl z) = true := Lg.row_of_signs wz.pos (by omega) wz.sg
      refine ⟨_, rfl, st, dxs, _, rfl, d8.same _ _ B8st, rfl, _, rfl, st, p, r, dxs, upd B a s', Lg.logS zs, z, 0, zs, rfl, B8st, B8r, d8, zr, by omega, ?_, by omega, fun H9 d9 => ?_⟩
      · have hcut : (Lg.logS zs).length ≤ t.length := by
          rw [TL.len_tl, TL.len_tl, Lg.flat_log, hc1, List.length_append]
          omega
        omega
      have elog : Lg.logS zs ++ Lg.lineS ((zs.length + 1 : Nat) : Int) z = Lg.logS (zs ++ [z]) := TL.ext_tl (by
        rw [TL.tl_append, Lg.flat_log, Lg.flat_log]
        unfold Lg.flat
        rw [Lg.linesFrom_snoc, List.map_append, List.flatten_append, Nat.zero_add]
        simp)
      rw [elog] at d9
      generalize hB9 : upd (upd B a s') r (.lst ((zs ++ [z]).map V.str)) = B9 at d9
      have B9st : B9 st = some (.ins (SK K) dxs (fsS p r)) := by rw [← hB9, upd_ne (Ne.symm hrs)]; exact B8st
      have B9r : B9 r = some (.lst ((zs ++ [z]).map V.str)) := by rw [← hB9, upd_same]
      have B9rw : B9 rw = some (.lst (zs.map V.str)) := by
        rw [← hB9, upd_ne (nb hrw).1, upd_ne nra]
        exact BH _ _ hrw
      have rw9 := d9.same _ _ B9rw
      refine ⟨_, rfl, rw, _, rfl, .inl (SqL.of rw9), fun l4 hl4 => ⟨_, rfl, (by show 1 ≤ sizeLine; decide), fun l5 hl5 => ?_⟩⟩
      have q5 := Same.new (o := .lst (zs.map V.str)) hl4
      have q6 := Same.new (o := .lst [.str z]) hl5
      refine ⟨l4, l5, _, _, rfl, rfl, q6 _ _ upd_same, upd_same, by rw [List.length_map, sizeLine_eq]; show zs.length + 1 ≤ _; omega, fun l6 hl6 => ?_⟩
      have q7 := Same.new (o := .lst (zs.map V.str ++ [.str z])) hl6
      have d10 := d9.same' (q5.trans (q6.trans q7))
      refine ⟨_, rfl, st, dxs, _, rfl, d10.same _ _ B9st, rfl, st, p, r, dxs, _, rfl, d10.same _ _ B9st, d10.same _ _ B9r, fun l7 hl7 => ⟨.inl ⟨rfl, _, SqL.of upd_same⟩, l7, _, _, rfl, rfl, upd_same, by rw [List.length_map, List.length_append, sizeLine_eq]; show zs.length + 1 < _; omega, ?_⟩⟩
      have q8 := (Same.new (o := .lst ((zs ++ [z]).map V.str)) hl7).mut (o := .lst ((zs ++ [z]).map V.str ++ [.str "x"])) hl7
      have d11 := d10.same' q8
      have e11 := q8 _ _ (upd_same (H := _) (a := l6) (o := .lst (zs.map V.str ++ [.str z])))
      obtain ⟨dx11, _, _, _, _, _, hp11, _⟩ := d11.ex
      refine ⟨_, rfl, rfl, _, rfl, ?_⟩
      have d11st := d11.same _ _ B9st
      have d11r := d11.same _ _ B9r
      refine ⟨_, rfl, st, dxs, _, rfl, d11st, rfl, st, p, r, dxs, _, rfl, d11st, d11r, fun l8 hl8 => ?_⟩
      have q9 := Same.new (o := .lst ((zs ++ [z]).map V.str)) hl8
      have d12 := d11.same' q9
      refine ⟨_, rfl, p, dx11, _, rfl, q9 _ _ hp11, rfl, p, B9, _, _, rfl, d12, _, rfl, p, dx11, _, rfl, q9 _ _ hp11, rfl, p, B9, _, _, rfl, d12, (by show 3 ≤ sizeLine; decide), fun l9 hl9 => ?_⟩
      have q10 := Same.new (o := .lst [.ref l8, .str (Lg.logS (zs ++ [z])), .int ((0 : Nat) : Int)]) hl9
      have e13 : _ = some (HO.lst ((zs ++ [z]).map V.str)) := (q10 _ _ (q9 _ _ e11)).trans (by rw [List.map_append]; rfl)
      have zz : ∀ y ∈ zs ++ [z], y.length ≤ 2000 := fun y hy => by
        rcases List.mem_append.mp hy with hy | hy
        · exact hz2 y hy
        · rw [List.mem_singleton.mp hy]
          omega
      have zl : (zs ++ [z]).length ≤ 2000 := by rw [List.length_append, List.length_singleton]; omega
      refine ⟨_, rfl, _, rfl, l6, zs ++ [z], rfl, SqL.of e13, zl, zz, fun H10 s10 => ⟨(by show 3 ≤ sizeLine; decide), fun l10 hl10 => ?_⟩⟩
      have q11 := Same.new (o := .lst [.ref l6, .str (Lg.logS (zs ++ [z])), .int 0]) hl10
      refine ⟨_, _, .list [.list ((zs ++ [z]).map PyData.str), .str (Lg.logS (zs ++ [z])), .int 0], rfl, .lst (q11 _ _ (s10 _ _ upd_same)) (by show 3 ≤ _; decide) (.cons (da_lst_strs (q11 _ _ (s10 _ _ (q10 _ _ upd_same))) (by omega)) (.cons (.str _) (.cons (.int _) .nil))),
        .lst upd_same (by show 3 ≤ _; decide) (.cons (da_lst_strs (q11 _ _ (s10 _ _ e13)) (by omega)) (.cons (.str _) (.cons (.int _) .nil))), fun H11 s11 => k _ ?_⟩
      have dF := d12.same' (q10.trans (s10.trans (q11.trans s11)))
      refine ⟨fun b o hb e => ?_, ?_⟩
      · refine dF.same _ _ ?_
        rw [← hB9, upd_ne (nb e).1, upd_ne hb]
        exact BH _ _ e
      · obtain ⟨s0, s1, s2, e, h0⟩ := m8.src
        refine ⟨s0, s1, s2, dF.same _ _ ?_, h0⟩
        rw [← hB9, upd_ne (Ne.symm nra2), upd_same, ← e, es']
end
end K83

set_option Elab.async false
set_option linter.all false
set_option maxRecDepth 100000
set_option maxHeartbeats 4000000
namespace Lg
open PySem TL L2
theorem cutS_drop (z : Str) (i : Nat) : tl (cutS z (some (i : Int)) none) = (tl z).drop i := by
  unfold cutS
  rw [HT.sIx_none, HT.sIx_nat, tl_mk, len_tl]
  rcases Nat.le_total i (tl z).length with h | h
  · rw [Nat.min_eq_left h, List.take_of_length_le (by rw [List.length_drop]; exact Nat.le_refl _)]
  · rw [Nat.min_eq_right h, Nat.sub_self, List.take_zero, List.drop_of_length_le h]
theorem log_len_b {zs : List Str} {b : Nat} (hn : zs.length ≤ 2000) (hb : b ≤ 2000) (hz : ∀ z ∈ zs, z.length ≤ b) : (logS zs).length ≤ zs.length * (b + 40) := by
  have key : ∀ (zs : List Str) (j : Nat), j + zs.length ≤ 2000 → (∀ z ∈ zs, z.length ≤ b) → ((linesFrom j zs).map (·.length)).sum ≤ zs.length * (b + 40) := by
    intro zs
    induction zs with
    | nil => intro j _ _; exact Nat.zero_le _
    | cons y r ih =>
      intro j hj hy
      have h1 := ih (j + 1) (by rw [List.length_cons] at hj; omega) fun z h => hy z (List.mem_cons_of_mem _ h)
      have h2 := hy y (List.mem_cons_self ..)
      rw [List.length_cons] at hj
      have h3 := line_len (n := ((j + 1 : Nat) : Int)) (z := y) (by omega) (by omega) (by omega)
      show (lineS _ y).length + ((linesFrom (j + 1) r).map (·.length)).sum ≤ (r.length + 1) * (b + 40)
      rw [Nat.succ_mul]
      omega
  have h0 := key zs 0 (by omega) hz
  rw [sum_lens] at h0
  rw [len_tl, flat_log]
  exact h0
end Lg
namespace K83
open PySem PySem.Spec PyProof.Rows L2 Lw
def stateD (zs ls : List Str) (last : Str) : List PyData := if zs.length < ls.length then [.str "spoilt", .int ((zs.length : Int) + 1)] else if last = "" then [.str "whole"] else [.str "cut", .int ((zs.length : Int) + 1)]
theorem da_state {H : Hp} {n : Nat} {a : Addr} {zs ls : List Str} {last : Str} (h : H a = some (.tup (recState zs ls last))) : Da H (n + 2) (.ref a) (.tuple (stateD zs ls last)) := by
  unfold recState at h
  unfold stateD
  split at h
  · rename_i c
    rw [if_pos c]
    exact .tup h (by show 2 ≤ _; decide) (.cons (.str _) (.cons (.int _) .nil))
  · rename_i c
    rw [if_neg c]
    split at h
    · rename_i c2
      rw [if_pos c2]
      exact .tup h (by show 1 ≤ _; decide) (.cons (.str _) .nil)
    · rename_i c2
      rw [if_neg c2]
      exact .tup h (by show 2 ≤ _; decide) (.cons (.str _) (.cons (.int _) .nil))
structure RecF (zs : List Str) : Prop where
  rd : Rd (Lg.logS zs) zs (Lg.bodies 0 zs) ""
  st : recState zs (Lg.bodies 0 zs) "" = [.str "whole"]
theorem rec_log {zs : List Str} (hn : zs.length ≤ 2000) (hz : ∀ z ∈ zs, Lg.isRow (TL.tl z) = true) : RecF zs := by
  have hz2 : ∀ z ∈ zs, z.length ≤ 2000 := fun z h => (Lg.row_len (hz z h)).2
  refine ⟨⟨Lg.log_rows hz, by rw [Lg.bodies_length]; exact hn, ?_, by rw [Lg.bodies_length]; exact Nat.le_refl _, ?_, ?_⟩, ?_⟩
  · intro l hl3
    obtain ⟨n, z, hz3, hn3, rfl⟩ := Lg.bodies_mem hl3
    have := Lg.lineB_len (n := n) (z := z) (by omega) (hz2 z hz3)
    omega
  · intro i z h
    have h2 := Lg.bodies_get (k := 0) h
    rw [Nat.zero_add] at h2
    exact ⟨_, h2, Lg.lineB_is (hz z (List.mem_of_getElem? h))⟩
  · intro l h
    rw [List.getElem?_eq_none (by rw [Lg.bodies_length]; exact Nat.le_refl _)] at h
    cases h
  · unfold recState
    rw [if_neg (by rw [Lg.bodies_length]; exact Nat.lt_irrefl _), if_pos rfl]
section
variable {P : Program} {w : World} {K : PySem.W.Frag} {mg : Str → Option Value} {base : Heap} {f : Addr} {fd : FuncData} {TM : Addr}
def spLaw (K : PySem.W.Frag) : Sp := fun vs H Q _ => ∃ (a : Addr) (ns : List Int), vs = [.ref a] ∧ SqL K H a (ns.map V.int) ∧ ns.length ≤ 63 ∧ ∀ H', Q (.bl true) H'
abbrev N_law : List Str := ["script", "source", "rows", "text", "turn", "number", "place", "start", "at", "changed", "state"]
theorem sc_law : FnScope N_law ["script"] (defScope s_law) := ⟨rfl, rfl, rfl, by decide +kernel, rfl, by decide +kernel, by decide +kernel⟩
theorem ok_law (D : FunD K "law" "law" (defArgs s_law) (defBody s_law) (defScope s_law) [] [] f fd) (F : Nms mg)
    (c__law_source : Cal P w K mg base CX0 1 "_law_source" (spSource K)) (c__law_pick : Cal P w K mg base CX0 1 "_law_pick" spPick) (c__law_b_drawn_words : Cal P w K mg base CX0 2 "_law_b_drawn_words" spDrawn) (c__law_b_log : Cal P w K mg base CX0 3 "_law_b_log" (spLog K))
    (c__law_b_spot : Cal P w K mg base CX0 3 "_law_b_spot" (spSpot K)) (c__law_b_other : Cal P w K mg base CX0 2 "_law_b_other" spOther) (x_recover_log : Cal P w K mg base (L2N.CX P w) 6 "recover_log" (spRecover TM)) (c__law_same : Cal P w K mg base CX0 3 "_law_same" (spSame 3)) (c__law_b_kept : Cal P w K mg base CX0 10 "_law_b_kept" (spKept K)) :
    FnOk P w K mg base CX0 11 f fd ["script"] (spLaw K) := by
  refine D.ok sc_law (fun vs H Q E h => ?_) (fun cdv A outer s H vs Q E hr h => ?_)
  · obtain ⟨a, ns, rfl, _⟩ := h
    rfl
  · obtain ⟨sa, ns, rfl, hS, hns, k⟩ := h
    refine ⟨_, PSs.nox ((pss_cons (ps_set (i := 1) sc_law.nd rfl (Or.inr rfl) (Lw.pe_c c__law_source hr (by omega) (by rfl) (pa_cons (pv 0) (pa_cons pe_int pa_nil))))
  (pss_cons (ps_setLc (i := 2) (own := [("at", 8)]) rfl sc_law.nd rfl rfl (sw_true rfl rfl rfl (by decide +kernel)) (pi_range1 (by rfl) F.«range» (pa_cons (pe_op op_add pe_int (Lw.pe_c c__law_pick hr (by omega) (by rfl) (pa_cons (pv 1) (pa_cons pe_int pa_nil)))) pa_nil)) (blkOk_by (own := [("at", 8)]) (N := N_law) (sc := defScope s_law) (by decide +kernel)) (fun _ _ _ _ _ => (pg_name (i := 8) sc_law.nd rfl (Or.inl rfl))) (fun _ _ _ _ _ => pts_nil) (fun _ _ _ _ _ => (Lw.pe_c c__law_b_drawn_words hr (by omega) (by rfl) (pa_cons (pv 1) (pa_cons pe_int pa_nil)))))
  (pss_cons (ps_set (i := 3) sc_law.nd rfl (Or.inl rfl) (Lw.pe_c c__law_b_log hr (by omega) (by rfl) (pa_cons (pv 2) pa_nil)))
  (pss_cons (ps_for PassesOwn.never rfl (pi_range1 (by rfl) F.«range» (pa_cons pe_int pa_nil)) (pg_name (i := 4) sc_law.nd rfl (Or.inl rfl)) (pss_cons (ps_asg (Lw.pe_c c__law_b_spot hr (by omega) (by rfl) (pa_cons (pv 1) (pa_cons (pv 2) pa_nil))) (Kx.pg_tup (K := K) (by rfl) (pgs_cons (pg_name (i := 5) sc_law.nd rfl (Or.inl rfl)) (pgs_cons (pg_name (i := 6) sc_law.nd rfl (Or.inl rfl)) pgs_nil))))
  (pss_cons (ps_set (i := 7) sc_law.nd rfl (Or.inl rfl) (pe_callB call_len_str (by rfl) F.«len» PySem.boot_len (pa_cons (Lw.pe_c c__law_b_log hr (by omega) (by rfl) (pa_cons (pe_slice (Kx.sl_list (K := K)) (pv 2) po_none (po_some (pe_op op_sub (pv 5) pe_int))) pa_nil)) pa_nil)))
  (pss_cons (ps_set (i := 8) sc_law.nd rfl (Or.inl rfl) (pe_op op_add (pv 7) (pv 6)))
  (pss_cons (ps_set (i := 9) sc_law.nd rfl (Or.inl rfl) (pe_op op_add_str (pe_op op_add_str (pe_slice sl_str (pv 3) po_none (po_some (pv 8))) (Lw.pe_c c__law_b_other hr (by omega) (by rfl) (pa_cons (pv 1) (pa_cons (pe_ix ix_str (pv 3) (pv 8) (fun _ _ => rfl)) pa_nil)))) (pe_slice sl_str (pv 3) (po_some (pe_op op_add (pv 8) pe_int)) po_none)))
  (pss_cons (ps_set (i := 10) sc_law.nd rfl (Or.inl rfl) (Lw.pe_mono (pe_ifExp (pt_cmpR op_in_sign pe_str (pe_slice sl_str (pv 9) (po_some (pv 7)) po_none) rfl) (pe_tup (pa_cons pe_str (pa_cons (pv 5) pa_nil))) (pe_tup (pa_cons pe_str (pa_cons (pv 5) pa_nil))))))
  (pss_cons (ps_if (pt_not (pt_val (Lw.pe_c c__law_same hr (by omega) (by rfl) (pa_cons (Lw.pe_cq x_recover_log hr (by omega) (by rfl) (pa_cons (pv 9) pa_nil)) (pa_cons (pe_tup (pa_cons (Kx.pe_tupleOf (K := K) (by rfl) F.«tuple» (pe_slice (Kx.sl_list (K := K)) (pv 2) po_none (po_some (pe_op op_sub (pv 5) pe_int)))) (pa_cons (pv 10) pa_nil))) pa_nil))))) (pss_one (ps_ret pe_bl)) pss_nil)
  (pss_one (ps_if (PW.pt (pw_and (pt_cmpR op_lt (pv 4) pe_int (nomark _)) (pw_and1 (pt_not (pt_val (Lw.pe_c c__law_b_kept hr (by omega) (by rfl) (pa_cons (pv 1) (pa_cons (pv 9) (pa_cons (pe_slice (Kx.sl_list (K := K)) (pv 2) po_none (po_some (pe_op op_sub (pv 5) pe_int))) (pa_cons (pv 10) pa_nil)))))))))) (pss_one (ps_ret pe_bl)) pss_nil)))))))))
  (pss_one (ps_ret (pe_and (Lw.pe_c c__law_same hr (by omega) (by rfl) (pa_cons (Lw.pe_cq x_recover_log hr (by omega) (by rfl) (pa_cons (pv 3) pa_nil)) (pa_cons (pe_tup (pa_cons (Kx.pe_tupleOf (K := K) (by rfl) F.«tuple» (pv 2)) (pa_cons (pe_tup (pa_cons pe_str pa_nil)) pa_nil))) pa_nil))) (pe_one (Lw.pe_c c__law_b_kept hr (by omega) (by rfl) (pa_cons (pv 1) (pa_cons (pv 3) (pa_cons (pv 2) (pa_cons (pe_tup (pa_cons pe_str pa_nil)) pa_nil)))))))))))))), ?_⟩
    refine ⟨_, rfl, sa, 0, ns, rfl, hS, by decide, hns, fun p H1 s1 hp1 src1 => ?_⟩
    refine ⟨_, rfl, p, 6, rfl, src1, by decide, by decide, fun r H2 r0 r1 m2 => ?_⟩
    refine ⟨_, _, rfl, rfl, _, rfl, by omega, by omega, fun D hD => ?_⟩
    have npD : p ≠ D := by
      obtain ⟨_, _, _, e, _⟩ := m2.src
      exact ne_of_none e hD
    refine lc_mk (walk_range (lo := 0) (n := (1 + r).toNat)) (fun i acc H' => Mv p H1 H' ∧ ∃ zs : List Str, acc = zs.map V.str ∧ zs.length = i ∧ ∀ z ∈ zs, Wd 12 z) ⟨m2.new hD, [], rfl, rfl, fun _ h => nomatch h⟩ (fun _ _ _ _ _ => trivial) ?_ ?_
    · rintro i x acc H3 H4 hi ⟨m3, zs, rfl, hl, hz⟩ eD _ ⟨rfl, rfl⟩
      refine ⟨rfl, _, rfl, p, 12, rfl, m3.src, by decide, by decide, fun z H5 wz m5 => ?_⟩
      have eD5 := m5.keep D _ (Ne.symm npD) eD
      refine Made.put eD5 (by rw [List.length_map]; omega) hi (small_line (by omega)) ⟨m2.put hD npD (m3.trans m5), zs ++ [z], by rw [List.map_append]; rfl, by rw [List.length_append, hl]; rfl, fun y hm => ?_⟩
      rcases List.mem_append.mp hm with hm | hm
      · exact hz y hm
      · rw [List.mem_singleton.mp hm]
        exact wz
    · rintro acc H3 ⟨m3, zs, rfl, hl, hz⟩ eD _
      have zn : zs.length ≤ 6 := by omega
      have zn1 : 1 ≤ zs.length := by omega
      have zr : ∀ z ∈ zs, Lg.isRow (TL.tl z) = true := fun z h => Lg.row_of_signs (hz z h).pos (by have := (hz z h).le; omega) (hz z h).sg
      have z2 : ∀ z ∈ zs, z.length ≤ 2000 := fun z h => by have := (hz z h).le; omega
      have z80 : ∀ z ∈ zs, Wd 80 z := fun z h => ⟨(hz z h).pos, by have := (hz z h).le; omega, (hz z h).sg⟩
      have tlen := Lg.log_len_b (zs := zs) (b := 12) (by omega) (by omega) fun z h => (hz z h).le
      refine ⟨_, rfl, D, zs, rfl, SqL.of eD, by omega, z2, fun H4 s4 => ?_⟩
      have eD4 := s4 _ _ eD
      have m4 := m3.same s4
      have hTc : TL.tl (Lg.logS zs) = Lg.flat 0 zs := Lg.flat_log zs
      generalize hT : Lg.logS zs = T at tlen hTc
      have hTs : T.length ≤ sizeLine := small_line (by omega)
      refine ⟨_, rfl, by decide, by decide, ?_⟩
      refine for_it (walk_range (lo := 0) (n := 12)) (fun i σ H' => Mv p H4 H' ∧ ∃ v4 v5 v6 v7 v8 v9 v10, σ = [some (.ref sa), some (.ref p), some (.ref D), some (.str T), v4, v5, v6, v7, v8, v9, v10]) ⟨Mv.refl m4.src, none, none, none, none, none, none, none, rfl⟩ (fun _ _ _ _ _ => trivial) ?_ ?_
      · rintro i x σ H5 H6 hi ⟨m5, v4, v5, v6, v7, v8, v9, v10, rfl⟩ ⟨rfl, rfl⟩
        have eD5 := m5.keep D _ (Ne.symm npD) eD4
        refine ⟨_, rfl, _, rfl, p, D, zs, rfl, m5.src, eD5, zn1, by omega, z80, fun m pl hm H7 t hpl m7 et => ?_⟩
        have m57 := m5.trans m7
        have eD7 := m57.keep D _ (Ne.symm npD) eD4
        refine ⟨_, _, rfl, SqT.of et, rfl, _, _, rfl, _, _, rfl, rfl, ?_⟩
        have em : (m : Int) + 1 - 1 = ((m : Nat) : Int) := by omega
        have ecut : cutV (zs.map V.str) none (some ((m : Int) + 1 - 1)) = (zs.take m).map V.str := by rw [em, Lg.cut_take, List.map_take]
        have hml : (zs.take m).length = m := by rw [List.length_take]; omega
        have zrt : ∀ z ∈ zs.take m, Lg.isRow (TL.tl z) = true := fun z h => zr z (List.mem_of_mem_take h)
        have z2t : ∀ z ∈ zs.take m, z.length ≤ 2000 := fun z h => z2 z (List.mem_of_mem_take h)
        refine ⟨_, rfl, _, rfl, _, _, rfl, rfl, _, rfl, D, _, rfl, SqL.of eD7, fun q hq => ⟨q, zs.take m, rfl, SqL.of (by rw [upd_same, ecut]), by omega, z2t, fun H8 s8 => ?_⟩⟩
        have q8 := Same.new (o := .lst (cutV (zs.map V.str) none (some ((m : Int) + 1 - 1)))) hq
        have m8 := m57.same (q8.trans s8)
        have eD8 := m8.keep D _ (Ne.symm npD) eD4
        -- the codes
        obtain ⟨rest, er1, _, er2⟩ := Lg.flat_take zs 0 m (by omega)
        obtain ⟨r2, er3⟩ := er2 _ (List.getElem?_eq_getElem hm)
        rw [Nat.zero_add] at er3
        have hFl : (Lg.logS (zs.take m)).length = (Lg.flat 0 (zs.take m)).length := by rw [TL.len_tl, Lg.flat_log]
        rw [er3] at er1
        generalize hF : Lg.flat 0 (zs.take m) = Fc at er1 hFl
        generalize hBo : TL.tl (Lg.lineB ((m + 1 : Nat) : Int) zs[m]) ++ 10 :: r2 = B at er1
        have hplB : pl < B.length := by
          rw [← hBo, List.length_append, List.length_cons, ← TL.len_tl]
          omega
        have hpl2 : pl ≤ (TL.tl (Lg.lineB ((m + 1 : Nat) : Int) zs[m])).length := by rw [← TL.len_tl]; exact hpl
        have hTl : T.length = Fc.length + B.length := by rw [TL.len_tl, hTc, er1, List.length_append]
        have hSl : (Lg.logS (zs.take m)).length ≤ sizeLine := small_line (by omega)
        refine ⟨_, rfl, hSl, ?_⟩
        rw [hFl]
        refine ⟨_, rfl, _, rfl, _, _, rfl, rfl, ?_⟩
        show gName 8 (V.int (((Fc.length : Nat) : Int) + ((pl : Nat) : Int))) _ _ _
        have eat : ((Fc.length : Nat) : Int) + ((pl : Nat) : Int) = ((Fc.length + pl : Nat) : Int) := rfl
        rw [eat]
        have eat1 : ((Fc.length + pl : Nat) : Int) + 1 = ((Fc.length + pl + 1 : Nat) : Int) := rfl
        obtain ⟨d, hd⟩ : ∃ d, B[pl]? = some d := ⟨_, List.getElem?_eq_getElem hplB⟩
        have hdT : (TL.tl T)[Fc.length + pl]? = some d := by
          rw [hTc, er1, List.getElem?_append_right (by omega), Nat.add_sub_cancel_left]
          exact hd
        have l1 := Lg.cutS_len T none (some ((Fc.length + pl : Nat) : Int))
        have l2 := Lg.cutS_len T (some (((Fc.length + pl : Nat) : Int) + 1)) none
        refine ⟨_, rfl, _, rfl, _, rfl, T, rfl, hTs, _, rfl, _, rfl, _, rfl, T, _, d, rfl, rfl, hTs, atI_nat hdT, p, d, rfl, m8.src, fun x H9 hx m9 => ?_⟩
        have lx : (⟨#[x]⟩ : Str).length = 1 := rfl
        refine ⟨_, _, rfl, rfl, small_line (by omega), _, rfl, _, rfl, _, _, rfl, rfl, _, rfl, T, rfl, hTs, _, _, rfl, rfl, small_line (by rw [Lg.len_append]; omega), ?_⟩
        have m89 := m8.trans m9
        have eD9 := m89.keep D _ (Ne.symm npD) eD4
        generalize hch : cutS T none (some ((Fc.length + pl : Nat) : Int)) ++ ⟨#[x]⟩ ++ cutS T (some (((Fc.length + pl : Nat) : Int) + 1)) none = ch
        have hcl : ch.length ≤ 2000 := by
          rw [← hch, Lg.len_append, Lg.len_append]
          omega
        have hcc : TL.tl ch = Fc ++ (B.take pl ++ x :: B.drop (pl + 1)) := by
          rw [← hch, TL.tl_append, TL.tl_append, Lg.cutS_take, eat1, Lg.cutS_drop, hTc, er1]
          rw [List.take_append, List.take_of_length_le (by omega), Nat.add_sub_cancel_left]
          have : (Fc ++ B).drop (Fc.length + pl + 1) = B.drop (pl + 1) := by
            rw [Nat.add_assoc, List.drop_append]
            simp
          rw [this]
          simp
          rfl
        have sp := Lg.spoil_split (zs := zs) (m := m) (p := pl) (x := x) (d := d) (t := ch) (r2 := r2) zr (fun z h => (z80 z h).le) hm hx (by rw [hBo]; exact hd) hpl2 (by rw [hF, hBo]; exact hcc)
        rw [hBo] at sp
        obtain ⟨ls, last, sp1, sp2, sp3, sp4, sp5, sp6⟩ := sp
        generalize hR : B.take pl ++ x :: B.drop (pl + 1) = R at sp5 sp6 hcc
        have hfew : ls.length ≤ 2000 := by
          have h1 := PyProof.Rows.split_le ch "\n"
          rw [sp1, List.length_append, List.length_singleton] at h1
          have : ch.length = Fc.length + R.length := by rw [TL.len_tl, hcc, List.length_append]
          have h3 : R.length = B.length := by
            rw [← hR, List.length_append, List.length_cons, List.length_take, List.length_drop]
            omega
          omega
        have hRd : Rd ch (zs.take m) ls last := ⟨sp1, hfew, fun l hl => by
          have h1 : l ∈ Txt.split ch "\n" := by rw [sp1]; exact List.mem_append_left _ hl
          have := PyProof.Rows.part_short h1
          omega, by rw [hml]; exact sp2, sp3, fun l h z => by rw [hml] at h ⊢; exact sp4 l h z⟩
        refine ⟨fun v H' => ∃ s, v = .ref s ∧ Same H9 H' ∧ H' s = some (.tup (recState (zs.take m) ls last)), ?_, ?_⟩
        · refine ⟨_, rfl, _, rfl, _, rfl, ch, rfl, small_line (by omega), 10, _, by rw [Lg.nl_eq], rfl, _, rfl, ?_⟩
          have hcd : (cutS ch (some ((Fc.length : Nat) : Int)) none).cps.toList = R := by
            have := Lg.cutS_drop ch Fc.length
            rw [hcc, List.drop_left' rfl] at this
            exact this
          rw [hcd]
          refine ite2 (fun h => ?_) (fun h => ?_)
          · have h10 : 10 ∈ R := of_decide_eq_true h
            refine ⟨_, rfl, (by show 2 ≤ sizeLine; decide), fun s hs => ⟨s, rfl, Same.new hs, ?_⟩⟩
            have := sp5 h10
            unfold recState
            rw [upd_same, if_pos (by rw [hml]; exact this), hml]
          · have h10 : 10 ∉ R := fun q => h (decide_eq_true q)
            obtain ⟨g1, g2, _⟩ := sp6 h10
            refine ⟨_, rfl, (by show 2 ≤ sizeLine; decide), fun s hs => ⟨s, rfl, Same.new hs, ?_⟩⟩
            unfold recState
            rw [upd_same, if_neg (by rw [hml, g1]; exact Nat.lt_irrefl _), if_neg g2, hml]
        · rintro v H10 ⟨s, rfl, s10, es⟩
          refine ⟨_, rfl, ch, ls, last, zs.take m, rfl, sp1, by omega, fun h => absurd h (by omega), fun _ => ⟨hRd.len, hRd.le, hRd.is, hRd.no, fun H11 a b c s11 ea eb ec => ?_⟩⟩
          have m11 := m89.same (s10.trans s11)
          have eD11 := m11.keep D _ (Ne.symm npD) eD4
          refine ⟨_, rfl, _, rfl, _, _, rfl, rfl, _, rfl, D, _, rfl, SqL.of eD11, fun q2 hq2 => .inl ⟨q2, _, rfl, SqL.of upd_same, fun q3 hq3 => ⟨_, rfl, (by show 2 ≤ sizeLine; decide), fun q4 hq4 => ?_⟩⟩⟩
          rw [ecut] at hq3 hq4 ⊢
          have n2 := Same.new (o := .lst ((zs.take m).map V.str)) hq2
          have n3 := Same.new (o := .tup ((zs.take m).map V.str)) hq3
          have n4 := Same.new (o := .tup [.ref q3, .ref s]) hq4
          have n24 := n2.trans (n3.trans n4)
          have es12 := n24 _ _ (s11 _ _ es)
          refine ⟨_, _, .tuple [.tuple ((zs.take m).map PyData.str), .tuple (stateD (zs.take m) ls last)], rfl, .tup (n24 _ _ ec) (by show 2 ≤ _; decide) (.cons (da_tup_strs (n24 _ _ ea) (by omega)) (.cons (da_state (n24 _ _ eb)) .nil)),
            .tup upd_same (by show 2 ≤ _; decide) (.cons (da_tup_strs (n4 _ _ upd_same) (by omega)) (.cons (da_state es12) .nil)), fun H12 s12 => ⟨_, rfl, iteF ?_⟩⟩
          have m12 := m11.same (n24.trans s12)
          have eD12 := m12.keep D _ (Ne.symm npD) eD4
          have es13 := s12 _ _ es12
          refine ⟨_, rfl, _, _, rfl, rfl, _, rfl, ?_⟩
          refine ite2 (fun _ => ?_) (fun _ => iteF ⟨m12, _, _, _, _, _, _, _, rfl⟩)
          refine ⟨_, rfl, _, rfl, _, rfl, _, rfl, _, _, rfl, rfl, _, rfl, D, _, rfl, SqL.of eD12, fun q5 hq5 => ?_⟩
          rw [ecut] at ⊢
          have n5 := Same.new (o := .lst ((zs.take m).map V.str)) hq5
          have m13 := m12.same n5
          have nq5 : q5 ≠ p := fun q => by
            obtain ⟨_, _, _, e, _⟩ := m12.src
            rw [q, e] at hq5
            cases hq5
          refine ⟨_, rfl, p, q5, s, ch, zs.take m, ls, last, rfl, m13.src, upd_same, n5 _ _ es13, nq5, hRd, by omega, by omega, zrt, fun hns2 => ?_, fun H14 m14 => ⟨_, rfl, iteF ⟨m13.trans m14, _, _, _, _, _, _, _, rfl⟩⟩⟩
          have h10 : 10 ∉ R := fun q => hns2 (by rw [hml]; exact sp5 q)
          obtain ⟨_, _, g3⟩ := sp6 h10
          rw [hcc, hF, g3]
          exact ⟨rfl, h10⟩
      · rintro σ H5 ⟨m5, v4, v5, v6, v7, v8, v9, v10, rfl⟩
        have eD5 := m5.keep D _ (Ne.symm npD) eD4
        have rf := rec_log (zs := zs) (by omega) zr
        have hrd := rf.rd
        rw [hT] at hrd
        have hst := rf.st
        refine ⟨_, rfl, T, Lg.bodies 0 zs, "", zs, rfl, hrd.sp, by omega, fun h => absurd h (by have := hrd.few; omega), fun _ => ⟨hrd.len, hrd.le, hrd.is, hrd.no, fun H11 a b c s11 ea eb ec => ?_⟩⟩
        have m11 := m5.same s11
        have eD11 := m11.keep D _ (Ne.symm npD) eD4
        refine ⟨_, rfl, .inl ⟨D, _, rfl, SqL.of eD11, fun q3 hq3 => ⟨(by show 1 ≤ sizeLine; decide), fun q2 hq2 => ⟨(by show 2 ≤ sizeLine; decide), fun q4 hq4 => ?_⟩⟩⟩⟩
        have n3 := Same.new (o := .tup (zs.map V.str)) hq3
        have n2 := Same.new (o := .tup [.str "whole"]) hq2
        have n4 := Same.new (o := .tup [.ref q3, .ref q2]) hq4
        have n24 := n3.trans (n2.trans n4)
        rw [hst] at eb
        refine ⟨_, _, .tuple [.tuple (zs.map PyData.str), .tuple [.str "whole"]], rfl, .tup (n24 _ _ ec) (by show 2 ≤ _; decide) (.cons (da_tup_strs (n24 _ _ ea) (by omega)) (.cons (.tup (n24 _ _ eb) (by show 1 ≤ _; decide) (.cons (.str _) .nil)) .nil)),
          .tup upd_same (by show 2 ≤ _; decide) (.cons (da_tup_strs (n4 _ _ (n2 _ _ upd_same)) (by omega)) (.cons (.tup (n4 _ _ upd_same) (by show 1 ≤ _; decide) (.cons (.str _) .nil)) .nil)), fun H12 s12 => ?_⟩
        have m12 := m11.same (n24.trans s12)
        have eD12 := m12.keep D _ (Ne.symm npD) eD4
        refine ⟨_, rfl, _, rfl, _, rfl, _, rfl, (by show 1 ≤ sizeLine; decide), fun q5 hq5 => ?_⟩
        have n5 := Same.new (o := .tup [.str "whole"]) hq5
        refine ⟨p, D, q5, T, zs, Lg.bodies 0 zs, "", rfl, (m12.same n5).src, n5 _ _ eD12, by rw [upd_same, hst], Ne.symm npD, hrd, by omega, by omega, zr, fun _ => ?_, fun H14 _ => k _⟩
        have e1 : TL.tl ("" : Str) = [] := by decide +kernel
        rw [e1, hTc, List.append_nil]
        exact ⟨rfl, by simp⟩
end
end K83

set_option Elab.async false
set_option linter.all false
set_option maxRecDepth 100000
set_option maxHeartbeats 0
namespace K83
open PySem PySem.Spec PyProof.Rows L2 Lw
/-- the head's facts beyond names and defs -/
structure ExF (K : PySem.W.Frag) : Prop where
  made : ∀ q ∈ made, PySem.W.findIn K (.ref (He.ga K q.1)) "__init__" = some (some (.ref (He.ma K (He.ga K q.1) "__init__"))) ∧ PySem.W.typeIn K (.ref (He.ma K (He.ga K q.1) "__init__")) = some (.type "function") ∧ PySem.W.findIn K (.ref (He.ga K q.1)) q.2 = some none
  vals : He.valsB K (He.ga K "LIMITS") vals_LIMITS = true
  bas : Ecom.BasC K (He.ga K "HighError")
  err : ∀ x ∈ errs, Ecom.ErrC K (He.ga K x)
  exm : ∀ x ∈ errs, PySem.W.exmOne K (.ref (He.ga K x)) (.ref (He.ga K "HighError")) = some true
  kit : ∀ x ∈ errs, ∀ y ∈ errs, PySem.W.kitOne K (.ref (He.ga K x)) (.ref (He.ga K y)) = some (decide (x = y))
  kb : ∀ x ∈ errs, PySem.W.kitOne K (.ref (He.ga K x)) (.ref (He.ga K "HighError")) = some true
  kv : ∀ x ∈ errs, PySem.W.kitOne K (.ref (He.ga K x)) (.type "ValueError") = some true
theorem ex_ok {K : PySem.W.Frag} (h : ex K = true) : ExF K := by
  unfold ex at h
  simp only [Bool.and_eq_true, List.all_eq_true, decide_eq_true_eq] at h
  obtain ⟨h1, h2, h3, h4, h5, h6, h7⟩ := h
  refine ⟨fun q hq => ?_, h2, Ecom.basB_ok h3, fun x hx => Ecom.errB_ok (h4 x hx), h5, h6, fun x hx => (h7 x hx).1, fun x hx => (h7 x hx).2⟩
  have := h1 q hq
  unfold iniB at this
  simp only [Bool.and_eq_true, decide_eq_true_eq] at this
  exact this
theorem same_cal {P : Program} {w : World} {K : PySem.W.Frag} {mg : Str → Option Value} {base : Heap} {f : Addr} {fd : FuncData} (F : FunD K "_law_same" "_law_same" (defArgs s__law_same) (defBody s__law_same) (defScope s__law_same) [] [] f fd) (hm : mg "_law_same" = some (.ref f)) (N : Nms mg) (b : Binds K fd ["answer", "due"] []) :
    ∀ n, Cal P w K mg base CX0 n "_law_same" (spSame n)
  | 0 => cal_of F hm b ⟨fun vs H Q E h => by obtain ⟨x, y, d, rfl, _⟩ := h; rfl, fun A outer s H args us vs Q E _ _ _ _ h => by
    obtain ⟨x, y, d, rfl, hx, _⟩ := h
    cases hx⟩
  | n + 1 => cal_of F hm b (ok_same F N n (same_cal F hm N b n))
theorem facts {P : Program} {w : World} {K : PySem.W.Frag} {h : Heap} {mg : Str → Option Value} {f : Addr} (X : K.In h) (G : h.Ns mainGlobals mg) (hfa : mg ("law" : Str) = some (.ref f)) (c : Ecom.SaysY fa fn ts ex w K) :
    ∃ fd : FuncData, (∀ (s : Shared) (v : Value), BindsTo s fd ⟨[v], []⟩ [("script", v)]) ∧ ∀ base : Heap, K.In base → base.Ns mainGlobals mg → FnOk P w K mg base CX0 11 f fd ["script"] (spLaw K) := by
  have d := c.t.d
  have e := ex_ok c.more
  obtain ⟨fd_bound, F_bound⟩ := d.def_ 1 (d := d_bound) rfl
  have b_bound : Binds K fd_bound ["what", "number"] [] := F_bound.bindsN fun _ _ _ _ _ _ us hl => match us, hl with | [_, _], _ => rfl
  obtain ⟨fd_row_sum, F_row_sum⟩ := d.def_ 2 (d := d_row_sum) rfl
  have b_row_sum : Binds K fd_row_sum ["number", "words"] [] := F_row_sum.bindsN fun _ _ _ _ _ _ us hl => match us, hl with | [_, _], _ => rfl
  obtain ⟨fd_is_row, F_is_row⟩ := d.def_ 3 (d := d_is_row) rfl
  have b_is_row : Binds K fd_is_row ["words"] [] := F_is_row.bindsN fun _ _ _ _ _ _ us hl => match us, hl with | [_], _ => rfl
  obtain ⟨fd_log_line, F_log_line⟩ := d.def_ 4 (d := d_log_line) rfl
  have b_log_line : Binds K fd_log_line ["number", "words"] [] := F_log_line.bindsN fun _ _ _ _ _ _ us hl => match us, hl with | [_, _], _ => rfl
  obtain ⟨fd_row_of, F_row_of⟩ := d.def_ 5 (d := d_row_of) rfl
  have b_row_of : Binds K fd_row_of ["number", "line"] [] := F_row_of.bindsN fun _ _ _ _ _ _ us hl => match us, hl with | [_, _], _ => rfl
  obtain ⟨fd_recover_log, F_recover_log⟩ := d.def_ 6 (d := d_recover_log) rfl
  have b_recover_log : Binds K fd_recover_log ["text"] [] := F_recover_log.bindsN fun _ _ _ _ _ _ us hl => match us, hl with | [_], _ => rfl
  obtain ⟨fd__law_b_signs, F__law_b_signs⟩ := d.def_ 8 (d := d__law_b_signs) rfl
  have b__law_b_signs : Binds K fd__law_b_signs [] [] := F__law_b_signs.bindsN fun _ _ _ _ _ _ us hl => match us, hl with | [], _ => rfl
  obtain ⟨fd__law_b_drawn_words, F__law_b_drawn_words⟩ := d.def_ 9 (d := d__law_b_drawn_words) rfl
  have b__law_b_drawn_words : Binds K fd__law_b_drawn_words ["source", "most"] [] := F__law_b_drawn_words.bindsN fun _ _ _ _ _ _ us hl => match us, hl with | [_, _], _ => rfl
  obtain ⟨fd__law_b_check, F__law_b_check⟩ := d.def_ 10 (d := d__law_b_check) rfl
  have b__law_b_check : Binds K fd__law_b_check ["number", "words"] [] := F__law_b_check.bindsN fun _ _ _ _ _ _ us hl => match us, hl with | [_, _], _ => rfl
  obtain ⟨fd__law_b_line, F__law_b_line⟩ := d.def_ 11 (d := d__law_b_line) rfl
  have b__law_b_line : Binds K fd__law_b_line ["number", "words"] [] := F__law_b_line.bindsN fun _ _ _ _ _ _ us hl => match us, hl with | [_, _], _ => rfl
  obtain ⟨fd__law_b_log, F__law_b_log⟩ := d.def_ 12 (d := d__law_b_log) rfl
  have b__law_b_log : Binds K fd__law_b_log ["rows"] [] := F__law_b_log.bindsN fun _ _ _ _ _ _ us hl => match us, hl with | [_], _ => rfl
  obtain ⟨fd__law_source, F__law_source⟩ := d.def_ 13 (d := d__law_source) rfl
  have b__law_source : Binds K fd__law_source ["script", "at"] [] := F__law_source.bindsN fun _ _ _ _ _ _ us hl => match us, hl with | [_, _], _ => rfl
  obtain ⟨fd__law_pick, F__law_pick⟩ := d.def_ 14 (d := d__law_pick) rfl
  have b__law_pick : Binds K fd__law_pick ["source", "many"] [] := F__law_pick.bindsN fun _ _ _ _ _ _ us hl => match us, hl with | [_, _], _ => rfl
  obtain ⟨fd__law_same, F__law_same⟩ := d.def_ 15 (d := d__law_same) rfl
  have b__law_same : Binds K fd__law_same ["answer", "due"] [] := F__law_same.bindsN fun _ _ _ _ _ _ us hl => match us, hl with | [_, _], _ => rfl
  obtain ⟨fd__law_fault, F__law_fault⟩ := d.def_ 16 (d := d__law_fault) rfl
  have b__law_fault : Binds K fd__law_fault ["error"] [] := F__law_fault.bindsN fun _ _ _ _ _ _ us hl => match us, hl with | [_], _ => rfl
  obtain ⟨fd_law, F_law⟩ := d.def_ 21 (d := d_law) rfl
  have b_law : Binds K fd_law ["script"] [] := F_law.bindsN fun _ _ _ _ _ _ us hl => match us, hl with | [_], _ => rfl
  obtain ⟨fd_TooMany___init__, F_TooMany___init__⟩ := d.def_ 22 (d := d_TooMany___init__) rfl
  have b_TooMany___init__ : Binds K fd_TooMany___init__ ["self", "what"] [] := F_TooMany___init__.bindsN fun _ _ _ _ _ _ us hl => match us, hl with | [_, _], _ => rfl
  obtain ⟨fd_BadDeed___init__, F_BadDeed___init__⟩ := d.def_ 31 (d := d_BadDeed___init__) rfl
  have b_BadDeed___init__ : Binds K fd_BadDeed___init__ ["self", "what"] [] := F_BadDeed___init__.bindsN fun _ _ _ _ _ _ us hl => match us, hl with | [_, _], _ => rfl
  obtain ⟨fd_with_item, F_with_item⟩ := d.def_ 7 (d := d_with_item) rfl
  have b_with_item : Binds K fd_with_item ["files", "item"] [] := F_with_item.bindsN fun _ _ _ _ _ _ us hl => match us, hl with | [_, _], _ => rfl
  obtain ⟨fd__law_b_stored, F__law_b_stored⟩ := d.def_ 17 (d := d__law_b_stored) rfl
  have b__law_b_stored : Binds K fd__law_b_stored ["disk"] [] := F__law_b_stored.bindsN fun _ _ _ _ _ _ us hl => match us, hl with | [_], _ => rfl
  obtain ⟨fd__law_b_spot, F__law_b_spot⟩ := d.def_ 18 (d := d__law_b_spot) rfl
  have b__law_b_spot : Binds K fd__law_b_spot ["source", "rows"] [] := F__law_b_spot.bindsN fun _ _ _ _ _ _ us hl => match us, hl with | [_, _], _ => rfl
  obtain ⟨fd__law_b_other, F__law_b_other⟩ := d.def_ 19 (d := d__law_b_other) rfl
  have b__law_b_other : Binds K fd__law_b_other ["source", "sign"] [] := F__law_b_other.bindsN fun _ _ _ _ _ _ us hl => match us, hl with | [_, _], _ => rfl
  obtain ⟨fd__law_b_kept, F__law_b_kept⟩ := d.def_ 20 (d := d__law_b_kept) rfl
  have b__law_b_kept : Binds K fd__law_b_kept ["source", "text", "rows", "state"] [] := F__law_b_kept.bindsN fun _ _ _ _ _ _ us hl => match us, hl with | [_, _, _, _], _ => rfl
  obtain ⟨fd_BadDisk___init__, F_BadDisk___init__⟩ := d.def_ 30 (d := d_BadDisk___init__) rfl
  have b_BadDisk___init__ : Binds K fd_BadDisk___init__ ["self", "number"] [] := F_BadDisk___init__.bindsN fun _ _ _ _ _ _ us hl => match us, hl with | [_, _], _ => rfl
  obtain ⟨fd_Disk___init__, F_Disk___init__⟩ := d.def_ 32 (d := d_Disk___init__) rfl
  have b_Disk___init__ : Binds K fd_Disk___init__ ["self", "power"] [] := F_Disk___init__.bindsN fun _ _ _ _ _ _ us hl => match us, hl with | [_, _], _ => rfl
  obtain ⟨fd_Disk_spend, F_Disk_spend⟩ := d.def_ 33 (d := d_Disk_spend) rfl
  have b_Disk_spend : Binds K fd_Disk_spend ["self"] [] := F_Disk_spend.bindsN fun _ _ _ _ _ _ us hl => match us, hl with | [_], _ => rfl
  obtain ⟨fd_Disk_write_to, F_Disk_write_to⟩ := d.def_ 34 (d := d_Disk_write_to) rfl
  have b_Disk_write_to : Binds K fd_Disk_write_to ["self", "file", "text"] [] := F_Disk_write_to.bindsN fun _ _ _ _ _ _ us hl => match us, hl with | [_, _, _], _ => rfl
  obtain ⟨fd_Disk_trim, F_Disk_trim⟩ := d.def_ 35 (d := d_Disk_trim) rfl
  have b_Disk_trim : Binds K fd_Disk_trim ["self", "file", "signs"] [] := F_Disk_trim.bindsN fun _ _ _ _ _ _ us hl => match us, hl with | [_, _, _], _ => rfl
  obtain ⟨fd_Disk_sync, F_Disk_sync⟩ := d.def_ 36 (d := d_Disk_sync) rfl
  have b_Disk_sync : Binds K fd_Disk_sync ["self"] [] := F_Disk_sync.bindsN fun _ _ _ _ _ _ us hl => match us, hl with | [_], _ => rfl
  obtain ⟨fd_Disk_read_from, F_Disk_read_from⟩ := d.def_ 37 (d := d_Disk_read_from) rfl
  have b_Disk_read_from : Binds K fd_Disk_read_from ["self", "file"] [] := F_Disk_read_from.bindsN fun _ _ _ _ _ _ us hl => match us, hl with | [_, _], _ => rfl
  obtain ⟨fd_Disk_waiting, F_Disk_waiting⟩ := d.def_ 38 (d := d_Disk_waiting) rfl
  have b_Disk_waiting : Binds K fd_Disk_waiting ["self"] [] := F_Disk_waiting.bindsN fun _ _ _ _ _ _ us hl => match us, hl with | [_], _ => rfl
  obtain ⟨fd_Store___init__, F_Store___init__⟩ := d.def_ 40 (d := d_Store___init__) rfl
  have b_Store___init__ : Binds K fd_Store___init__ ["self", "disk"] [] := F_Store___init__.bindsN fun _ _ _ _ _ _ us hl => match us, hl with | [_, _], _ => rfl
  obtain ⟨fd_Store_add_row, F_Store_add_row⟩ := d.def_ 41 (d := d_Store_add_row) rfl
  have b_Store_add_row : Binds K fd_Store_add_row ["self", "words"] [] := F_Store_add_row.bindsN fun _ _ _ _ _ _ us hl => match us, hl with | [_, _], _ => rfl
  obtain ⟨fd_Store_rows, F_Store_rows⟩ := d.def_ 42 (d := d_Store_rows) rfl
  have b_Store_rows : Binds K fd_Store_rows ["self"] [] := F_Store_rows.bindsN fun _ _ _ _ _ _ us hl => match us, hl with | [_], _ => rfl
  have m_bound : mg "bound" = some (.ref (He.ga K "bound")) := He.glo_ok X G (d.fact 1 (f := .glo "bound") rfl)
  have m_row_sum : mg "row_sum" = some (.ref (He.ga K "row_sum")) := He.glo_ok X G (d.fact 2 (f := .glo "row_sum") rfl)
  have m_is_row : mg "is_row" = some (.ref (He.ga K "is_row")) := He.glo_ok X G (d.fact 3 (f := .glo "is_row") rfl)
  have m_log_line : mg "log_line" = some (.ref (He.ga K "log_line")) := He.glo_ok X G (d.fact 4 (f := .glo "log_line") rfl)
  have m_row_of : mg "row_of" = some (.ref (He.ga K "row_of")) := He.glo_ok X G (d.fact 5 (f := .glo "row_of") rfl)
  have m_recover_log : mg "recover_log" = some (.ref (He.ga K "recover_log")) := He.glo_ok X G (d.fact 6 (f := .glo "recover_log") rfl)
  have m_with_item : mg "with_item" = some (.ref (He.ga K "with_item")) := He.glo_ok X G (d.fact 7 (f := .glo "with_item") rfl)
  have m__law_b_signs : mg "_law_b_signs" = some (.ref (He.ga K "_law_b_signs")) := He.glo_ok X G (d.fact 8 (f := .glo "_law_b_signs") rfl)
  have m__law_b_drawn_words : mg "_law_b_drawn_words" = some (.ref (He.ga K "_law_b_drawn_words")) := He.glo_ok X G (d.fact 9 (f := .glo "_law_b_drawn_words") rfl)
  have m__law_b_check : mg "_law_b_check" = some (.ref (He.ga K "_law_b_check")) := He.glo_ok X G (d.fact 10 (f := .glo "_law_b_check") rfl)
  have m__law_b_line : mg "_law_b_line" = some (.ref (He.ga K "_law_b_line")) := He.glo_ok X G (d.fact 11 (f := .glo "_law_b_line") rfl)
  have m__law_b_log : mg "_law_b_log" = some (.ref (He.ga K "_law_b_log")) := He.glo_ok X G (d.fact 12 (f := .glo "_law_b_log") rfl)
  have m__law_source : mg "_law_source" = some (.ref (He.ga K "_law_source")) := He.glo_ok X G (d.fact 13 (f := .glo "_law_source") rfl)
  have m__law_pick : mg "_law_pick" = some (.ref (He.ga K "_law_pick")) := He.glo_ok X G (d.fact 14 (f := .glo "_law_pick") rfl)
  have m__law_same : mg "_law_same" = some (.ref (He.ga K "_law_same")) := He.glo_ok X G (d.fact 15 (f := .glo "_law_same") rfl)
  have m__law_fault : mg "_law_fault" = some (.ref (He.ga K "_law_fault")) := He.glo_ok X G (d.fact 16 (f := .glo "_law_fault") rfl)
  have m__law_b_stored : mg "_law_b_stored" = some (.ref (He.ga K "_law_b_stored")) := He.glo_ok X G (d.fact 17 (f := .glo "_law_b_stored") rfl)
  have m__law_b_spot : mg "_law_b_spot" = some (.ref (He.ga K "_law_b_spot")) := He.glo_ok X G (d.fact 18 (f := .glo "_law_b_spot") rfl)
  have m__law_b_other : mg "_law_b_other" = some (.ref (He.ga K "_law_b_other")) := He.glo_ok X G (d.fact 19 (f := .glo "_law_b_other") rfl)
  have m__law_b_kept : mg "_law_b_kept" = some (.ref (He.ga K "_law_b_kept")) := He.glo_ok X G (d.fact 20 (f := .glo "_law_b_kept") rfl)
  have m_HighError : mg "HighError" = some (.ref (He.ga K "HighError")) := He.glo_ok X G (d.fact 22 (f := .glo "HighError") rfl)
  have m_TooMany : mg "TooMany" = some (.ref (He.ga K "TooMany")) := He.glo_ok X G (d.fact 23 (f := .glo "TooMany") rfl)
  have m_BadText : mg "BadText" = some (.ref (He.ga K "BadText")) := He.glo_ok X G (d.fact 24 (f := .glo "BadText") rfl)
  have m_BadPlant : mg "BadPlant" = some (.ref (He.ga K "BadPlant")) := He.glo_ok X G (d.fact 25 (f := .glo "BadPlant") rfl)
  have m_BadCode : mg "BadCode" = some (.ref (He.ga K "BadCode")) := He.glo_ok X G (d.fact 26 (f := .glo "BadCode") rfl)
  have m_BadMove : mg "BadMove" = some (.ref (He.ga K "BadMove")) := He.glo_ok X G (d.fact 27 (f := .glo "BadMove") rfl)
  have m_BadTrace : mg "BadTrace" = some (.ref (He.ga K "BadTrace")) := He.glo_ok X G (d.fact 28 (f := .glo "BadTrace") rfl)
  have m_BadPaper : mg "BadPaper" = some (.ref (He.ga K "BadPaper")) := He.glo_ok X G (d.fact 29 (f := .glo "BadPaper") rfl)
  have m_BadSeats : mg "BadSeats" = some (.ref (He.ga K "BadSeats")) := He.glo_ok X G (d.fact 30 (f := .glo "BadSeats") rfl)
  have m_BadDisk : mg "BadDisk" = some (.ref (He.ga K "BadDisk")) := He.glo_ok X G (d.fact 31 (f := .glo "BadDisk") rfl)
  have m_BadDeed : mg "BadDeed" = some (.ref (He.ga K "BadDeed")) := He.glo_ok X G (d.fact 32 (f := .glo "BadDeed") rfl)
  have m_Disk : mg "Disk" = some (.ref (He.ga K "Disk")) := He.glo_ok X G (d.fact 33 (f := .glo "Disk") rfl)
  have m_Store : mg "Store" = some (.ref (He.ga K "Store")) := He.glo_ok X G (d.fact 34 (f := .glo "Store") rfl)
  have m_LIMITS : mg "LIMITS" = some (.ref (He.ga K "LIMITS")) := He.glo_ok X G (d.fact 35 (f := .glo "LIMITS") rfl)
  have N : Nms mg := ⟨He.free_ok X G (d.fact 36 (f := .free "len") rfl), He.free_ok X G (d.fact 37 (f := .free "range") rfl), He.free_ok X G (d.fact 38 (f := .free "enumerate") rfl), He.free_ok X G (d.fact 39 (f := .free "ord") rfl), He.free_ok X G (d.fact 40 (f := .free "divmod") rfl), He.free_ok X G (d.fact 41 (f := .free "all") rfl), He.free_ok X G (d.fact 42 (f := .free "str") rfl), He.free_ok X G (d.fact 43 (f := .free "tuple") rfl), He.free_ok X G (d.fact 44 (f := .free "int") rfl), He.free_ok X G (d.fact 45 (f := .free "abs") rfl), He.free_ok X G (d.fact 46 (f := .free "sum") rfl), He.free_ok X G (d.fact 47 (f := .free "isinstance") rfl), He.free_ok X G (d.fact 48 (f := .free "bool") rfl), He.free_ok X G (d.fact 49 (f := .free "dict") rfl), He.free_ok X G (d.fact 50 (f := .free "list") rfl), He.free_ok X G (d.fact 51 (f := .free "sorted") rfl), He.free_ok X G (d.fact 52 (f := .free "ValueError") rfl)⟩
  have e2 := hfa.symm.trans (He.glo_ok X G (d.fact 21 (f := .glo "law") rfl))
  cases e2
  have bl := FunD.bindsA (ps := ["script"]) F_law fun _ _ _ _ _ _ us hl => match us, hl with | [_], _ => rfl
  refine ⟨fd_law, fun s v => bl s [v] rfl, fun base _ _ => ?_⟩
  obtain ⟨es, nL, dL⟩ := c.t.tab 0 (t := (fun K => He.ga K "LIMITS", ["lines", "words", "depth", "number", "heights", "kinds", "cells", "touches", "tolds", "events", "promises", "copies", "rows", "moves", "run", "states", "table", "leaves", "names", "log", "signs"])) rfl
  have L : Lim K w mg (He.ga K "LIMITS") es nL := ⟨m_LIMITS, dL, fun q hq => He.valsB_ok e.vals hq⟩
  have M : Flt K mg := ⟨fun x hx => by simp only [errs, List.mem_cons, List.not_mem_nil, or_false] at hx; rcases hx with rfl | rfl | rfl | rfl | rfl | rfl | rfl | rfl | rfl | rfl <;> assumption, m_HighError, e.err, e.kit, e.kb, e.kv, e.exm⟩
  have TMe := e.made ("TooMany", "what") (by decide +kernel)
  have BDe := e.made ("BadDeed", "what") (by decide +kernel)
  have oTM := (e.err "TooMany" (by decide +kernel)).o
  have oBD := (e.err "BadDeed" (by decide +kernel)).o
  have BKe := e.made ("BadDisk", "number") (by decide +kernel)
  have oBK := (e.err "BadDisk" (by decide +kernel)).o
  have r_BadDisk : Err P w K mg base 1 "BadDisk" (He.ga K "BadDisk") (spErr1 (He.ga K "BadDisk") "number" okInt) := ⟨_, _, _, oBK, BKe.1, BKe.2.1, ok_BadDisk F_BadDisk___init__ N m_HighError e.bas oBK BKe.2.2, b_BadDisk___init__, m_BadDisk⟩
  have r_TooMany : Err P w K mg base 1 "TooMany" (He.ga K "TooMany") (spErr1 (He.ga K "TooMany") "what" okTxt) := ⟨_, _, _, oTM, TMe.1, TMe.2.1, ok_TooMany F_TooMany___init__ m_HighError e.bas oTM TMe.2.2, b_TooMany___init__, m_TooMany⟩
  have r_BadDeed : Err P w K mg base 1 "BadDeed" (He.ga K "BadDeed") (spErr1 (He.ga K "BadDeed") "what" okTxt) := ⟨_, _, _, oBD, BDe.1, BDe.2.1, ok_BadDeed F_BadDeed___init__ m_HighError e.bas oBD BDe.2.2, b_BadDeed___init__, m_BadDeed⟩
  have c__law_fault : CalF P w K mg base 1 flts := ⟨_, _, _, fn_fault F__law_fault N M BKe.2.2, m__law_fault, F__law_fault.kp, b__law_fault⟩
  have c__law_pick : Cal P w K mg base CX0 1 "_law_pick" spPick := cal_of F__law_pick m__law_pick b__law_pick (ok_pick F__law_pick N)
  have c__law_source : Cal P w K mg base CX0 1 "_law_source" (spSource K) := cal_of F__law_source m__law_source b__law_source (ok_source F__law_source N)
  have c__law_b_signs : Cal P w K mg base CX0 1 "_law_b_signs" spSigns := cal_of F__law_b_signs m__law_b_signs b__law_b_signs (ok_signs F__law_b_signs)
  have c__law_b_drawn_words : Cal P w K mg base CX0 2 "_law_b_drawn_words" spDrawn := cal_of F__law_b_drawn_words m__law_b_drawn_words b__law_b_drawn_words (ok_drawn F__law_b_drawn_words N c__law_pick c__law_b_signs)
  have c__law_b_check : Cal P w K mg base CX0 1 "_law_b_check" spCheck := cal_of F__law_b_check m__law_b_check b__law_b_check (ok_check F__law_b_check N)
  have c__law_b_line : Cal P w K mg base CX0 2 "_law_b_line" spLine := cal_of F__law_b_line m__law_b_line b__law_b_line (ok_line F__law_b_line N c__law_b_check)
  have c__law_b_log : Cal P w K mg base CX0 3 "_law_b_log" (spLog K) := cal_of F__law_b_log m__law_b_log b__law_b_log (ok_log F__law_b_log N c__law_b_line)
  have c_row_sum : Cal P w K mg base CX0 1 "row_sum" spRowSum := cal_of F_row_sum m_row_sum b_row_sum (ok_row_sum F_row_sum N)
  have c_is_row : Cal P w K mg base CX0 1 "is_row" spIsRow := cal_of F_is_row m_is_row b_is_row (ok_is_row F_is_row N L)
  have x_bound : Cal P w K mg base (L2N.CX P w) 3 "bound" (spBound (He.ga K "TooMany")) := cal_of F_bound m_bound b_bound (ok_bound F_bound L r_TooMany)
  have x_log_line : Cal P w K mg base (L2N.CX P w) 4 "log_line" (spLogLine (He.ga K "TooMany") (He.ga K "BadDeed")) := cal_of F_log_line m_log_line b_log_line (ok_log_line F_log_line N x_bound c_is_row c_row_sum r_BadDeed)
  have c_row_of : Cal P w K mg base CX0 5 "row_of" spRowOf := cal_of F_row_of m_row_of b_row_of (ok_row_of F_row_of N c_is_row x_log_line)
  have x_recover_log : Cal P w K mg base (L2N.CX P w) 6 "recover_log" (spRecover (He.ga K "TooMany")) := cal_of F_recover_log m_recover_log b_recover_log (ok_recover F_recover_log N x_bound c_row_of)
  have c__law_same : Cal P w K mg base CX0 3 "_law_same" (spSame 3) := same_cal F__law_same m__law_same N b__law_same 3
  have DC := He.cls_ok (d.fact 53 (f := .cls "Disk") rfl)
  have SC := He.cls_ok (d.fact 66 (f := .cls "Store") rfl)
  have DM := He.mkr_ok (d.fact 54 (f := .mkr "Disk") rfl)
  have SM := He.mkr_ok (d.fact 67 (f := .mkr "Store") rfl)
  have Dsp := He.meth_ok (d.fact 55 (f := .meth "Disk" "spend") rfl)
  have Dwr := He.meth_ok (d.fact 56 (f := .meth "Disk" "write_to") rfl)
  have Dtr := He.meth_ok (d.fact 57 (f := .meth "Disk" "trim") rfl)
  have Dsy := He.meth_ok (d.fact 58 (f := .meth "Disk" "sync") rfl)
  have Drd := He.meth_ok (d.fact 59 (f := .meth "Disk" "read_from") rfl)
  have Dwt := He.meth_ok (d.fact 60 (f := .meth "Disk" "waiting") rfl)
  have Sad := He.meth_ok (d.fact 68 (f := .meth "Store" "add_row") rfl)
  have Sro := He.meth_ok (d.fact 69 (f := .meth "Store" "rows") rfl)
  have Dn1 := He.noat_ok (d.fact 62 (f := .noat "Disk" "own_power") rfl)
  have Dn2 := He.noat_ok (d.fact 63 (f := .noat "Disk" "own_synced") rfl)
  have Dn3 := He.noat_ok (d.fact 64 (f := .noat "Disk" "own_files") rfl)
  have Dn4 := He.noat_ok (d.fact 65 (f := .noat "Disk" "own_items") rfl)
  have Sn1 := He.noat_ok (d.fact 70 (f := .noat "Store" "own_disk") rfl)
  have Sn2 := He.noat_ok (d.fact 71 (f := .noat "Store" "own_rows") rfl)
  have CD : DkC K := ⟨DC, Dn1, Dn2, Dn3, Dn4⟩
  have CS : StC K := ⟨SC, Sn1, Sn2⟩
  have c_with_item : Cal P w K mg base CX0 1 "with_item" spWith := cal_of F_with_item m_with_item b_with_item (ok_with_item F_with_item N)
  have n_Disk : CalC P w K mg base CX0 1 "Disk" (DK K) (spDkInit K) := ⟨_, _, _, ok_dk_init F_Disk___init__ N CD, DM, b_Disk___init__, m_Disk⟩
  have m_Disk_spend : CalM P w K mg base CX0 1 (DK K) "spend" (spSpend K) := ⟨⟨_, _, _, ok_spend F_Disk_spend N CD, Dsp, b_Disk_spend⟩, DC⟩
  have m_Disk_write_to : CalM P w K mg base CX0 2 (DK K) "write_to" (spWrite K) := ⟨⟨_, _, _, ok_write F_Disk_write_to N CD c_with_item m_Disk_spend, Dwr, b_Disk_write_to⟩, DC⟩
  have m_Disk_trim : CalM P w K mg base CX0 2 (DK K) "trim" (spTrim K) := ⟨⟨_, _, _, ok_trim F_Disk_trim N CD c_with_item m_Disk_spend, Dtr, b_Disk_trim⟩, DC⟩
  have m_Disk_sync : CalM P w K mg base CX0 2 (DK K) "sync" (spSync K) := ⟨⟨_, _, _, ok_sync F_Disk_sync N CD m_Disk_spend, Dsy, b_Disk_sync⟩, DC⟩
  have m_Disk_read_from : CalM P w K mg base CX0 1 (DK K) "read_from" (spRead K) := ⟨⟨_, _, _, ok_read F_Disk_read_from N CD, Drd, b_Disk_read_from⟩, DC⟩
  have m_Disk_waiting : CalM P w K mg base CX0 1 (DK K) "waiting" (spWait K) := ⟨⟨_, _, _, ok_wait F_Disk_waiting N CD, Dwt, b_Disk_waiting⟩, DC⟩
  have n_Store : CalC P w K mg base (L2N.CX P w) 7 "Store" (SK K) (spStInit K (He.ga K "BadDisk")) := ⟨_, _, _, ok_st_init F_Store___init__ N CS x_recover_log r_BadDisk m_Disk_read_from m_Disk_trim m_Disk_sync, SM, b_Store___init__, m_Store⟩
  have m_Store_rows : CalM P w K mg base CX0 1 (SK K) "rows" (spRows K) := ⟨⟨_, _, _, ok_rows F_Store_rows N CS, Sro, b_Store_rows⟩, SC⟩
  have m_Store_add_row : CalM P w K mg base CX0 5 (SK K) "add_row" (spAdd K) := ⟨⟨_, _, _, ok_add F_Store_add_row N CS x_bound x_log_line m_Disk_write_to m_Disk_sync, Sad, b_Store_add_row⟩, SC⟩
  have c__law_b_stored : Cal P w K mg base CX0 9 "_law_b_stored" (spStored K) := cal_of F__law_b_stored m__law_b_stored b__law_b_stored (ok_stored F__law_b_stored M n_Store c__law_fault)
  have c__law_b_spot : Cal P w K mg base CX0 3 "_law_b_spot" (spSpot K) := cal_of F__law_b_spot m__law_b_spot b__law_b_spot (ok_spot F__law_b_spot N c__law_pick c__law_b_line)
  have c__law_b_other : Cal P w K mg base CX0 2 "_law_b_other" spOther := cal_of F__law_b_other m__law_b_other b__law_b_other (ok_other F__law_b_other N c__law_pick c__law_b_signs)
  have c__law_b_kept : Cal P w K mg base CX0 10 "_law_b_kept" (spKept K) := cal_of F__law_b_kept m__law_b_kept b__law_b_kept (ok_kept F__law_b_kept N n_Disk m_Disk_write_to m_Disk_sync m_Disk_read_from m_Disk_waiting m_Store_rows m_Store_add_row c__law_b_stored c__law_b_drawn_words c__law_b_log c__law_same)
  exact ok_law F_law N c__law_source c__law_pick c__law_b_drawn_words c__law_b_log c__law_b_spot c__law_b_other x_recover_log c__law_same c__law_b_kept
end K83
open PySem PySem.W PySem.Calls PyProof.Rows
theorem PySem.Challenge.cw_highenough_k83_one_sign_of_a_log_changed_holds : PySem.Challenge.rw_highenough_k83_one_sign_of_a_log_changed.Holds := by
  w_on; o_law
  refine HandSHeadRun.head_any (r := OpenLaw.row PySem.Challenge.rw_highenough_k83_one_sign_of_a_log_changed) (q := view (OpenLaw.row PySem.Challenge.rw_highenough_k83_one_sign_of_a_log_changed).prog [41]) (H := K83.hk) (ob := K83.ob) (M := 16000) (loose := K83.loose) (d := HandSHeadRun.topDef (OpenLaw.row PySem.Challenge.rw_highenough_k83_one_sign_of_a_log_changed).prog 41) (kwd := []) K83.ob_eq
    (by kernel_rfl) (fun s => by kernel_rfl) K83.run (by kernel_rfl) (by kernel_rfl) (by kernel_rfl) (by rfl) (by first | assumption | decide +kernel) (by decide +kernel) ⟨rfl, rfl, rfl, rfl, rfl, by decide +kernel⟩ ?hw ?hc
  case hw => w_witness2
  case hc =>
    refine L2.walk_ofE (l := PySem.Challenge.rw_highenough_k83_one_sign_of_a_log_changed) (n := 63) (k := 11) (x := "script") (CX := L2.CX0) rfl (by decide) (by kernel_rfl) ⟨rfl, by decide, by decide⟩ ?F (fun _ _ _ _ z => z)
    intro w mg fa h Y G hmg0
    obtain ⟨K, KX, c⟩ := Y
    have hmg : mg ("law" : PySem.Str) = some (.ref fa) := by
      have e : (HandSHeadRun.topDef (OpenLaw.row PySem.Challenge.rw_highenough_k83_one_sign_of_a_log_changed).prog 41).name = ("law" : PySem.Str) := by kernel_rfl
      rw [← e]
      exact hmg0
    obtain ⟨fd, hb, hF⟩ := K83.facts (P := (PySem.Challenge.rw_highenough_k83_one_sign_of_a_log_changed).prog) (w := w) KX G hmg c
    exact ⟨K, fd, K83.spLaw K, KX, hb, fun H a ns hl _ hS => ⟨a, ns, rfl, hS, hl, fun _ => rfl⟩, hF⟩
