import PyProof.Rows.All
import Wide.All
import OpenK.AllK
import Wide.FinOn
import HandS.Words
import HandS.Exc
import HandS.Call
import KE.KSuper
import HandS.More
import HandS.Defaults
import HandS.ExcField
import KE.KStateDown
import HandS.Head0
import HandS.Head1
import HandS.Head2
import HandS.HeadEnd
import HandS.HeadHook1
import HandS.HeadHook2
import HandS.HeadHook3
import HandS.HeadHook4
import HandS.HeadWalk
import HandS.Base
import HandS.List
import HandS.Comp
import HandS.Dict
import HandS.Iter
import HandS.Walk
import KE.GoesEnum
import KE.GoesZip
import HandS.ForMost
import HandS.Zip
import HandS.Strs
import HandS.TupAny
import PyProof.Rows.SortStr
import HandS.IsInst
import HandS.Property
import HandS.Deep
import HandS.TupMul
import HandS.ListItems
import HandS.Star
import KE.KDictList
import KE.KDictCopyH
import HandS.Small
import KE.OsArith
import HandS.Conv
import HandS.ExcInit
import HandS.WordsExc
import KE.KExcSuper
import HandS.Style
import HandS.Lambda
import PyProof.ReprRoads
import PyProof.ReprLen
import HandS.EndTab
import PySem.Challenge.RW_lotkeepers_k31_whole_records_believed_an
set_option Elab.async false
set_option linter.all false
set_option maxRecDepth 100000
set_option maxHeartbeats 4000000
namespace LK
open PySem PySem.Spec PyProof.Rows L2
/-! ### the text's statements -/
def top (i : Nat) : Stmt := PySem.Challenge.pw_lotkeepers_k31_whole_records_believed_an.main.body.getD i (.Pass ⟨0, 0, 0, 0⟩)
def clsBody : Stmt → List Stmt
  | .ClassDef _ _ _ body _ _ _ _ _ _ _ => body
  | _ => []
def mem (i j : Nat) : Stmt := (clsBody (top i)).getD j (.Pass ⟨0, 0, 0, 0⟩)
abbrev sLer : Stmt := mem 5 0
end LK
set_option maxHeartbeats 0
namespace LK
open PySem PySem.Spec PyProof.Rows L2
/-! ### the head: what is looked at behind the top -/
abbrev RL : PySem.W.OpenRow := PySem.W.OpenLaw.row PySem.Challenge.rw_lotkeepers_k31_whole_records_believed_an
def dg (x : Str) (i : Nat) : He.DefD := ⟨(x, none), x, x, defArgs (top i), defBody (top i), defScope (top i), [], []⟩
def dm (x : Str) (i j : Nat) : He.DefD := ⟨(x, some "__init__"), "__init__", x ++ (".__init__" : Str), defArgs (mem i j), defBody (mem i j), defScope (mem i j), [], []⟩
def hFn : List He.DefD := [dg "parity" 2, dg "bits_of" 3, { dg "is_integer" 17 with dfl := [.non, .non] }, { dg "is_tuple" 18 with dfl := [.int 0, .non] }, dg "is_word" 19, dg "is_name" 20, dg "are_unlike" 21, dg "lot_of" 25, dg "read_parts" 37, dg "read_piece" 38, dg "read_keeper" 39, dg "read_lines" 40, dg "all_spots" 41, dg "spots_of" 43, dg "bits_at" 44, dg "record_bits" 45, dg "record_of" 46, dg "records" 47, dg "value_at" 48, dg "answer_of" 49, dg "is_answer" 52, dg "are_answers" 53, dg "check_answers" 54, dg "check_bound" 57, dg "liars_by" 58, dg "believed_by" 59, dg "believed" 60, dg "nearest" 61, dg "check_believed" 63, dg "liars" 64, dg "values_by" 65, dg "with_answer" 66, dg "does_lessen" 67, dg "asked_more" 68, dg "_law_pot" 70, dg "_law_take" 71, dg "_law_of" 72, dg "_law_some" 73, dg "_law_cells" 74, dg "_law_heard" 75, { dg "_law_is_int" 76 with dfl := [.non] }, dg "_law_names" 77, dg "_law_lot_of" 78, dg "_law_is_inside" 79, dg "_law_a_lot" 80, dg "_law_parts" 81, dg "_law_piece" 82, dg "_law_shelf" 83, dg "_law_shelf_text" 84, dg "_law_records" 85, dg "_law_piece_value" 86, dg "_law_answer" 87, dg "_law_with" 88, dg "_law_lied" 89, dg "_law_believed" 90, dg "_law_thick_shelf" 91, dg "_law_who_lied" 92, dg "_law_does_lessen" 93, dg "_law_is_answered_right" 94, dg "_law_right" 95, dg "law" 96, dm "Circle" 26 0, dm "Shelf" 42 0]
def hFa : List He.Fa := [.glo "parity", .glo "bits_of", .glo "is_integer", .glo "is_tuple", .glo "is_word", .glo "is_name", .glo "are_unlike", .glo "lot_of", .glo "read_parts", .glo "read_piece", .glo "read_keeper", .glo "read_lines", .glo "all_spots", .glo "spots_of", .glo "bits_at", .glo "record_bits", .glo "record_of", .glo "records", .glo "value_at", .glo "answer_of", .glo "is_answer", .glo "are_answers", .glo "check_answers", .glo "check_bound", .glo "liars_by", .glo "believed_by", .glo "believed", .glo "nearest", .glo "check_believed", .glo "liars", .glo "values_by", .glo "with_answer", .glo "does_lessen", .glo "asked_more", .glo "_law_pot", .glo "_law_take", .glo "_law_of", .glo "_law_some", .glo "_law_cells", .glo "_law_heard", .glo "_law_is_int", .glo "_law_names", .glo "_law_lot_of", .glo "_law_is_inside", .glo "_law_a_lot", .glo "_law_parts", .glo "_law_piece", .glo "_law_shelf", .glo "_law_shelf_text", .glo "_law_records", .glo "_law_piece_value", .glo "_law_answer", .glo "_law_with", .glo "_law_lied", .glo "_law_believed", .glo "_law_thick_shelf", .glo "_law_who_lied", .glo "_law_does_lessen", .glo "_law_is_answered_right", .glo "_law_right", .glo "law", .glo "Shelf", .glo "Circle", .glo "LotError", .glo "Unbelieved", .free "len", .free "sum", .free "enumerate", .free "all", .free "any", .free "isinstance", .free "tuple", .free "int", .free "str", .free "bool", .free "range", .free "zip", .free "sorted", .free "list", .free "dict", .free "min", .free "max", .free "abs", .free "repr", .free "super", .int "MOST_SIGNS" 8, .int "FEWEST_KEEPERS_circles" 2, .int "MOST_KEEPERS_circles" 6, .int "MOST_PARTS" 4, .int "FEWEST_KEEPERS_shelves" 2, .int "MOST_KEEPERS_shelves" 6, .int "MOST_PIECES" 2, .int "PAIR_shelves" 2, .int "PAIR_answers" 2, .int "MOST_LIES" 3, .str "BLANK" " ", .str "FEED" "\n", .str "PLUS" "+", .str "SIGNS" "abcdefghijklmnopqrstuvwxyz", .str "PARTS" "parts", .str "KEEPER" "keeper", .str "ONE" "1", .str "NOUGHT" "0", .cls "Shelf", .cls "Circle", .noat "Shelf" "own_text", .noat "Shelf" "own_parts", .noat "Shelf" "own_circle", .noat "Shelf" "own_pieces", .noat "Shelf" "own_spots", .noat "Circle" "own_names", .mkr "Shelf", .mkr "Circle"]
/-- the property's object, its getter -/
def proA (K : PySem.W.Frag) (c f : Str) : Addr := He.ma K (He.ga K c) f
def proG (K : PySem.W.Frag) (c f : Str) : Addr := match PySem.W.recIn K (proA K c f) "property" with
  | some (.ref g :: _) => g
  | _ => 0
def lotI (K : PySem.W.Frag) : Addr := He.ma K (He.ga K "LotError") "__init__"
/-- a def that stands elsewhere than at a name -/
structure YD where
  at_ : PySem.W.Frag → Addr
  name : Str
  qual : Str
  st : Stmt
  cl : List Str
abbrev FnY : Type := Option (Str × Str × Arguments × FuncBody × Scope × Addr × List Str × Value × Addr)
def fnY (K : PySem.W.Frag) (a : Addr) : FnY := match K.lookup a with
  | some ⟨_, _, .func fd, _⟩ => some (fd.name, fd.qualname, fd.params, fd.body, fd.scope, fd.globals, fd.closure.map (·.1), fd.defaults, fd.builtins)
  | _ => none
def YD.val (y : YD) : FnY := some (y.name, y.qual, defArgs y.st, .stmts (defBody y.st), defScope y.st, mainGlobals, y.cl, .none, builtinsNs)
def hY : List YD := [⟨fun K => proG K "Shelf" "parts", "parts", "Shelf.parts", mem 42 2, []⟩, ⟨fun K => proG K "Shelf" "circle", "circle", "Shelf.circle", mem 42 3, []⟩, ⟨fun K => proG K "Shelf" "pieces", "pieces", "Shelf.pieces", mem 42 4, []⟩, ⟨fun K => proG K "Circle" "names", "names", "Circle.names", mem 26 1, []⟩,
  ⟨lotI, "__init__", "LotError.__init__", sLer, ["__class__"]⟩]
def codeB (K : PySem.W.Frag) (a : Addr) (q : Str) : Bool := match K.lookup a with
  | some ⟨_, _, .func fd, _⟩ => PySem.W.codeIn K fd.code q
  | _ => false
def proB (K : PySem.W.Frag) (c f : Str) : Bool := He.eqO (PySem.W.findIn K (.ref (He.ga K c)) f) (some (some (.ref (proA K c f)))) && (He.eqO (PySem.W.specialIn K (.ref (proA K c f)) "__get__") (some (some (.builtin "property.__get__"))) && (decide (PySem.W.takesIn K (.ref (proA K c f)) = some true) &&
  ((match PySem.W.recIn K (proA K c f) "property" with
    | some (.ref _ :: _) => true
    | _ => false) && codeB K (proG K c f) (c ++ ("." : Str) ++ f))))
def excB (K : PySem.W.Frag) (C : Addr) : Bool := match K.lookup C with
  | some ⟨.type c, _, .cls cd, sl⟩ => decide (c = "type") && (match cd.mro, sl.toList with
    | .ref C' :: bm, [_, _, _, _, some (.builtin n), _] => decide (C' = C) && (decide (n = "ValueError.__new__") && (!cd.hasDel && (cd.hasDict && PySem.HandSPX.refsVE bm)))
    | _, _ => false)
  | _ => false
def lotB (K : PySem.W.Frag) : Bool := match K.lookup (lotI K) with
  | some ⟨_, _, .func fd, _⟩ => (match fd.code, fd.closure with
    | .ref cda, [(_, cc)] => PySem.W.codeIn K (.ref cda) "LotError.__init__" && ((match K.lookup cda with
        | some ⟨_, _, .fields vs, _⟩ => (match (vs[2]? : Option Value) with
          | some (.str file _) => ((RL.prog.main.file : Str) == file)
          | _ => false)
        | _ => false) && (match K.lookup cc with
        | some ⟨_, _, .cell (some (.ref D)), _⟩ => decide (D = He.ga K "LotError")
        | _ => false))
    | _, _ => false)
  | _ => false
def hEx (K : PySem.W.Frag) : Bool := proB K "Shelf" "parts" && (proB K "Shelf" "circle" && (proB K "Shelf" "pieces" && (proB K "Circle" "names" && (excB K (He.ga K "Unbelieved") && (lotB K &&
  (He.eqO (PySem.W.findIn K (.ref (He.ga K "Unbelieved")) "__setattr__") (some (some (.builtin "object.__setattr__"))) && (decide (PySem.W.subIn K (.ref (He.ga K "Unbelieved")) (.type "BaseException") = some true) && (decide (PySem.W.typeIn K (.ref (He.ga K "Unbelieved")) = some (.type "type")) &&
  (PySem.W.keepIn K (.ref (He.ga K "Unbelieved")) && (He.eqO (PySem.W.findIn K (.ref (He.ga K "Unbelieved")) "__init__") (some (some (.ref (lotI K)))) && (decide (PySem.W.typeIn K (.ref (lotI K)) = some (.type "function")) && (xfB K (He.ga K "Unbelieved") &&
  (He.eqO (PySem.W.findIn K (.ref (He.ga K "Unbelieved")) "value") (some none) && (decide (PySem.W.exmOne K (.ref (He.ga K "Unbelieved")) (.ref (He.ga K "LotError")) = some true) && ((PySem.W.clsIn K (He.ga K "LotError")).isSome && (decide (PySem.W.mroIn K (He.ga K "Unbelieved") (.ref (He.ga K "LotError")) = some true) &&
  (He.eqO (PySem.W.ks_superIn K (He.ga K "Unbelieved") (He.ga K "LotError") "__init__") (some (some (.builtin "ValueError.__init__"))) && (decide (PySem.W.subIn K (.ref (He.ga K "Unbelieved")) (.type "ValueError") = some true) && He.eqO (PySem.W.nsIn K cStatics "thirdparty.any") (some none)))))))))))))))))))
def hTf : List He.Defn := [("_law_is_answered_right", none)]
/-- what the Hook tells -/
structure SaysY (w : World) (h : Heap) (K : PySem.W.Frag) : Prop where
  t : He.SaysT hFa hFn [] w K
  more : hEx K = true
  hd : ∀ p ∈ hTf, PySem.W.codeHdIn K (He.cT K p).1 (He.cT K p).2 = true
  out : ∀ p ∈ hTf, K.lookup (He.cT K p).2 = none
  empty : ∀ p ∈ hTf, h.get? (He.cT K p).2 = some { cls := .none, data := .fields #[] }
  ys : hY.map (fun y => fnY K (y.at_ K)) = hY.map YD.val
abbrev AlY : Type := He.AlX × List FnY
def frY (g : Addr → Option Obj) : PySem.W.Frag := He.frT g (cStatics :: He.asD g 5)
def obsK (g : Addr → Option Obj) (K : PySem.W.Frag) : AlY := ((He.obsT hFa hFn [] K, hEx K && He.tabsB g hTf K), hY.map fun y => fnY K (y.at_ K))
def obsY (g : Addr → Option Obj) : AlY := obsK g (frY g)
def valY (w : World) : AlY := ((He.valT hFn [] w, true), hY.map YD.val)
theorem saysY_of {w : World} {h : Heap} (e : obsY h.get? = valY w) : SaysY w h (frY h.get?) := by
  have e1 : He.obsT hFa hFn [] (frY h.get?) = He.valT hFn [] w := congrArg (fun z : AlY => z.1.1) e
  have e2 : (hEx (frY h.get?) && He.tabsB h.get? hTf (frY h.get?)) = true := congrArg (fun z : AlY => z.1.2) e
  have e3 : hY.map (fun y => fnY (frY h.get?) (y.at_ (frY h.get?))) = hY.map YD.val := congrArg (fun z : AlY => z.2) e
  obtain ⟨h1, h2⟩ := Bool.and_eq_true_iff.mp e2
  have key : ∀ p ∈ hTf, PySem.W.codeHdIn (frY h.get?) (He.cT (frY h.get?) p).1 (He.cT (frY h.get?) p).2 = true ∧ ∃ o, h.get? (He.cT (frY h.get?) p).2 = some o ∧ He.emptyTab o = true := fun p hp => by
    obtain ⟨h3, h4⟩ := Bool.and_eq_true_iff.mp (List.all_eq_true.mp h2 p hp)
    refine ⟨h3, ?_⟩
    cases q : h.get? (He.cT (frY h.get?) p).2 with
    | none =>
      rw [q] at h4
      cases h4
    | some o =>
      rw [q] at h4
      exact ⟨o, rfl, h4⟩
  exact ⟨e1, h1, fun p hp => (key p hp).1, fun p hp => by
    obtain ⟨_, o, q, z⟩ := key p hp
    exact He.frT_none q z, fun p hp => by
    obtain ⟨_, o, q, z⟩ := key p hp
    rw [q, He.emptyTab_eq z], e3⟩
def hHook : PySem.W.Hook where
  α := AlY
  obs := fun s => obsY s.heap.get?
  val := valY
  says := fun w h => ∃ K : PySem.W.Frag, K.In h ∧ SaysY w h K
  of := fun _ _ e => ⟨_, He.frT_in, saysY_of e⟩
  keeps := fun _ _ _ ⟨K, hK, c⟩ k => ⟨K, PySem.W.Frag.In.keeps hK k, ⟨c.t, c.more, c.hd, c.out, fun p hp => k _ _ (c.empty p hp), c.ys⟩⟩
def hOb (s : PySem.W.SharedT) : AlY := obsY (HandSHeadRun.getT s)
theorem hOb_eq (s : PySem.W.SharedT) : hOb s = hHook.obs s.abs := by
  have e : HandSHeadRun.getT s = s.abs.heap.get? := funext (HandSHeadRun.getT_eq s)
  unfold hOb
  rw [e] <;> rfl
def loose0 : List Str := ["_wall", "parity", "bits_of", "LotError", "BadNames", "BadShelf", "BadAnswers", "BadBound", "Unbelieved", "BLANK", "FEED", "PLUS", "SIGNS", "MOST_SIGNS", "is_integer", "is_tuple", "is_word", "is_name", "are_unlike", "FEWEST_KEEPERS_circles", "MOST_KEEPERS_circles", "lot_of", "Circle", "PARTS", "KEEPER", "ONE", "NOUGHT", "MOST_PARTS", "FEWEST_KEEPERS_shelves", "MOST_KEEPERS_shelves"]
def loose1 : List Str := ["MOST_PIECES", "PAIR_shelves", "read_parts", "read_piece", "read_keeper", "read_lines", "all_spots", "Shelf", "spots_of", "bits_at", "record_bits", "record_of", "records", "value_at", "answer_of", "PAIR_answers", "is_answer", "are_answers", "check_answers", "MOST_LIES", "check_bound", "liars_by", "believed_by", "believed", "nearest", "check_believed", "liars", "values_by", "with_answer", "does_lessen"]
def loose2 : List Str := ["asked_more", "_law_pot", "_law_take", "_law_of", "_law_some", "_law_cells", "_law_heard", "_law_is_int", "_law_names", "_law_lot_of", "_law_is_inside", "_law_a_lot", "_law_parts", "_law_piece", "_law_shelf", "_law_shelf_text", "_law_records", "_law_piece_value", "_law_answer", "_law_with", "_law_lied", "_law_believed", "_law_thick_shelf", "_law_who_lied", "_law_does_lessen", "_law_is_answered_right", "_law_right"]
def hLoose : List Str := loose0 ++ loose1 ++ loose2
end LK
set_option maxHeartbeats 0
namespace LK
open PySem PySem.Spec PyProof.Rows L2
theorem hRun (w : World) : HandSHeadRun.RunEq RL (PySem.W.view RL.prog [96]) hHook hOb 6000 hLoose w := by
  intro os
  kernel_rfl
end LK
set_option maxHeartbeats 4000000
namespace LK
open PySem PySem.Spec PyProof.Rows L2
/-! enumerate over a tuple, over a text; zip of a tuple and a text -/
def IteT (K : PySem.W.Frag) (a : Addr) : It :=
  ⟨fun i H => ∃ (xs : List V) (x : V), SqT K H a xs ∧ xs[i]? = some x, fun i H v H' => ∃ T x, v = .ref T ∧ H T = none ∧ H' = upd H T (.tup [.int (i : Nat), x]) ∧ ∀ xs, SqT K H a xs → xs[i]? = some x, fun i H => ∃ xs : List V, SqT K H a xs ∧ xs.length = i⟩
theorem turn_enumT {P : Program} {w : World} {K : PySem.W.Frag} {elts : List Expr} {kk : Nat} {tpos : Pos} (a e it : Addr) (hai : a ≠ it) :
    Turn P w K (.Tuple elts kk tpos) (IteT K a) [e, it] e (fun i h => (∃ old, IsEnum h e it ((i : Nat) : Int) old) ∧ h.IsTupleIter it a i ∧ e ≠ it) where
  mem := by simp
  obj := fun i h st b hb => by
    obtain ⟨⟨old, he⟩, ⟨o, ho, hc, hd⟩, _⟩ := st
    have e' : b = e ∨ b = it := by simpa using hb
    rcases e' with z | z
    · rw [z]; exact ⟨_, he, fun v q => nomatch q⟩
    · rw [z]; exact ⟨o, ho, fun v q => by rw [hd] at q; cases q⟩
  keep := fun i h h' st k => let ⟨⟨old, he⟩, hi, hne⟩ := st; ⟨⟨old, k e (by simp) _ he⟩, hi.at fun o q => k it (by simp) o q, hne⟩
  item := by
    intro X hP hw hK hc i pins s σ H E I hf st hg
    subst hP hw hK
    obtain ⟨⟨old, he⟩, hit, hne⟩ := st
    obtain ⟨xs, x, hq, hx⟩ := hg
    obtain ⟨its, rv, p, hz⟩ := I.tuple hq
    obtain ⟨u, hu, ru⟩ := rv.get hx
    have hel : e < s.heap.objs.size := Heap.lt_size he
    have hil : it < s.heap.objs.size := by obtain ⟨_, q, _⟩ := hit; exact Heap.lt_size q
    have hea : e ≠ a := fun z => by
      obtain ⟨o, ho, hcl, _⟩ := p
      rw [← z] at ho
      have q := he.symm.trans ho
      rw [← Option.some.inj q] at hcl
      simp at hcl
    have hlt : i < its.toArray.size := by
      have := (List.getElem?_eq_some_iff.mp hu).1
      simpa using this
    refine wpAny_pyNext_enum_itemC (D := Draws.tuple (A := X.A.in1) (I.ok.hd hc) it a hai its.toArray) he ⟨hit, p⟩ hlt hne (by simp [hne, hea]) fun x' h' tk hP ho hst hT hsz hk => ?_
    obtain ⟨hit', _⟩ := hst
    have ex' : x' = u := by
      have q : its[i]? = some x' := by simpa using hP
      rw [hu] at q
      exact (Option.some.inj q).symm
    subst ex'
    refine ⟨_, rfl, wpAny_letOwnedTupleGo_enum (s := { s with heap := h', toks := tk + 1 }) ho fun h'' he' sb => ?_⟩
    have hT2 : h''.get? s.heap.objs.size = some { cls := .type "tuple", data := .seq #[.int i tk, x'] } := (sb.2 _ (Nat.ne_of_gt hel)).trans hT
    have new : ObjOk X.prog X.w (upd H s.heap.objs.size (.tup [.int (i : Nat), x])) h'' s.heap.objs.size (.tup [.int (i : Nat), x]) :=
      ⟨by show 2 ≤ sizeLine; decide, [.int i tk, x'], .cons ⟨_, rfl⟩ (.cons ru .nil), ⟨_, hT2, rfl, _, rfl⟩⟩
    have I1 : Inv X pins σ (upd H s.heap.objs.size (.tup [.int (i : Nat), x])) { s with heap := h'', toks := tk + 1 } :=
      I.turnedNew (ch := [e, it]) (fun b ob hb q => (sb.2 b (fun z => hb (by simp [z]))).trans (hk b ob (fun z => hb (by simp [z])) (fun z => hb (by simp [z])) q)) hf (Nat.le_refl _) new
    refine ⟨.ref s.heap.objs.size, _, I1, rfl, ⟨_, x, rfl, I.hok.fresh (Nat.le_refl _), rfl, fun ys hy => by rw [I.tuple_inj hy hq]; exact hx⟩, ⟨⟨x', ?_⟩, hit'.at fun o q => (sb.2 it (Ne.symm hne)).trans q, hne⟩, fun b hb => ?_⟩
    · have e1 : ((i + 1 : Nat) : Int) = (i : Int) + 1 := by omega
      rw [e1]; exact he'
    · have hb' : b < s.heap.objs.size := by
        have e' : b = e ∨ b = it := by simpa using hb
        rcases e' with z | z
        · rw [z]; exact hel
        · rw [z]; exact hil
      rw [upd_ne (Nat.ne_of_lt hb')]
      exact (hf b hb).1
  done := by
    intro X hP hw hK hc i pins s σ H E I hf st hg
    subst hP hw hK
    obtain ⟨⟨old, he⟩, hit, hne⟩ := st
    obtain ⟨xs, hq, hx⟩ := hg
    obtain ⟨its, rv, p, hz⟩ := I.tuple hq
    obtain ⟨f0, f1, f2, f3, f4, f5⟩ := hf it (by simp)
    have hl := rv.length
    have hi : i = its.toArray.size := by simp; omega
    subst hi
    exact wpAny_pyNext_enum_endD (Draws.tuple (A := X.A.in1) (I.ok.hd hc) it a hai its.toArray) he ⟨hit, p⟩ fun h' eb => ⟨rfl, I.turned (t' := s.toks) (fun b o hb q => eb b o hb q) f0 f1 f3 f4 f5⟩
  self := fun A i s Q E st h => let ⟨⟨_, he⟩, _⟩ := st; wpAny_pyIter_enum he h
def iEnumT (K : PySem.W.Frag) (ta : TA) : TI := fun σ H R => ta σ H fun vs H1 => ∃ a xs, vs = [.ref a] ∧ SqT K H1 a xs ∧ R (IteT K a) H1
set_option maxHeartbeats 1000000 in
theorem meets_enumerate_newB1 {v : Value} {o : Obj} {H : Heap → Prop} (B : Begins v o H) :
    Meets (Builtin.«enumerate.__new__» ⟨[.type "enumerate", v], []⟩) (fun _ R s => H s.heap ∧
      R (.ok (.ret (.ref (s.heap.push o).objs.size))) { s with heap := (s.heap.push o).push { cls := .type "enumerate", data := .fields #[.none, .bool false, .ref s.heap.objs.size, rawInt 0, .none, .none] } }) :=
  .of_wp fun prog w A R s h => by
    obtain ⟨hp, g, d, tk, os⟩ := s; obtain ⟨h1, h⟩ := h
    have hsub := sub_enumerate
    have q1 : ∀ {A' : Around} {E : Value → Shared → Prop} {Q : Value → Shared → Prop}, Q (.ref hp.objs.size) ⟨hp.push o, g, d, tk, os⟩ → wpAny (model prog w) A' (pyIter v) Q E ⟨hp, g, d, tk, os⟩ :=
      fun q => B.iter prog w _ _ ⟨hp, g, d, tk, os⟩ _ h1 q
    wp_walk using q1
    refine wpAny_stack_any fun st => wpAny_pure ?_
    split
    · rename_i c _ _ _ _ _
      cases (c == Value.type "enumerate")
      · wp_walk using q1
        exact ⟨_, rfl, h⟩
      · wp_walk using q1
        exact ⟨_, rfl, h⟩
    · wp_walk using q1
      exact ⟨_, rfl, h⟩
theorem enum_begins1 {prog : Program} {w : World} {A : Around} {E : Value → Shared → Prop} {s : Shared} {v : Value} {o : Obj} {H : Heap → Prop} {Q : Value → Shared → Prop} (B : Begins v o H) (h1 : H s.heap)
    (h : ∀ h', IsEnum h' (s.heap.objs.size + 1) s.heap.objs.size 0 .none → h'.get? s.heap.objs.size = some o → h'.objs.size = s.heap.objs.size + 2 →
      (∀ b o, s.heap.get? b = some o → h'.get? b = some o) → Q (.ref (s.heap.objs.size + 1)) { s with heap := h' }) :
    wpAny (model prog w) A (call (.type "enumerate") [v]) Q E s := by
  refine callType_new F.called_enumerate (by decide) (F.typeCall_enumerate_1 _) (F.newCall_enumerate_1 _) (fun obj => F.args_object_init_2 obj _) F.entry_enumerate_new
    (meets_enumerate_newB1 B) ⟨h1, ?_⟩
  have hz : (s.heap.push o).objs.size = s.heap.objs.size + 1 := Heap.size_push ..
  show _ ∧ _
  rw [hz]
  have he : IsEnum ((s.heap.push o).push { cls := .type "enumerate", data := .fields #[.none, .bool false, .ref s.heap.objs.size, rawInt 0, .none, .none] }) (s.heap.objs.size + 1) s.heap.objs.size 0 .none := by
    have := Heap.get?_push_size (s.heap.push o) (o := { cls := .type "enumerate", data := .fields #[.none, .bool false, .ref s.heap.objs.size, rawInt 0, .none, .none] }) rfl
    rw [hz] at this; exact this
  refine ⟨⟨_, he, rfl⟩, h _ he (Heap.get?_push_of_some _ (Heap.get?_push_size _ B.free)) (by rw [Heap.size_push, hz]) fun b o x => Heap.get?_push_of_some _ (Heap.get?_push_of_some _ x)⟩
theorem pi_enumT {X : Cx} {e : Expr} {ta : TA} {p pos tpos : Pos} {elts : List Expr} {kk : Nat} (hg : Gl X "enumerate") (hm : X.mg "enumerate" = none) (ha : PA X [e] ta) (hs : starEach [e] X.env = [(false, eval e X.env)] := by rfl) :
    PI X (.Tuple elts kk tpos) (.Call (.Name "enumerate" p) [e] [] pos) (iEnumT X.K ta) := by
  refine ⟨fun pins s σ H R I h => ?_⟩
  refine Call_ (ld_blt I hg hm boot_enumerate (PyProof.Rows.callWith_type1 (thn (ha.run pos pins s σ H _ I h) fun us s1 ⟨vs, H1, I1, r1, q1⟩ => ?_) hs rfl))
  obtain ⟨a, xs, ex, hq, q⟩ := q1
  subst ex
  cases r1 with
  | cons r rr =>
    cases rr
    cases r
    obtain ⟨its, rv, p', hz⟩ := I1.tuple hq
    have hal : a < s1.heap.objs.size := by obtain ⟨_, ho, _⟩ := p'; exact Heap.lt_size ho
    refine enum_begins1 (begins_tuple a its.toArray) p' fun h' he hit hsz hk => wpAny_pyIter_enum he ?_
    have I2 : Inv X pins σ H1 { s1 with heap := h' } := I1.kept (t' := s1.toks) hk
    refine ⟨s1.heap.objs.size + 1, [s1.heap.objs.size + 1, s1.heap.objs.size], _, _, H1, rfl, I2, turn_enumT a (s1.heap.objs.size + 1) s1.heap.objs.size (Nat.ne_of_lt hal), ⟨⟨.none, he⟩, ⟨_, hit, rfl, rfl⟩, Nat.succ_ne_self _⟩, fun b hb => ?_, q⟩
    have e' : b = s1.heap.objs.size + 1 ∨ b = s1.heap.objs.size := by simpa using hb
    have hle : s1.heap.objs.size ≤ b := by
      rcases e' with z | z
      · rw [z]; exact Nat.le_add_right _ _
      · rw [z]; exact Nat.le_refl _
    exact I1.fpOk hle (I1.hok.fresh hle)
theorem walk_enumT {K : PySem.W.Frag} {a : Addr} {xs : List V} : Walk (IteT K a) xs.length (fun H => SqT K H a xs) (YPair (fun i => some (.int (i : Nat))) (fun i => xs[i]?)) := by
  refine ⟨fun i _ hi q => ⟨xs, xs[i], q, by simp [hi]⟩, fun _ q => ⟨xs, q, rfl⟩, fun i H v H' _ q y => ?_⟩
  obtain ⟨T, x, h1, h2, h3, h4⟩ := y
  exact ⟨T, .int (i : Nat), x, h1, h2, h3, rfl, h4 xs q⟩
/-! enumerate over a text -/
def IteS (z : Str) : It :=
  ⟨fun i _ => i < z.cps.size, fun i H v H' => ∃ T c, v = .ref T ∧ H T = none ∧ H' = upd H T (.tup [.int (i : Nat), .str ⟨#[c]⟩]) ∧ z.cps[i]? = some c, fun i _ => i = z.cps.size⟩
theorem turn_enumS {P : Program} {w : World} {K : PySem.W.Frag} {elts : List Expr} {kk : Nat} {tpos : Pos} (x : Str) (t : Tok) (e it : Addr) :
    Turn P w K (.Tuple elts kk tpos) (IteS x) [e, it] e (fun i h => (∃ old, IsEnum h e it ((i : Nat) : Int) old) ∧ h.IsStrIter it (strIterType x) x t i ∧ e ≠ it) where
  mem := by simp
  obj := fun i h st b hb => by
    obtain ⟨⟨old, he⟩, ⟨o, ho, hc, hd⟩, _⟩ := st
    have e' : b = e ∨ b = it := by simpa using hb
    rcases e' with z | z
    · rw [z]; exact ⟨_, he, fun v q => nomatch q⟩
    · rw [z]; exact ⟨o, ho, fun v q => by rw [hd] at q; cases q⟩
  keep := fun i h h' st k => let ⟨⟨old, he⟩, ⟨o, ho, r⟩, hne⟩ := st; ⟨⟨old, k e (by simp) _ he⟩, ⟨o, k it (by simp) o ho, r⟩, hne⟩
  item := by
    intro X hP hw hK hc i pins s σ H E I hf st hg
    subst hP hw hK
    obtain ⟨⟨old, he⟩, hit, hne⟩ := st
    have hel : e < s.heap.objs.size := Heap.lt_size he
    have hil : it < s.heap.objs.size := by obtain ⟨_, q, _⟩ := hit; exact Heap.lt_size q
    refine wpAny_pyNext_enum_itemC (D := Draws.text (A := X.A.in1) (I.ok.hd hc) it x t) he hit hg hne (by simp [hne]) fun x' h' tk hP ho hit' hT hsz hk => ?_
    obtain ⟨c, u, hcx, rfl⟩ := hP
    refine ⟨_, rfl, wpAny_letOwnedTupleGo_enum (s := { s with heap := h', toks := tk + 1 }) ho fun h'' he' sb => ?_⟩
    have hT2 : h''.get? s.heap.objs.size = some { cls := .type "tuple", data := .seq #[.int i tk, .str ⟨#[c]⟩ u] } := (sb.2 _ (Nat.ne_of_gt hel)).trans hT
    have new : ObjOk X.prog X.w (upd H s.heap.objs.size (.tup [.int (i : Nat), .str ⟨#[c]⟩])) h'' s.heap.objs.size (.tup [.int (i : Nat), .str ⟨#[c]⟩]) :=
      ⟨by show 2 ≤ sizeLine; decide, [.int i tk, .str ⟨#[c]⟩ u], .cons ⟨_, rfl⟩ (.cons ⟨_, rfl⟩ .nil), ⟨_, hT2, rfl, _, rfl⟩⟩
    have I1 : Inv X pins σ (upd H s.heap.objs.size (.tup [.int (i : Nat), .str ⟨#[c]⟩])) { s with heap := h'', toks := tk + 1 } :=
      I.turnedNew (ch := [e, it]) (fun b ob hb q => (sb.2 b (fun z => hb (by simp [z]))).trans (hk b ob (fun z => hb (by simp [z])) (fun z => hb (by simp [z])) q)) hf (Nat.le_refl _) new
    refine ⟨.ref s.heap.objs.size, _, I1, rfl, ⟨_, c, rfl, I.hok.fresh (Nat.le_refl _), rfl, hcx⟩, ⟨⟨.str ⟨#[c]⟩ u, ?_⟩, ?_, hne⟩, fun b hb => ?_⟩
    · have e1 : ((i + 1 : Nat) : Int) = (i : Int) + 1 := by omega
      rw [e1]; exact he'
    · obtain ⟨o, ho', r⟩ := hit'
      exact ⟨o, (sb.2 it (Ne.symm hne)).trans ho', r⟩
    · have hb' : b < s.heap.objs.size := by
        have e' : b = e ∨ b = it := by simpa using hb
        rcases e' with z | z
        · rw [z]; exact hel
        · rw [z]; exact hil
      rw [upd_ne (Nat.ne_of_lt hb')]
      exact (hf b hb).1
  done := by
    intro X hP hw hK hc i pins s σ H E I hf st hg
    subst hP hw hK
    obtain ⟨⟨old, he⟩, hit, hne⟩ := st
    obtain ⟨f0, f1, f2, f3, f4, f5⟩ := hf it (by simp)
    have hi : i = x.cps.size := hg
    subst hi
    exact wpAny_pyNext_enum_endD (Draws.text (A := X.A.in1) (I.ok.hd hc) it x t) he hit fun h' eb => ⟨rfl, I.turned (t' := s.toks) (fun b o hb q => eb b o hb q) f0 f1 f3 f4 f5⟩
  self := fun A i s Q E st h => let ⟨⟨_, he⟩, _⟩ := st; wpAny_pyIter_enum he h
def iEnumS (ta : TA) : TI := fun σ H R => ta σ H fun vs H1 => ∃ x, vs = [.str x] ∧ R (IteS x) H1
theorem pi_enumS {X : Cx} {e : Expr} {ta : TA} {p pos tpos : Pos} {elts : List Expr} {kk : Nat} (hg : Gl X "enumerate") (hm : X.mg "enumerate" = none) (ha : PA X [e] ta) (hs : starEach [e] X.env = [(false, eval e X.env)] := by rfl) :
    PI X (.Tuple elts kk tpos) (.Call (.Name "enumerate" p) [e] [] pos) (iEnumS ta) := by
  refine ⟨fun pins s σ H R I h => ?_⟩
  refine Call_ (ld_blt I hg hm boot_enumerate (PyProof.Rows.callWith_type1 (thn (ha.run pos pins s σ H _ I h) fun us s1 ⟨vs, H1, I1, r1, q1⟩ => ?_) hs rfl))
  obtain ⟨x, ex, q⟩ := q1
  subst ex
  cases r1 with
  | cons r rr =>
    cases rr
    obtain ⟨t, rfl⟩ := r
    refine call_enumerate_str fun h' he hit hsz hk => wpAny_pyIter_enum he ?_
    have I2 : Inv X pins σ H1 { s1 with heap := h' } := I1.kept (t' := s1.toks) hk
    refine ⟨s1.heap.objs.size + 1, [s1.heap.objs.size + 1, s1.heap.objs.size], _, _, H1, rfl, I2, turn_enumS x t (s1.heap.objs.size + 1) s1.heap.objs.size, ⟨⟨.none, he⟩, hit, Nat.succ_ne_self _⟩, fun b hb => ?_, q⟩
    have e' : b = s1.heap.objs.size + 1 ∨ b = s1.heap.objs.size := by simpa using hb
    have hle : s1.heap.objs.size ≤ b := by
      rcases e' with z | z
      · rw [z]; exact Nat.le_add_right _ _
      · rw [z]; exact Nat.le_refl _
    exact I1.fpOk hle (I1.hok.fresh hle)
theorem walk_enumS {z : Str} : Walk (IteS z) z.cps.size (fun _ => True) (YPair (fun i => some (.int (i : Nat))) (fun i => z.cps[i]?.map fun c => V.str ⟨#[c]⟩)) := by
  refine ⟨fun i _ hi _ => hi, fun _ _ => rfl, fun i H v H' _ _ y => ?_⟩
  obtain ⟨T, c, h1, h2, h3, h4⟩ := y
  exact ⟨T, .int (i : Nat), _, h1, h2, h3, rfl, by show Option.map _ _ = _; rw [h4]; rfl⟩
/-! zip of a tuple and a text of one length -/
def ItzTS (K : PySem.W.Frag) (a : Addr) (z : Str) : It :=
  ⟨fun i H => ∃ (xs : List V) (x : V) (c : Nat), SqT K H a xs ∧ xs[i]? = some x ∧ z.cps[i]? = some c ∧ xs.length = z.cps.size,
   fun i H v H' => ∃ T x c, v = .ref T ∧ H T = none ∧ H' = upd H T (.tup [x, .str ⟨#[c]⟩]) ∧ (∀ xs, SqT K H a xs → xs[i]? = some x) ∧ z.cps[i]? = some c,
   fun i H => ∃ xs : List V, SqT K H a xs ∧ xs.length = i ∧ z.cps.size = i⟩
theorem turn_zipTS {P : Program} {w : World} {K : PySem.W.Frag} {elts : List Expr} {kk : Nat} {tpos : Pos} {a z TI TO i1 i2 : Addr} {x : Str} {t : Tok} (D : ZipSep2 z TI TO i1 i2 [i1, a] [i2]) (hai : a ≠ i1) :
    Turn P w K (.Tuple elts kk tpos) (ItzTS K a x) [z, TI, TO, i1, i2] z (fun i h => IsZip h z TI TO .none ∧ IsTupOf2 h TI (.ref i1) (.ref i2) ∧ (∃ x y, IsTupOf2 h TO x y) ∧ h.IsTupleIter i1 a i ∧ h.IsStrIter i2 (strIterType x) x t i) where
  mem := by simp
  obj := fun i h st c hc => by
    obtain ⟨hz, hTI, ⟨x, y, hTO⟩, ⟨o1, e1, _, d1⟩, ⟨o2, e2, _, d2⟩⟩ := st
    have e' : c = z ∨ c = TI ∨ c = TO ∨ c = i1 ∨ c = i2 := by simpa using hc
    rcases e' with q | q | q | q | q
    · rw [q]; exact ⟨_, hz, fun v q => nomatch q⟩
    · rw [q]; exact ⟨_, hTI, fun v q => nomatch q⟩
    · rw [q]; exact ⟨_, hTO, fun v q => nomatch q⟩
    · rw [q]; exact ⟨o1, e1, fun v q => by rw [d1] at q; cases q⟩
    · rw [q]; exact ⟨o2, e2, fun v q => by rw [d2] at q; cases q⟩
  keep := fun i h h' st k => by
    obtain ⟨hz, hTI, ⟨x, y, hTO⟩, h1, ⟨o, ho, r⟩⟩ := st
    exact ⟨k z (by simp) _ hz, k TI (by simp) _ hTI, ⟨x, y, k TO (by simp) _ hTO⟩, h1.at fun o q => k i1 (by simp) o q, ⟨o, k i2 (by simp) o ho, r⟩⟩
  item := by
    intro X hP hw hK hc i pins s σ H E I hf st hg
    subst hP hw hK
    obtain ⟨hz, hTI, ⟨x0, y0, hTO⟩, h1, h2⟩ := st
    obtain ⟨xs, v, c, hqx, hx, hcx, hlen⟩ := hg
    obtain ⟨its, rv, p, _⟩ := I.tuple hqx
    obtain ⟨u, hu, ru⟩ := rv.get hx
    have hzl : z < s.heap.objs.size := Heap.lt_size hz
    have l1 : i < its.toArray.size := by
      have := (List.getElem?_eq_some_iff.mp hu).1
      simpa using this
    have l2 : i < x.cps.size := (Array.getElem?_eq_some_iff.mp hcx).1
    refine wpAny_pyNext_zipD2_item D (Draws.tuple (A := X.A.in1) (I.ok.hd hc) i1 a hai its.toArray) (Draws.text (A := X.A.in1) (I.ok.hd hc) i2 x t) hz hTI hTO ⟨h1, p⟩ h2 l1 l2 fun x1 x2 h' tk hP1 hP2 z' TO' st1 st2 hT hsz hk => ?_
    obtain ⟨h1', _⟩ := st1
    have ex' : x1 = u := by
      have q : its[i]? = some x1 := by simpa using hP1
      rw [hu] at q
      exact (Option.some.inj q).symm
    subst ex'
    obtain ⟨c', tk', hc', rfl⟩ := hP2
    have ec : c' = c := by
      rw [hcx] at hc'
      exact (Option.some.inj hc').symm
    subst ec
    refine ⟨_, rfl, wpAny_letOwnedTupleGo_zip (s := { s with heap := h', toks := tk }) z' fun h'' z'' sb => ?_⟩
    have hT2 : h''.get? s.heap.objs.size = some { cls := .type "tuple", data := .seq #[x1, .str ⟨#[c']⟩ tk'] } := (sb.2 _ (Nat.ne_of_gt hzl)).trans hT
    have new : ObjOk X.prog X.w (upd H s.heap.objs.size (.tup [v, .str ⟨#[c']⟩])) h'' s.heap.objs.size (.tup [v, .str ⟨#[c']⟩]) :=
      ⟨by show 2 ≤ sizeLine; decide, [x1, .str ⟨#[c']⟩ tk'], .cons ru (.cons ⟨_, rfl⟩ .nil), ⟨_, hT2, rfl, _, rfl⟩⟩
    have I1 : Inv X pins σ (upd H s.heap.objs.size (.tup [v, .str ⟨#[c']⟩])) { s with heap := h'', toks := tk } :=
      I.turnedNew (t' := tk) (ch := [z, TI, TO, i1, i2]) (fun c o hb q => (sb.2 c (fun q' => hb (by simp [q']))).trans (hk c o (fun q' => hb (by simp [q'])) (fun q' => hb (by simp [q'])) (fun q' => hb (by simp [q'])) (fun q' => hb (by simp [q'])) q)) hf (Nat.le_refl _) new
    refine ⟨.ref s.heap.objs.size, _, I1, rfl, ⟨_, v, c', rfl, I.hok.fresh (Nat.le_refl _), rfl, fun l hl => by rw [I.tuple_inj hl hqx]; exact hx, hcx⟩, ⟨z'', ?_, ⟨_, _, (sb.2 _ D.TOz).trans TO'⟩, ?_, ?_⟩, fun c hcm => ?_⟩
    · exact (sb.2 _ D.TIz).trans (hk _ _ D.TIz D.TITO D.TIi1 D.TIi2 hTI)
    · exact h1'.at fun o q => (sb.2 _ D.zi1.symm).trans q
    · obtain ⟨o, ho, r⟩ := st2
      exact ⟨o, (sb.2 _ D.zi2.symm).trans ho, r⟩
    · have hlt : c < s.heap.objs.size := by
        have e' : c = z ∨ c = TI ∨ c = TO ∨ c = i1 ∨ c = i2 := by simpa using hcm
        rcases e' with q | q | q | q | q
        · rw [q]; exact hzl
        · rw [q]; exact Heap.lt_size hTI
        · rw [q]; exact Heap.lt_size hTO
        · rw [q]; obtain ⟨_, e1, _⟩ := h1; exact Heap.lt_size e1
        · rw [q]; obtain ⟨_, e2, _⟩ := h2; exact Heap.lt_size e2
      rw [upd_ne (Nat.ne_of_lt hlt)]
      exact (hf c hcm).1
  done := by
    intro X hP hw hK hc i pins s σ H E I hf st hg
    subst hP hw hK
    obtain ⟨hz, hTI, ⟨x0, y0, hTO⟩, h1, h2⟩ := st
    obtain ⟨xs, hqx, hl1, hl2⟩ := hg
    obtain ⟨its, rv, p, _⟩ := I.tuple hqx
    have l1 := rv.length
    have e1 : i = its.toArray.size := by simp; omega
    refine wpAny_pyNext_zipD2_end D (Draws.tuple (A := X.A.in1) (I.ok.hd hc) i1 a hai its.toArray) (Draws.text (A := X.A.in1) (I.ok.hd hc) i2 x t) hz hTI hTO ⟨h1, p⟩ h2 (Nat.le_of_eq e1) (Nat.le_of_eq hl2.symm) (.inl e1) fun h' tk hk => ⟨rfl, I.turnedL (t' := tk) (ch := [z, TI, TO, i1, i2]) (fun c o hb q =>
      hk c o (fun q' => hb (by simp [q'])) (fun q' => hb (by simp [q'])) (fun q' => hb (by simp [q'])) (fun q' => hb (by simp [q'])) q) hf⟩
  self := fun A i s Q E st h => wpAny_pyIter_zip st.1 h
def iZipTS (K : PySem.W.Frag) (ta : TA) : TI := fun σ H R => ta σ H fun vs H1 => ∃ a xs z, vs = [.ref a, .str z] ∧ SqT K H1 a xs ∧ R (ItzTS K a z) H1
theorem pi_zipTS {X : Cx} {e e2 : Expr} {ta : TA} {p pos tpos : Pos} {elts : List Expr} {kk : Nat} (hg : Gl X "zip") (hm : X.mg "zip" = none) (ha : PA X [e, e2] ta)
    (hs : starEach [e, e2] X.env = (false, eval e X.env) :: starEach [e2] X.env := by rfl) (hpl : (backTo pos (starEach [e2] X.env)).any (·.1) = false := by rfl) :
    PI X (.Tuple elts kk tpos) (.Call (.Name "zip" p) [e, e2] [] pos) (iZipTS X.K ta) := by
  refine ⟨fun pins s σ H R I h => ?_⟩
  refine Call_ (ld_blt I hg hm PyProof.Rows.boot_zip (PyProof.Rows.callWith_type1 (thn (ha.run pos pins s σ H _ I h) fun us s1 ⟨vs, H1, I1, r1, q1⟩ => ?_) hs hpl))
  obtain ⟨a, xs, z, ex, hqx, q⟩ := q1
  subst ex
  cases r1 with
  | cons r rr =>
    cases rr with
    | cons r' rr =>
      cases rr
      cases r
      obtain ⟨t, rfl⟩ := r'
      have fresh5 : ∀ c, c ∈ [s1.heap.objs.size + 4, s1.heap.objs.size + 2, s1.heap.objs.size + 3, s1.heap.objs.size, s1.heap.objs.size + 1] → FpOk X pins H1 c := fun c hcm => by
        have e' : c = s1.heap.objs.size + 4 ∨ c = s1.heap.objs.size + 2 ∨ c = s1.heap.objs.size + 3 ∨ c = s1.heap.objs.size ∨ c = s1.heap.objs.size + 1 := by simpa using hcm
        have hle : s1.heap.objs.size ≤ c := by
          rcases e' with z | z | z | z | z
          · rw [z]; exact Nat.le_add_right _ _
          · rw [z]; exact Nat.le_add_right _ _
          · rw [z]; exact Nat.le_add_right _ _
          · rw [z]; exact Nat.le_refl _
          · rw [z]; exact Nat.le_add_right _ _
        exact I1.fpOk hle (I1.hok.fresh hle)
      obtain ⟨its, rv, p1, _⟩ := I1.tuple hqx
      have hal : a < s1.heap.objs.size := by obtain ⟨_, ho, _⟩ := id p1; exact Heap.lt_size ho
      refine zip_begins2 (begins_tuple a its.toArray) (begins_text z t) p1 trivial fun h' hz hTI hTO h1 h2 hsz hk => wpAny_pyIter_zip hz ?_
      have I2 : Inv X pins σ H1 { s1 with heap := h' } := I1.kept (t' := s1.toks) hk
      exact ⟨s1.heap.objs.size + 4, [s1.heap.objs.size + 4, s1.heap.objs.size + 2, s1.heap.objs.size + 3, s1.heap.objs.size, s1.heap.objs.size + 1], _, _, H1, rfl, I2,
        turn_zipTS (x := z) (t := t) (zip_sep2 (N := s1.heap.objs.size) (fp1 := [a]) (fp2 := []) (fun b hb => by simp at hb; rw [hb]; exact hal) (fun b hb => by simp at hb)) (Nat.ne_of_lt hal), ⟨hz, hTI, ⟨_, _, hTO⟩, ⟨_, h1, rfl, rfl⟩, ⟨_, h2, rfl, rfl⟩⟩, fresh5, q⟩
theorem walk_zipTS {K : PySem.W.Frag} {a : Addr} {xs : List V} {z : Str} (hl : xs.length = z.cps.size) : Walk (ItzTS K a z) xs.length (fun H => SqT K H a xs) (YPair (fun i => xs[i]?) (fun i => z.cps[i]?.map fun c => V.str ⟨#[c]⟩)) := by
  refine ⟨fun i _ hi q => ?_, fun _ q => ⟨xs, q, rfl, hl.symm⟩, fun i H v H' _ q y => ?_⟩
  · have h2 : i < z.cps.size := by omega
    exact ⟨xs, xs[i], z.cps[i], q, by simp [hi], by simp [h2], hl⟩
  · obtain ⟨T, x, c, h1, h2, h3, h4, h5⟩ := y
    exact ⟨T, x, _, h1, h2, h3, h4 xs q, by show Option.map _ _ = _; rw [h5]; rfl⟩
end LK
set_option maxHeartbeats 4000000
namespace LK
open PySem PySem.Spec PyProof.Rows L2
/-! ### the weakest readings of syntax -/
structure WpE (X : Cx) (e : Expr) (σ : L2.St) (H : Hp) (Q : VK) : Prop where
  run : ∀ (pins : List (Addr × Obj)) (s : Shared), Inv X pins σ H s → wpAny (model X.prog X.w) X.A (eval e X.env) (EP X pins σ Q) X.xe s
structure WpT (X : Cx) (e : Expr) (σ : L2.St) (H : Hp) (Q : Bool → Hp → Prop) : Prop where
  run : ∀ (pins : List (Addr × Obj)) (s : Shared), Inv X pins σ H s → wpAny (model X.prog X.w) X.A (isTrue e X.env (eval e X.env)) (TP X pins σ Q) X.xe s
structure WpA (X : Cx) (es : List Expr) (σ : L2.St) (H : Hp) (Q : List V → Hp → Prop) : Prop where
  run : ∀ (pos : Pos) (pins : List (Addr × Obj)) (s : Shared), Inv X pins σ H s → wpAny (model X.prog X.w) X.A (spliced (backTo pos (starEach es X.env))) (AP X pins σ Q) X.xe s
structure WpS (X : Cx) (st : Stmt) (D : Ends) (σ : L2.St) (H : Hp) : Prop where
  run : ∀ (pins : List (Addr × Obj)) (s : Shared), Inv X pins σ H s → wpAny (model X.prog X.w) X.A (exec st X.env) (SP X pins D) X.xe s
structure WpSs (X : Cx) (sts : List Stmt) (D : Ends) (σ : L2.St) (H : Hp) : Prop where
  run : ∀ (pins : List (Addr × Obj)) (s : Shared), Inv X pins σ H s → wpAny (model X.prog X.w) X.A (execs sts X.env) (SP X pins D) X.xe s
structure WpI (X : Cx) (tg iter : Expr) (σ : L2.St) (H : Hp) (R : It → Hp → Prop) : Prop where
  run : ∀ (pins : List (Addr × Obj)) (s : Shared), Inv X pins σ H s → wpAny (model X.prog X.w) X.A (eval iter X.env) (fun v s1 => wpAny (model X.prog X.w) X.A (pyIter v) (PIE X pins σ tg R) X.xe s1) X.xe s
structure WpF (X : Cx) (ifs : List Expr) (σ : L2.St) (H : Hp) (Q : Bool → Hp → Prop) : Prop where
  run : ∀ (pins : List (Addr × Obj)) (s : Shared), Inv X pins σ H s → wpAny (model X.prog X.w) X.A (forIn ifs true fun c r => if r = true then do let ok ← isTrue c X.env (eval c X.env); pure (ForInStep.yield ok) else pure (ForInStep.yield r)) (TP X pins σ Q) X.xe s
def wpE (X : Cx) (e : Expr) : TE := fun σ H Q => WpE X e σ H Q
def wpT (X : Cx) (e : Expr) : TT := fun σ H Q => WpT X e σ H Q
def wpA (X : Cx) (es : List Expr) : TA := fun σ H Q => WpA X es σ H Q
def wpS (X : Cx) (st : Stmt) : TS := fun D σ H => WpS X st D σ H
def wpSs (X : Cx) (sts : List Stmt) : TS := fun D σ H => WpSs X sts D σ H
def wpI (X : Cx) (tg iter : Expr) : TI := fun σ H R => WpI X tg iter σ H R
def wpF (X : Cx) (ifs : List Expr) : TT := fun σ H Q => WpF X ifs σ H Q
section
variable {X : Cx} {e tg : Expr} {es : List Expr} {st : Stmt} {sts : List Stmt} {σ : L2.St} {H : Hp}
theorem wpE_pe : PE X e (wpE X e) := ⟨fun pins s _ _ _ I h => h.run pins s I⟩
theorem wpT_pt : PT X e (wpT X e) := ⟨fun pins s _ _ _ I h => h.run pins s I⟩
theorem wpA_pa : PA X es (wpA X es) := ⟨fun pos pins s _ _ _ I h => h.run pos pins s I⟩
theorem wpS_ps : PS X st (wpS X st) := ⟨fun pins s _ _ _ I h => h.run pins s I⟩
theorem wpSs_pss : PSs X sts (wpSs X sts) := ⟨fun pins s _ _ _ I h => h.run pins s I⟩
theorem wpI_pi : PI X tg e (wpI X tg e) := ⟨fun pins s _ _ _ I h => h.run pins s I⟩
theorem wpF_pts : PTs X es (wpF X es) := ⟨fun pins s _ _ _ I h => h.run pins s I⟩
theorem wpE_of {t : TE} {Q : VK} (h : PE X e t) (q : t σ H Q) : wpE X e σ H Q := ⟨fun pins s I => h.run pins s σ H Q I q⟩
theorem wpT_of {t : TT} {Q : Bool → Hp → Prop} (h : PT X e t) (q : t σ H Q) : wpT X e σ H Q := ⟨fun pins s I => h.run pins s σ H Q I q⟩
theorem wpA_of {t : TA} {Q : List V → Hp → Prop} (h : PA X es t) (q : t σ H Q) : wpA X es σ H Q := ⟨fun pos pins s I => h.run pos pins s σ H Q I q⟩
theorem wpS_of {t : TS} {D : Ends} (h : PS X st t) (q : t D σ H) : wpS X st D σ H := ⟨fun pins s I => h.run pins s σ H D I q⟩
theorem wpSs_of {t : TS} {D : Ends} (h : PSs X sts t) (q : t D σ H) : wpSs X sts D σ H := ⟨fun pins s I => h.run pins s σ H D I q⟩
theorem wpI_of {t : TI} {R : It → Hp → Prop} (h : PI X tg e t) (q : t σ H R) : wpI X tg e σ H R := ⟨fun pins s I => h.run pins s σ H R I q⟩
theorem wpF_of {t : TT} {Q : Bool → Hp → Prop} (h : PTs X es t) (q : t σ H Q) : wpF X es σ H Q := ⟨fun pins s I => h.run pins s σ H Q I q⟩
theorem wpE_mono {Q Q' : VK} (h : wpE X e σ H Q) (q : ∀ v H', Q v H' → Q' v H') : wpE X e σ H Q' := ⟨fun pins s I => thn (h.run pins s I) fun _ _ ⟨v, H1, I1, r, z⟩ => ⟨v, H1, I1, r, q v H1 z⟩⟩
theorem wpT_mono {Q Q' : Bool → Hp → Prop} (h : wpT X e σ H Q) (q : ∀ v H', Q v H' → Q' v H') : wpT X e σ H Q' := ⟨fun pins s I => thn (h.run pins s I) fun _ _ ⟨H1, I1, z⟩ => ⟨H1, I1, q _ H1 z⟩⟩
theorem wpA_mono {Q Q' : List V → Hp → Prop} (h : wpA X es σ H Q) (q : ∀ v H', Q v H' → Q' v H') : wpA X es σ H Q' := ⟨fun po pins s I => thn (h.run po pins s I) fun _ _ ⟨v, H1, I1, r, z⟩ => ⟨v, H1, I1, r, q v H1 z⟩⟩
end
/-! ### heaps, relations of values to data that never changes -/
/-- what never changes: all but the lists and the instances -/
def Firm : HO → Prop
  | .lst _ => False
  | .ins _ _ _ => False
  | .tbl _ => False
  | _ => True
/-- all but the lists and the instances stays -/
def SameT (H H' : Hp) : Prop := ∀ b o, H b = some o → Firm o → H' b = some o
theorem Same.T {H H' : Hp} (h : Same H H') : SameT H H' := fun b o e _ => h b o e
theorem SameT.refl (H : Hp) : SameT H H := fun _ _ h _ => h
theorem SameT.trans {H H1 H2 : Hp} (a : SameT H H1) (b : SameT H1 H2) : SameT H H2 := fun c o h n => b c o (a c o h n) n
theorem Same.new {H : Hp} {p : Addr} {o : HO} (h : H p = none) : Same H (upd H p o) := fun a u e => by
  rw [upd_ne (ne_of_none e h)]
  exact e
/-- an object that H does not know may change -/
theorem Same.mut {H H' : Hp} {p : Addr} {o : HO} (e : Same H H') (h : H p = none) : Same H (upd H' p o) := fun a u ha => by
  rw [upd_ne (ne_of_none ha h)]
  exact e a u ha
/-- a list is changed -/
theorem SameT.upd {H : Hp} {p : Addr} {xs : List V} {o : HO} (h : H p = some (.lst xs)) : SameT H (upd H p o) := fun a u e n => by
  by_cases q : a = p
  · rw [q, h] at e
    cases e
    exact n.elim
  · rw [upd_ne q]; exact e
/-- an instance is changed -/
theorem SameT_updI {H : Hp} {p C dx : Addr} {fs : List (Str × V)} {o : HO} (h : H p = some (.ins C dx fs)) : SameT H (upd H p o) := fun a u e n => by
  by_cases q : a = p
  · rw [q, h] at e
    cases e
    exact n.elim
  · rw [upd_ne q]; exact e
structure R (α : Type) where
  rel : Hp → V → α → Prop
  up : ∀ {H H' : Hp} {v : V} {x : α}, SameT H H' → rel H v x → rel H' v x
def R.us {α : Type} (r : R α) (H : Hp) (vs : List V) (xs : List α) : Prop := Paired (r.rel H) vs xs
theorem R.us_up {α : Type} {r : R α} {H H' : Hp} (e : SameT H H') : ∀ {vs : List V} {xs : List α}, r.us H vs xs → r.us H' vs xs
  | _, _, .nil => .nil
  | _, _, .cons a b => .cons (r.up e a) (R.us_up e b)
theorem paired_append {α β : Type} {F : α → β → Prop} : ∀ {a : List α} {b : List β} {c : List α} {d : List β}, Paired F a b → Paired F c d → Paired F (a ++ c) (b ++ d)
  | _, _, _, _, .nil, s => s
  | _, _, _, _, .cons r t, s => .cons r (paired_append t s)
theorem paired_get {α β : Type} {F : α → β → Prop} : ∀ {a : List α} {b : List β} {i : Nat} {x : α}, Paired F a b → a[i]? = some x → ∃ y, b[i]? = some y ∧ F x y
  | _, _, _, _, .nil, e => by simp at e
  | _, _, 0, _, .cons r _, e => by simp at e; subst e; exact ⟨_, rfl, r⟩
  | _, _, i + 1, x, .cons _ t, e => by
    obtain ⟨u, h1, h2⟩ := paired_get (i := i) (x := x) t (by simpa using e)
    exact ⟨u, by simpa using h1, h2⟩
theorem paired_get' {α β : Type} {F : α → β → Prop} : ∀ {a : List α} {b : List β} {i : Nat} {y : β}, Paired F a b → b[i]? = some y → ∃ x, a[i]? = some x ∧ F x y
  | _, _, _, _, .nil, e => by simp at e
  | _, _, 0, _, .cons r _, e => by simp at e; subst e; exact ⟨_, rfl, r⟩
  | _, _, i + 1, x, .cons _ t, e => by
    obtain ⟨u, h1, h2⟩ := paired_get' (i := i) (y := x) t (by simpa using e)
    exact ⟨u, by simpa using h1, h2⟩
def rInt : R Int := ⟨fun _ v i => v = .int i, fun _ h => h⟩
def rStr : R Str := ⟨fun _ v i => v = .str i, fun _ h => h⟩
def rBool : R Bool := ⟨fun _ v i => v = .bl i, fun _ h => h⟩
def rNon : R Unit := ⟨fun _ v _ => v = .non, fun _ h => h⟩
def rVal : R V := ⟨fun _ v i => v = i, fun _ h => h⟩
def rNat : R Nat := ⟨fun _ v i => v = .int i, fun _ h => h⟩
theorem SameT.rd {H H' : Hp} {p : Addr} {vs : List V} (e : SameT H H') (h : Rd H p (.tup vs)) : Rd H' p (.tup vs) := by
  rcases h with h | ⟨o, h⟩
  · exact .inl (e _ _ h trivial)
  · exact .inr ⟨o, e _ _ h trivial⟩
theorem Same.rd {H H' : Hp} {p : Addr} {vs : List V} (e : Same H H') (h : Rd H p (.tup vs)) : Rd H' p (.tup vs) := SameT.rd (Same.T e) h
def rTup {α : Type} (r : R α) : R (List α) := ⟨fun H v xs => ∃ p vs, v = .ref p ∧ Rd H p (.tup vs) ∧ r.us H vs xs, fun e ⟨p, vs, a, b, c⟩ => ⟨p, vs, a, e.rd b, R.us_up e c⟩⟩
/-- a tuple whose own object is known to have no dict (its methods may be called) -/
def rTupN {α : Type} (r : R α) : R (List α) := ⟨fun H v xs => ∃ p vs o, v = .ref p ∧ H p = some (.frz o (.tup vs)) ∧ o.dict = none ∧ r.us H vs xs, fun e ⟨p, vs, o, a, b, d, c⟩ => ⟨p, vs, o, a, e _ _ b trivial, d, R.us_up e c⟩⟩
theorem rTupN_tup {α : Type} {r : R α} {H : Hp} {v : V} {xs : List α} (h : (rTupN r).rel H v xs) : (rTup r).rel H v xs := by
  obtain ⟨p, vs, o, a, b, d, c⟩ := h
  exact ⟨p, vs, a, .inr ⟨o, b⟩, c⟩
def rPair {α β : Type} (r : R α) (t : R β) : R (α × β) := ⟨fun H v x => ∃ p a b, v = .ref p ∧ H p = some (.tup [a, b]) ∧ r.rel H a x.1 ∧ t.rel H b x.2, fun e ⟨p, a, b, h, k, l, m⟩ => ⟨p, a, b, h, e _ _ k trivial, r.up e l, t.up e m⟩⟩
def rTri {α β γ : Type} (r : R α) (t : R β) (u : R γ) : R (α × β × γ) := ⟨fun H v x => ∃ p a b c, v = .ref p ∧ H p = some (.tup [a, b, c]) ∧ r.rel H a x.1 ∧ t.rel H b x.2.1 ∧ u.rel H c x.2.2,
  fun e ⟨p, a, b, c, h, k, l, m, n⟩ => ⟨p, a, b, c, h, e _ _ k trivial, r.up e l, t.up e m, u.up e n⟩⟩
def rOpt {α : Type} (r : R α) : R (Option α) := ⟨fun H v x => match x with
  | none => v = .non
  | some y => r.rel H v y ∧ v ≠ .non, fun {H H' v x} e h => by
    cases x with
    | none => exact h
    | some y => exact ⟨r.up e h.1, h.2⟩⟩
/-- with a fact -/
def rSub {α : Type} (r : R α) (p : α → Prop) : R α := ⟨fun H v x => r.rel H v x ∧ p x, fun e h => ⟨r.up e h.1, h.2⟩⟩
theorem us_length {α : Type} {r : R α} {H : Hp} {vs : List V} {xs : List α} (h : r.us H vs xs) : vs.length = xs.length := Paired.length h
theorem us_str {H : Hp} : ∀ {vs : List V} {xs : List Str}, rStr.us H vs xs → vs = xs.map V.str
  | _, _, .nil => rfl
  | _, _, .cons a b => by rw [show _ = _ from a, us_str b]; rfl
theorem us_int {H : Hp} : ∀ {vs : List V} {xs : List Int}, rInt.us H vs xs → vs = xs.map V.int
  | _, _, .nil => rfl
  | _, _, .cons a b => by rw [show _ = _ from a, us_int b]; rfl
theorem us_bool {H : Hp} : ∀ {vs : List V} {xs : List Bool}, rBool.us H vs xs → vs = xs.map V.bl
  | _, _, .nil => rfl
  | _, _, .cons a b => by rw [show _ = _ from a, us_bool b]; rfl
theorem str_us {H : Hp} : ∀ (xs : List Str), rStr.us H (xs.map V.str) xs
  | [] => .nil
  | _ :: r => .cons rfl (str_us r)
theorem int_us {H : Hp} : ∀ (xs : List Int), rInt.us H (xs.map V.int) xs
  | [] => .nil
  | _ :: r => .cons rfl (int_us r)
/-! ### what an expression comes to -/
section
variable {α β γ : Type}
/-- from what H knows on, e comes to x (told by r); all that was stays -/
def Ev (X : Cx) (e : Expr) (σ : L2.St) (H : Hp) (r : R α) (x : α) : Prop := ∀ H1, Same H H1 → ∀ Q : VK, (∀ v H2, Same H1 H2 → r.rel H2 v x → Q v H2) → wpE X e σ H1 Q
/-- .. to a new list -/
def EvL (X : Cx) (e : Expr) (σ : L2.St) (H : Hp) (r : R α) (xs : List α) : Prop := ∀ H1, Same H H1 → ∀ Q : VK, (∀ p vs H2, H1 p = none → Same H1 H2 → H2 p = some (.lst vs) → r.us H2 vs xs → Q (.ref p) H2) → wpE X e σ H1 Q
def EvT (X : Cx) (e : Expr) (σ : L2.St) (H : Hp) (b : Bool) : Prop := ∀ H1, Same H H1 → ∀ Q : Bool → Hp → Prop, (∀ H2, Same H1 H2 → Q b H2) → wpT X e σ H1 Q
def EvF (X : Cx) (es : List Expr) (σ : L2.St) (H : Hp) (b : Bool) : Prop := ∀ H1, Same H H1 → ∀ Q : Bool → Hp → Prop, (∀ H2, Same H1 H2 → Q b H2) → wpF X es σ H1 Q
structure RA (ι : Type) where
  rel : Hp → List V → ι → Prop
  up : ∀ {H H' : Hp} {vs : List V} {x : ι}, Same H H' → rel H vs x → rel H' vs x
def EvA (X : Cx) (es : List Expr) (σ : L2.St) (H : Hp) (A : RA α) (x : α) : Prop := ∀ H1, Same H H1 → ∀ Q : List V → Hp → Prop, (∀ vs H2, Same H1 H2 → A.rel H2 vs x → Q vs H2) → wpA X es σ H1 Q
def aNil : RA Unit := ⟨fun _ vs _ => vs = [], fun _ h => h⟩
def aCons (r : R α) (A : RA β) : RA (α × β) := ⟨fun H vs x => ∃ v ws, vs = v :: ws ∧ r.rel H v x.1 ∧ A.rel H ws x.2, fun e ⟨v, ws, a, b, c⟩ => ⟨v, ws, a, r.up (Same.T e) b, A.up e c⟩⟩
/-- a relation that leans on lists too -/
structure RS (α : Type) where
  rel : Hp → V → α → Prop
  up : ∀ {H H' : Hp} {v : V} {x : α}, Same H H' → rel H v x → rel H' v x
def R.s (r : R α) : RS α := ⟨r.rel, fun e h => r.up (Same.T e) h⟩
def rLst (r : R α) : RS (List α) := ⟨fun H v xs => ∃ p vs, v = .ref p ∧ H p = some (.lst vs) ∧ r.us H vs xs, fun e ⟨p, vs, a, b, c⟩ => ⟨p, vs, a, e _ _ b, R.us_up (Same.T e) c⟩⟩
def EvS (X : Cx) (e : Expr) (σ : L2.St) (H : Hp) (r : RS α) (x : α) : Prop := ∀ H1, Same H H1 → ∀ Q : VK, (∀ v H2, Same H1 H2 → r.rel H2 v x → Q v H2) → wpE X e σ H1 Q
def aConsS (r : RS α) (A : RA β) : RA (α × β) := ⟨fun H vs x => ∃ v ws, vs = v :: ws ∧ r.rel H v x.1 ∧ A.rel H ws x.2, fun e ⟨v, ws, a, b, c⟩ => ⟨v, ws, a, r.up e b, A.up e c⟩⟩
/-- the arguments all of one kind -/
def aAll (r : R α) : RA (List α) := ⟨fun H vs xs => r.us H vs xs, fun e h => R.us_up (Same.T e) h⟩
variable {X : Cx} {e a b c : Expr} {es : List Expr} {σ : L2.St} {H H' : Hp} {r : R α} {t : R β} {x : α} {y : β} {pos : Pos} {n : Str}
theorem Ev.mono (q : Same H H') (h : Ev X e σ H r x) : Ev X e σ H' r x := fun H1 s => h H1 (q.trans s)
theorem EvL.mono {xs : List α} (q : Same H H') (h : EvL X e σ H r xs) : EvL X e σ H' r xs := fun H1 s => h H1 (q.trans s)
theorem EvS.mono {r : RS α} (q : Same H H') (h : EvS X e σ H r x) : EvS X e σ H' r x := fun H1 s => h H1 (q.trans s)
theorem EvT.mono {k : Bool} (q : Same H H') (h : EvT X e σ H k) : EvT X e σ H' k := fun H1 s => h H1 (q.trans s)
theorem EvA.mono {A : RA β} (q : Same H H') (h : EvA X es σ H A y) : EvA X es σ H' A y := fun H1 s => h H1 (q.trans s)
theorem Ev.s (h : Ev X e σ H r x) : EvS X e σ H r.s x := h
theorem EvS.ev (h : EvS X e σ H r.s x) : Ev X e σ H r x := h
theorem EvL.s {xs : List α} (h : EvL X e σ H r xs) : EvS X e σ H (rLst r) xs := fun H1 s Q q => h H1 s Q fun p vs H2 _ s2 h2 u => q _ H2 s2 ⟨p, vs, rfl, h2, u⟩
theorem Ev.eq {x' : α} (h : Ev X e σ H r x) (q : x = x') : Ev X e σ H r x' := q ▸ h
theorem EvL.eq {x x' : List α} (h : EvL X e σ H r x) (q : x = x') : EvL X e σ H r x' := q ▸ h
theorem EvT.eq {x x' : Bool} (h : EvT X e σ H x) (q : x = x') : EvT X e σ H x' := q ▸ h
theorem Ev.to (h : Ev X e σ H r x) (q : ∀ H v, r.rel H v x → t.rel H v y) : Ev X e σ H t y := fun H1 s Q k => h H1 s Q fun v H2 s2 z => k v H2 s2 (q H2 v z)
/-! names and constants -/
theorem ev_nmS (i : Nat) {v : V} {r : RS α} (h : σ[i]? = some (some v)) (hr : r.rel H v x) (hN : X.N[i]? = some n := by rfl) (hv : Vis X.env.scope n := by first | exact Or.inl rfl | exact Or.inr (Or.inl rfl) | exact Or.inr (Or.inr rfl)) (hd : (n == ("__debug__" : Str)) = false := by decide)
    (hcd : (n == ("__classdict__" : Str)) = false := by decide) : EvS X (.Name n pos) σ H r x := fun H1 s Q q => wpE_of (pe_var hN hv hd hcd) ⟨v, h, q v H1 (Same.refl _) (r.up s hr)⟩
theorem ev_nm (i : Nat) {v : V} (h : σ[i]? = some (some v)) (hr : r.rel H v x) (hN : X.N[i]? = some n := by rfl) (hv : Vis X.env.scope n := by first | exact Or.inl rfl | exact Or.inr (Or.inl rfl) | exact Or.inr (Or.inr rfl)) (hd : (n == ("__debug__" : Str)) = false := by decide)
    (hcd : (n == ("__classdict__" : Str)) = false := by decide) : Ev X (.Name n pos) σ H r x := ev_nmS (r := r.s) i h hr hN hv hd hcd
theorem ev_int {i : Int} {j : Nat} : Ev X (.Constant (.int i) j pos) σ H rInt i := fun H1 s Q q => wpE_of pe_int (q _ H1 (Same.refl _) rfl)
theorem ev_str {z : Str} {j : Nat} : Ev X (.Constant (.str z) j pos) σ H rStr z := fun H1 s Q q => wpE_of pe_str (q _ H1 (Same.refl _) rfl)
theorem ev_bl {z : Bool} {j : Nat} : Ev X (.Constant (.bool z) j pos) σ H rBool z := fun H1 s Q q => wpE_of pe_bl (q _ H1 (Same.refl _) rfl)
theorem ev_non {j : Nat} : Ev X (.Constant .none j pos) σ H rVal .non := fun H1 s Q q => wpE_of pe_non (q _ H1 (Same.refl _) rfl)
theorem ev_glI {i : Int} {k : Tok} (hm : X.mg n = some (.int i k)) (hg : Gl X n := by rfl) (hd : (n == ("__debug__" : Str)) = false := by decide) : Ev X (.Name n pos) σ H rInt i := fun H1 s Q q => wpE_of (pe_glob (v := .int i) hg hm ⟨k, rfl⟩ hd) (q _ H1 (Same.refl _) rfl)
theorem ev_glS {i : Str} {k : Tok} (hm : X.mg n = some (.str i k)) (hg : Gl X n := by rfl) (hd : (n == ("__debug__" : Str)) = false := by decide) : Ev X (.Name n pos) σ H rStr i := fun H1 s Q q => wpE_of (pe_glob (v := .str i) hg hm ⟨k, rfl⟩ hd) (q _ H1 (Same.refl _) rfl)
theorem ev_gl {v : V} {u : Value} (hm : X.mg n = some u) (ru : RelV v u) (hg : Gl X n := by rfl) (hd : (n == ("__debug__" : Str)) = false := by decide) : Ev X (.Name n pos) σ H rVal v := fun H1 s Q q => wpE_of (pe_glob hg hm ru hd) (q _ H1 (Same.refl _) rfl)
/-! two-place operations by values -/
theorem ev_op {op : Operator} {f : R2} {u : R γ} {z : γ} (ho : OpR X (binaryOp op) f) (ha : Ev X a σ H r x) (hb : Ev X b σ H t y)
    (h : ∀ v w H1 (Q : VK), Same H H1 → r.rel H1 v x → t.rel H1 w y → (∀ k H2, Same H1 H2 → u.rel H2 k z → Q k H2) → f v w H1 Q) : Ev X (.BinOp a op b pos) σ H u z := fun H1 s Q q =>
  wpE_of (pe_op ho wpE_pe wpE_pe) (ha H1 s _ fun v H2 s2 rv => hb H2 (s.trans s2) _ fun w H3 s3 rw => h v w H3 Q ((s.trans s2).trans s3) (r.up (Same.T s3) rv) rw fun k H4 s4 z => q k H4 ((s2.trans s3).trans s4) z)
theorem ev_cmp {op : CmpOp} {f : R2} {k : Bool} (ho : OpR X (compareOp op) f) (ha : Ev X a σ H r x) (hb : Ev X b σ H t y)
    (h : ∀ v w H1 (Q : VK), Same H H1 → r.rel H1 v x → t.rel H1 w y → Q (.bl k) H1 → f v w H1 Q) (hm : behindInMarks op b = false := by rfl) : Ev X (.Compare a [op] [b] pos) σ H rBool k := fun H1 s Q q =>
  wpE_of (pe_cmpR ho wpE_pe wpE_pe hm) (ha H1 s _ fun v H2 s2 rv => hb H2 (s.trans s2) _ fun w H3 s3 rw => h v w H3 Q ((s.trans s2).trans s3) (r.up (Same.T s3) rv) rw (q _ H3 (s2.trans s3) rfl))
theorem et_cmp {op : CmpOp} {f : R2} {k : Bool} (ho : OpR X (compareOp op) f) (ha : Ev X a σ H r x) (hb : Ev X b σ H t y)
    (h : ∀ v w H1 (Q : VK), Same H H1 → r.rel H1 v x → t.rel H1 w y → Q (.bl k) H1 → f v w H1 Q) (hm : behindInMarks op b = false := by rfl) : EvT X (.Compare a [op] [b] pos) σ H k := fun H1 s Q q =>
  wpT_of (pt_cmpR ho wpE_pe wpE_pe hm) (ha H1 s _ fun v H2 s2 rv => hb H2 (s.trans s2) _ fun w H3 s3 rw => h v w H3 _ ((s.trans s2).trans s3) (r.up (Same.T s3) rv) rw ⟨k, rfl, q H3 (s2.trans s3)⟩)
/-! tests -/
theorem et_val {k : Bool} (h : Ev X e σ H rBool k) (he : ∀ whole, isTrue e X.env whole = (do let v ← whole; standAt e.pos; holding [v] (truthy v)) := by intro _; rfl) : EvT X e σ H k := fun H1 s Q q =>
  wpT_of (pt_val wpE_pe he) (h H1 s _ fun v H2 s2 rv => ⟨k, rv, q H2 s2⟩)
structure WpW (X : Cx) (e : Expr) (σ : L2.St) (H : Hp) (Q : Bool → Hp → Prop) : Prop where
  run : ∀ (whole : Sem Value) (pins : List (Addr × Obj)) (s : Shared), Inv X pins σ H s → wpAny (model X.prog X.w) X.A (isTrue e X.env whole) (TP X pins σ Q) X.xe s
def wpW (X : Cx) (e : Expr) : TT := fun σ H Q => WpW X e σ H Q
theorem wpW_pw : PW X e (wpW X e) := ⟨fun wh pins s _ _ _ I h => h.run wh pins s I⟩
theorem wpW_of {t : TT} {Q : Bool → Hp → Prop} (h : PW X e t) (q : t σ H Q) : wpW X e σ H Q := ⟨fun wh pins s I => h.run wh pins s σ H Q I q⟩
def EvW (X : Cx) (e : Expr) (σ : L2.St) (H : Hp) (b : Bool) : Prop := ∀ H1, Same H H1 → ∀ Q : Bool → Hp → Prop, (∀ H2, Same H1 H2 → Q b H2) → wpW X e σ H1 Q
theorem ew_t {k : Bool} (h : EvW X e σ H k) : EvT X e σ H k := fun H1 s Q q => wpT_of wpW_pw.pt (h H1 s Q q)
theorem ew_and1 {k : Bool} (h : EvT X a σ H k) : EvW X (.BoolOp .And [a] pos) σ H k := fun H1 s Q q => wpW_of (pw_and1 wpT_pt) (h H1 s Q q)
theorem ew_or1 {k : Bool} (h : EvT X a σ H k) : EvW X (.BoolOp .Or [a] pos) σ H k := fun H1 s Q q => wpW_of (pw_or1 wpT_pt) (h H1 s Q q)
theorem ew_and {k l : Bool} {rest : List Expr} (h : EvT X a σ H k) (h2 : k = true → EvW X (.BoolOp .And (b :: rest) pos) σ H l) : EvW X (.BoolOp .And (a :: b :: rest) pos) σ H (k && l) := fun H1 s Q q =>
  wpW_of (pw_and wpT_pt wpW_pw) (h H1 s _ fun H2 s2 => by
    cases k with
    | true => exact iteT (h2 rfl H2 (s.trans s2) Q fun H3 s3 => q H3 (s2.trans s3))
    | false => exact iteF (q H2 s2))
theorem ew_or {k l : Bool} {rest : List Expr} (h : EvT X a σ H k) (h2 : k = false → EvW X (.BoolOp .Or (b :: rest) pos) σ H l) : EvW X (.BoolOp .Or (a :: b :: rest) pos) σ H (k || l) := fun H1 s Q q =>
  wpW_of (pw_or wpT_pt wpW_pw) (h H1 s _ fun H2 s2 => by
    cases k with
    | true => exact iteT (q H2 s2)
    | false => exact iteF (h2 rfl H2 (s.trans s2) Q fun H3 s3 => q H3 (s2.trans s3)))
theorem et_and {k l : Bool} (h : EvT X a σ H k) (h2 : k = true → EvT X b σ H l) : EvT X (.BoolOp .And [a, b] pos) σ H (k && l) := ew_t (ew_and h fun z => ew_and1 (h2 z))
theorem et_or {k l : Bool} (h : EvT X a σ H k) (h2 : k = false → EvT X b σ H l) : EvT X (.BoolOp .Or [a, b] pos) σ H (k || l) := ew_t (ew_or h fun z => ew_or1 (h2 z))
theorem et_or3 {k l m : Bool} (h : EvT X a σ H k) (h2 : k = false → EvT X b σ H l) (h3 : k = false → l = false → EvT X c σ H m) : EvT X (.BoolOp .Or [a, b, c] pos) σ H (k || (l || m)) := ew_t (ew_or h fun z => ew_or (h2 z) fun z' => ew_or1 (h3 z z'))
theorem et_and3 {k l m : Bool} (h : EvT X a σ H k) (h2 : k = true → EvT X b σ H l) (h3 : k = true → l = true → EvT X c σ H m) : EvT X (.BoolOp .And [a, b, c] pos) σ H (k && (l && m)) := ew_t (ew_and h fun z => ew_and (h2 z) fun z' => ew_and1 (h3 z z'))
theorem et_not {k : Bool} (h : EvT X a σ H k) : EvT X (.UnaryOp .Not a pos) σ H (!k) := fun H1 s Q q => wpT_of (pt_not wpT_pt) (h H1 s _ fun H2 s2 => q H2 s2)
/-! .. as values -/
theorem ev_and1 {k : Bool} (h : Ev X a σ H rBool k) : Ev X (.BoolOp .And [a] pos) σ H rBool k := fun H1 s Q q => wpE_of (pe_one wpE_pe) (h H1 s Q q)
theorem ev_or1 {k : Bool} (h : Ev X a σ H rBool k) : Ev X (.BoolOp .Or [a] pos) σ H rBool k := fun H1 s Q q => wpE_of (pe_one wpE_pe) (h H1 s Q q)
theorem ev_andC {k l : Bool} {rest : List Expr} (h : Ev X a σ H rBool k) (h2 : k = true → Ev X (.BoolOp .And (b :: rest) pos) σ H rBool l) : Ev X (.BoolOp .And (a :: b :: rest) pos) σ H rBool (k && l) := fun H1 s Q q =>
  wpE_of (pe_and wpE_pe wpE_pe) (h H1 s _ fun v H2 s2 rv => ⟨k, rv, by
    cases k with
    | true => exact iteT (h2 rfl H2 (s.trans s2) Q fun v H3 s3 z => q v H3 (s2.trans s3) z)
    | false => exact iteF (q _ H2 s2 rfl)⟩)
theorem ev_orC {k l : Bool} {rest : List Expr} (h : Ev X a σ H rBool k) (h2 : k = false → Ev X (.BoolOp .Or (b :: rest) pos) σ H rBool l) : Ev X (.BoolOp .Or (a :: b :: rest) pos) σ H rBool (k || l) := fun H1 s Q q =>
  wpE_of (pe_or wpE_pe wpE_pe) (h H1 s _ fun v H2 s2 rv => ⟨k, rv, by
    cases k with
    | true => exact iteT (q _ H2 s2 rfl)
    | false => exact iteF (h2 rfl H2 (s.trans s2) Q fun v H3 s3 z => q v H3 (s2.trans s3) z)⟩)
theorem ev_and {k l : Bool} (h : Ev X a σ H rBool k) (h2 : k = true → Ev X b σ H rBool l) : Ev X (.BoolOp .And [a, b] pos) σ H rBool (k && l) := ev_andC h fun z => ev_and1 (h2 z)
theorem ev_or {k l : Bool} (h : Ev X a σ H rBool k) (h2 : k = false → Ev X b σ H rBool l) : Ev X (.BoolOp .Or [a, b] pos) σ H rBool (k || l) := ev_orC h fun z => ev_or1 (h2 z)
theorem ev_and3 {k l m : Bool} (h : Ev X a σ H rBool k) (h2 : k = true → Ev X b σ H rBool l) (h3 : k = true → l = true → Ev X c σ H rBool m) : Ev X (.BoolOp .And [a, b, c] pos) σ H rBool (k && (l && m)) := ev_andC h fun z => ev_andC (h2 z) fun z' => ev_and1 (h3 z z')
theorem ev_not {k : Bool} (h : Ev X a σ H rBool k) : Ev X (.UnaryOp .Not a pos) σ H rBool (!k) := fun H1 s Q q => wpE_of (pe_not wpE_pe) (h H1 s _ fun v H2 s2 rv => ⟨k, rv, q _ H2 s2 rfl⟩)
theorem ev_if {k : Bool} (h : EvT X c σ H k) (h1 : k = true → Ev X a σ H r x) (h2 : k = false → Ev X b σ H r x) : Ev X (.IfExp c a b pos) σ H r x := fun H1 s Q q =>
  wpE_of (pe_ifExp wpT_pt wpE_pe wpE_pe) (h H1 s _ fun H2 s2 => by
    cases k with
    | true => exact iteT (h1 rfl H2 (s.trans s2) Q fun v H3 s3 z => q v H3 (s2.trans s3) z)
    | false => exact iteF (h2 rfl H2 (s.trans s2) Q fun v H3 s3 z => q v H3 (s2.trans s3) z))
/-! arguments -/
theorem ea_nil : EvA X [] σ H aNil () := fun H1 s Q q => wpA_of pa_nil (q [] H1 (Same.refl _) rfl)
theorem ea_consS {r : RS α} {A : RA β} (h : EvS X e σ H r x) (hr : EvA X es σ H A y) (hs : starEach (e :: es) X.env = (false, eval e X.env) :: starEach es X.env := by rfl) : EvA X (e :: es) σ H (aConsS r A) (x, y) := fun H1 s Q q =>
  wpA_of (pa_cons wpE_pe wpA_pa hs) (h H1 s _ fun v H2 s2 rv => hr H2 (s.trans s2) _ fun vs H3 s3 ra => q (v :: vs) H3 (s2.trans s3) ⟨v, vs, rfl, r.up s3 rv, ra⟩)
theorem ea_cons {A : RA β} (h : Ev X e σ H r x) (hr : EvA X es σ H A y) (hs : starEach (e :: es) X.env = (false, eval e X.env) :: starEach es X.env := by rfl) : EvA X (e :: es) σ H (aCons r A) (x, y) := ea_consS (r := r.s) h hr hs
theorem el_nil : EvA X [] σ H (aAll r) [] := fun H1 s Q q => wpA_of pa_nil (q [] H1 (Same.refl _) .nil)
theorem el_cons {xs : List α} (h : Ev X e σ H r x) (hr : EvA X es σ H (aAll r) xs) (hs : starEach (e :: es) X.env = (false, eval e X.env) :: starEach es X.env := by rfl) : EvA X (e :: es) σ H (aAll r) (x :: xs) := fun H1 s Q q =>
  wpA_of (pa_cons wpE_pe wpA_pa hs) (h H1 s _ fun v H2 s2 rv => hr H2 (s.trans s2) _ fun vs H3 s3 ra => q (v :: vs) H3 (s2.trans s3) (.cons (r.up (Same.T s3) rv) ra))
/-! tuples and lists, written -/
theorem sz_of {n : Nat} (h : n ≤ 100000) : n ≤ sizeLine := Nat.le_trans h (by decide)
theorem sz_lt {n : Nat} (h : n < 100000) : n < sizeLine := Nat.lt_of_lt_of_le h (by decide)
theorem ev_tup {xs : List α} {x1} (h : EvA X es σ H (aAll r) xs) (hl : xs.length ≤ 100000) : Ev X (.Tuple es x1 pos) σ H (rTup r) xs := fun H1 s Q q =>
  wpE_of (pe_tup wpA_pa) (h H1 s _ fun vs H2 s2 ru => ⟨sz_of (by rw [us_length ru]; exact hl), fun p hp => q _ _ (s2.trans (Same.new hp)) ⟨p, vs, rfl, .inl upd_same, R.us_up (Same.T (Same.new hp)) ru⟩⟩)
theorem el_lst {xs : List α} (h : EvA X es σ H (aAll r) xs) (hl : xs.length ≤ 100000) : EvL X (.List es pos) σ H r xs := fun H1 s Q q =>
  wpE_of (pe_lst wpA_pa) (h H1 s _ fun vs H2 s2 ru => ⟨sz_of (by rw [us_length ru]; exact hl), fun p hp => q p vs _ (by
    cases z : H1 p with
    | none => rfl
    | some o => rw [s2 p o z] at hp; cases hp) (s2.trans (Same.new hp)) upd_same (R.us_up (Same.T (Same.new hp)) ru)⟩)
theorem ev_pair {x1} (ha : Ev X a σ H r x) (hb : Ev X b σ H t y) (hs : starEach [a, b] X.env = (false, eval a X.env) :: starEach [b] X.env := by rfl) (hs2 : starEach [b] X.env = (false, eval b X.env) :: starEach [] X.env := by rfl) : Ev X (.Tuple [a, b] x1 pos) σ H (rPair r t) (x, y) := fun H1 s Q q =>
  wpE_of (pe_tup (pa_cons wpE_pe (pa_cons wpE_pe pa_nil hs2) hs)) (ha H1 s _ fun v H2 s2 rv => hb H2 (s.trans s2) _ fun w H3 s3 rw => ⟨sz_of (by simp), fun p hp =>
    q _ _ ((s2.trans s3).trans (Same.new hp)) ⟨p, v, w, rfl, upd_same, r.up (Same.T (s3.trans (Same.new hp))) rv, t.up (Same.T (Same.new hp)) rw⟩⟩)
theorem ev_tri {x1} {u : R γ} {z : γ} (ha : Ev X a σ H r x) (hb : Ev X b σ H t y) (hc : Ev X c σ H u z) (hs : starEach [a, b, c] X.env = (false, eval a X.env) :: starEach [b, c] X.env := by rfl) (hs2 : starEach [b, c] X.env = (false, eval b X.env) :: starEach [c] X.env := by rfl)
    (hs3 : starEach [c] X.env = (false, eval c X.env) :: starEach [] X.env := by rfl) : Ev X (.Tuple [a, b, c] x1 pos) σ H (rTri r t u) (x, y, z) := fun H1 s Q q =>
  wpE_of (pe_tup (pa_cons wpE_pe (pa_cons wpE_pe (pa_cons wpE_pe pa_nil hs3) hs2) hs)) (ha H1 s _ fun v H2 s2 rv => hb H2 (s.trans s2) _ fun w H3 s3 rw => hc H3 ((s.trans s2).trans s3) _ fun w' H4 s4 rw' => ⟨sz_of (by simp), fun p hp =>
    q _ _ (((s2.trans s3).trans s4).trans (Same.new hp)) ⟨p, v, w, w', rfl, upd_same, r.up (Same.T ((s3.trans s4).trans (Same.new hp))) rv, t.up (Same.T (s4.trans (Same.new hp))) rw, u.up (Same.T (Same.new hp)) rw'⟩⟩)
end
end LK
set_option maxHeartbeats 4000000
namespace LK
open PySem PySem.Spec PyProof.Rows L2
section
variable {α β γ : Type}
/-- an iterator that goes through xs, as long as B stands and no more than lists change -/
structure WalkOk (J : It) (B H2 : Hp) (r : R α) (xs : List α) : Prop where
  goes : ∀ i Ha, i < xs.length → Same B Ha → SameT H2 Ha → J.go i Ha
  stops : ∀ Ha, Same B Ha → SameT H2 Ha → J.stop xs.length Ha
  yields : ∀ i Ha v Hb, i < xs.length → Same B Ha → SameT H2 Ha → J.yld i Ha v Hb → Same Ha Hb ∧ ∃ x, xs[i]? = some x ∧ r.rel Hb v x
def EvI (X : Cx) (tg iter : Expr) (σ : L2.St) (H : Hp) (r : R α) (xs : List α) : Prop := ∀ H1, Same H H1 → ∀ Rr : It → Hp → Prop,
  (∀ J B H2, Same H B → Same B H2 → Same H1 H2 → (∀ a, H1 a ≠ none → H a = none → B a = none) → WalkOk J B H2 r xs → Rr J H2) → wpI X tg iter σ H1 Rr
theorem none_of_same {H H' : Hp} {p : Addr} (e : Same H H') (h : H' p = none) : H p = none := by
  cases z : H p with
  | none => rfl
  | some o => rw [e p o z] at h; cases h
theorem us_get {r : R α} {H : Hp} {vs : List V} {xs : List α} {i : Nat} {v : V} (u : r.us H vs xs) (h : vs[i]? = some v) : ∃ x, xs[i]? = some x ∧ r.rel H v x := paired_get u h
theorem us_get' {r : R α} {H : Hp} {vs : List V} {xs : List α} {i : Nat} {x : α} (u : r.us H vs xs) (h : xs[i]? = some x) : ∃ v, vs[i]? = some v ∧ r.rel H v x := paired_get' u h
variable {X : Cx} {e a b c tg : Expr} {es : List Expr} {σ : L2.St} {H H' : Hp} {r : R α} {t : R β} {x : α} {y : β} {pos : Pos} {n : Str}
/-! what is walked -/
theorem ei_list {p : Addr} {vs : List V} {xs : List α} (h : Ev X e σ H rVal (.ref p)) (hp : H p = some (.lst vs)) (hu : r.us H vs xs) (hi : PI X tg e (iList X.K (wpE X e)) := by exact pi_list wpE_pe) : EvI X tg e σ H r xs := fun H1 s Rr q =>
  wpI_of hi (h H1 s _ fun v H2 s2 rv => ⟨p, rv, ⟨vs, SqL.of (s2 _ _ (s _ _ hp))⟩, q _ H H2 (Same.refl _) (s.trans s2) s2 (fun _ _ z => z)
    ⟨fun i Ha hi sb _ => walk_list.goes i Ha (by rw [us_length hu]; exact hi) (SqL.of (sb _ _ hp)), fun Ha sb _ => by rw [← us_length hu]; exact walk_list.stops Ha (SqL.of (sb _ _ hp)),
     fun i Ha v Hb hi sb _ y => by
      obtain ⟨e1, e2⟩ := walk_list.yields i Ha v Hb (by rw [us_length hu]; exact hi) (SqL.of (sb _ _ hp)) y
      subst e1
      obtain ⟨x, hx, rx⟩ := us_get (R.us_up (Same.T sb) hu) e2
      exact ⟨Same.refl _, x, hx, rx⟩⟩⟩)
theorem ei_newlist {xs : List α} (h : EvL X e σ H r xs) (hi : PI X tg e (iList X.K (wpE X e)) := by exact pi_list wpE_pe) : EvI X tg e σ H r xs := fun H1 s Rr q =>
  wpI_of hi (h H1 s _ fun p vs H2 np s2 hp hu => ⟨p, rfl, ⟨vs, SqL.of hp⟩, q _ (upd H p (.lst vs)) H2 (Same.new (none_of_same s np)) (fun b o z => by
      by_cases hb : b = p
      · subst hb; rw [upd_same] at z; rw [← z]; exact hp
      · rw [upd_ne hb] at z; exact s2 _ _ (s _ _ z)) s2 (fun b h1 h2 => by
      have : b ≠ p := fun z => h1 (by rw [z]; exact np)
      rw [upd_ne this]; exact h2)
    ⟨fun i Ha hi sb _ => walk_list.goes i Ha (by rw [us_length hu]; exact hi) (SqL.of (sb _ _ upd_same)), fun Ha sb _ => by rw [← us_length hu]; exact walk_list.stops Ha (SqL.of (sb _ _ upd_same)),
     fun i Ha v Hb hi sb st y => by
      obtain ⟨e1, e2⟩ := walk_list.yields i Ha v Hb (by rw [us_length hu]; exact hi) (SqL.of (sb _ _ upd_same)) y
      subst e1
      obtain ⟨x, hx, rx⟩ := us_get (R.us_up st hu) e2
      exact ⟨Same.refl _, x, hx, rx⟩⟩⟩)
theorem SqT.at_ {K : PySem.W.Frag} {H2 Ha : Hp} {p : Addr} {vs : List V} (st : SameT H2 Ha) (hp : Rd H2 p (.tup vs)) : SqT K Ha p vs := .inl (st.rd hp)
theorem ei_tup {xs : List α} (h : Ev X e σ H (rTup r) xs) (hi : PI X tg e (iTup X.K (wpE X e)) := by exact pi_tup wpE_pe) : EvI X tg e σ H r xs := fun H1 s Rr q =>
  wpI_of hi (h H1 s _ fun v H2 s2 ⟨p, vs, ev, hp, hu⟩ => ⟨p, ev, ⟨vs, .inl hp⟩, q _ H H2 (Same.refl _) (s.trans s2) s2 (fun _ _ z => z)
    ⟨fun i Ha hi _ st => walk_tup.goes i Ha (by rw [us_length hu]; exact hi) (SqT.at_ st hp), fun Ha _ st => by rw [← us_length hu]; exact walk_tup.stops Ha (SqT.at_ st hp),
     fun i Ha v Hb hi _ st y => by
      obtain ⟨e1, e2⟩ := walk_tup.yields i Ha v Hb (by rw [us_length hu]; exact hi) (SqT.at_ st hp) y
      subst e1
      obtain ⟨x, hx, rx⟩ := us_get (R.us_up st hu) e2
      exact ⟨Same.refl _, x, hx, rx⟩⟩⟩)
/-- the signs of a text, one by one -/
def signs (z : Str) : List Str := z.cps.toList.map fun c => ⟨#[c]⟩
theorem signs_length (z : Str) : (signs z).length = z.cps.size := by simp [signs]
theorem signs_get {z : Str} {i c : Nat} (h : z.cps[i]? = some c) : (signs z)[i]? = some ⟨#[c]⟩ := by
  unfold signs
  rw [List.getElem?_map, Array.getElem?_toList, h] <;> rfl
theorem ei_str {z : Str} (h : Ev X e σ H rStr z) (hi : PI X tg e (iStr (wpE X e)) := by exact pi_str wpE_pe) : EvI X tg e σ H rStr (signs z) := fun H1 s Rr q =>
  wpI_of hi (h H1 s _ fun v H2 s2 rv => ⟨z, rv, q _ H H2 (Same.refl _) (s.trans s2) s2 (fun _ _ z => z)
    ⟨fun i Ha hi _ _ => walk_str.goes i Ha (by rw [← signs_length]; exact hi) trivial, fun Ha _ _ => by rw [signs_length]; exact walk_str.stops Ha trivial,
     fun i Ha v Hb hi _ st y => by
      obtain ⟨e1, c, e2, e3⟩ := walk_str.yields i Ha v Hb (by rw [← signs_length]; exact hi) trivial y
      subst e1
      exact ⟨Same.refl _, _, signs_get e2, e3⟩⟩⟩)
theorem range_get {n i : Nat} (h : i < n) : ((List.range n).map fun k : Nat => (k : Int))[i]? = some (i : Int) := by
  rw [List.getElem?_map, List.getElem?_range h] <;> rfl
theorem ei_range {k : Nat} {p : Pos} (h : Ev X a σ H rInt (k : Int)) (hk : k ≤ 100000) (hm : X.mg "range" = none) (hg : Gl X "range" := by rfl) (hs : starEach [a] X.env = [(false, eval a X.env)] := by rfl) : EvI X tg (.Call (.Name "range" p) [a] [] pos) σ H rNat (List.range k) := fun H1 s Rr q =>
  wpI_of (pi_range1 hg hm (pa_cons wpE_pe pa_nil hs) hs) (h H1 s _ fun v H2 s2 rv => ⟨(k : Int), by rw [show v = _ from rv], by omega, by omega, q _ H H2 (Same.refl _) (s.trans s2) s2 (fun _ _ z => z)
    ⟨fun i Ha hi _ _ => walk_range.goes i Ha (by simpa using hi) trivial, fun Ha _ _ => walk_range.stops Ha trivial |> fun z => by simpa using z,
     fun i Ha v Hb hi _ st y => by
      have hi' : i < k := by simpa using hi
      obtain ⟨e1, e3⟩ := walk_range.yields i Ha v Hb (by simpa using hi) trivial y
      subst e1
      exact ⟨Same.refl _, i, List.getElem?_range hi', by show v = V.int i; rw [e3]; show V.int (0 + (i : Int)) = _; rw [Int.zero_add]⟩⟩⟩)
/-- pairs of what two sequences hold -/
theorem yp {f g : Nat → Option V} {i : Nat} {Ha Hb : Hp} {v : V} (y : YPair f g i Ha v Hb) : ∃ T x y, v = .ref T ∧ Same Ha Hb ∧ Hb T = some (.tup [x, y]) ∧ f i = some x ∧ g i = some y := by
  obtain ⟨T, x, z, e1, e2, e3, e4, e5⟩ := y
  exact ⟨T, x, z, e1, by rw [e3]; exact Same.new e2, by rw [e3]; exact upd_same, e4, e5⟩
def numbered (xs : List α) : List (Nat × α) := (List.range xs.length).zip xs
theorem numbered_length (xs : List α) : (numbered xs).length = xs.length := by simp [numbered]
theorem numbered_get {xs : List α} {i : Nat} {x : α} (h : xs[i]? = some x) : (numbered xs)[i]? = some (i, x) := by
  unfold numbered
  have hi := (List.getElem?_eq_some_iff.mp h).1
  rw [List.getElem?_zip_eq_some]
  exact ⟨List.getElem?_range hi, h⟩
theorem ei_enumT {xs : List α} {elts : List Expr} {kk : Nat} {tpos p : Pos} (h : Ev X a σ H (rTup r) xs) (hm : X.mg "enumerate" = none) (hg : Gl X "enumerate" := by rfl) (hs : starEach [a] X.env = [(false, eval a X.env)] := by rfl) :
    EvI X (.Tuple elts kk tpos) (.Call (.Name "enumerate" p) [a] [] pos) σ H (rPair rNat r) (numbered xs) := fun H1 s Rr q =>
  wpI_of (pi_enumT hg hm (pa_cons wpE_pe pa_nil hs) hs) (h H1 s _ fun v H2 s2 ⟨p, vs, ev, hp, hu⟩ => ⟨p, vs, by rw [ev], .inl hp, q _ H H2 (Same.refl _) (s.trans s2) s2 (fun _ _ z => z)
    ⟨fun i Ha hi _ st => walk_enumT.goes i Ha (by rw [us_length hu, ← numbered_length]; exact hi) (SqT.at_ st hp), fun Ha _ st => by rw [numbered_length, ← us_length hu]; exact walk_enumT.stops Ha (SqT.at_ st hp),
     fun i Ha v Hb hi _ st y => by
      obtain ⟨T, x, z, e1, e2, e3, e4, e5⟩ := yp (walk_enumT.yields i Ha v Hb (by rw [us_length hu, ← numbered_length]; exact hi) (SqT.at_ st hp) y)
      obtain ⟨x', hx, rx⟩ := us_get (R.us_up (st.trans (Same.T e2)) hu) e5
      exact ⟨e2, (i, x'), numbered_get hx, T, x, z, e1, e3, (Option.some.inj e4).symm, rx⟩⟩⟩)
theorem ei_enumS {z : Str} {elts : List Expr} {kk : Nat} {tpos p : Pos} (h : Ev X a σ H rStr z) (hm : X.mg "enumerate" = none) (hg : Gl X "enumerate" := by rfl) (hs : starEach [a] X.env = [(false, eval a X.env)] := by rfl) :
    EvI X (.Tuple elts kk tpos) (.Call (.Name "enumerate" p) [a] [] pos) σ H (rPair rNat rStr) (numbered (signs z)) := fun H1 s Rr q =>
  wpI_of (pi_enumS hg hm (pa_cons wpE_pe pa_nil hs) hs) (h H1 s _ fun v H2 s2 rv => ⟨z, by rw [show v = _ from rv], q _ H H2 (Same.refl _) (s.trans s2) s2 (fun _ _ z => z)
    ⟨fun i Ha hi _ st => walk_enumS.goes i Ha (by rw [numbered_length, signs_length] at hi; exact hi) trivial, fun Ha _ st => by rw [numbered_length, signs_length]; exact walk_enumS.stops Ha trivial,
     fun i Ha v Hb hi _ st y => by
      obtain ⟨T, x, w, e1, e2, e3, e4, e5⟩ := yp (walk_enumS.yields i Ha v Hb (by rw [numbered_length, signs_length] at hi; exact hi) trivial y)
      cases hc : z.cps[i]? with
      | none => simp [hc] at e5
      | some c =>
        simp only [hc, Option.map_some, Option.some.injEq] at e5
        exact ⟨e2, (i, ⟨#[c]⟩), numbered_get (signs_get hc), T, x, w, e1, e3, (Option.some.inj e4).symm, e5.symm⟩⟩⟩)
theorem ei_enumL {xs : List α} {elts : List Expr} {kk : Nat} {tpos p : Pos} (h : EvL X a σ H r xs) (hm : X.mg "enumerate" = none) (hg : Gl X "enumerate" := by rfl) (hs : starEach [a] X.env = [(false, eval a X.env)] := by rfl) :
    EvI X (.Tuple elts kk tpos) (.Call (.Name "enumerate" p) [a] [] pos) σ H (rPair rNat r) (numbered xs) := fun H1 s Rr q =>
  wpI_of (pi_enum hg hm (pa_cons wpE_pe pa_nil hs) hs) (h H1 s _ fun p vs H2 np s2 hp hu => ⟨p, vs, rfl, SqL.of hp, q _ (upd H p (.lst vs)) H2 (Same.new (none_of_same s np)) (fun b o z => by
      by_cases hb : b = p
      · subst hb; rw [upd_same] at z; rw [← z]; exact hp
      · rw [upd_ne hb] at z; exact s2 _ _ (s _ _ z)) s2 (fun b h1 h2 => by
      have : b ≠ p := fun z => h1 (by rw [z]; exact np)
      rw [upd_ne this]; exact h2)
    ⟨fun i Ha hi sb _ => walk_enum.goes i Ha (by rw [us_length hu, ← numbered_length]; exact hi) (SqL.of (sb _ _ upd_same)), fun Ha sb _ => by rw [numbered_length, ← us_length hu]; exact walk_enum.stops Ha (SqL.of (sb _ _ upd_same)),
     fun i Ha v Hb hi sb st y => by
      obtain ⟨T, x, z, e1, e2, e3, e4, e5⟩ := yp (walk_enum.yields i Ha v Hb (by rw [us_length hu, ← numbered_length]; exact hi) (SqL.of (sb _ _ upd_same)) y)
      obtain ⟨x', hx, rx⟩ := us_get (R.us_up (st.trans (Same.T e2)) hu) e5
      exact ⟨e2, (i, x'), numbered_get hx, T, x, z, e1, e3, (Option.some.inj e4).symm, rx⟩⟩⟩)
theorem zip_get {xs : List α} {ys : List β} {i : Nat} {x : α} {y : β} (h : xs[i]? = some x) (h' : ys[i]? = some y) : (xs.zip ys)[i]? = some (x, y) := List.getElem?_zip_eq_some.mpr ⟨h, h'⟩
theorem ei_zipTS {xs : List α} {z : Str} {elts : List Expr} {kk : Nat} {tpos p : Pos} (ha : Ev X a σ H (rTup r) xs) (hb : Ev X b σ H rStr z) (hl : xs.length = z.cps.size) (hm : X.mg "zip" = none) (hg : Gl X "zip" := by rfl)
    (hs : starEach [a, b] X.env = (false, eval a X.env) :: starEach [b] X.env := by rfl) (hs2 : starEach [b] X.env = (false, eval b X.env) :: starEach [] X.env := by rfl) (hpl : (backTo pos (starEach [b] X.env)).any (·.1) = false := by rfl) :
    EvI X (.Tuple elts kk tpos) (.Call (.Name "zip" p) [a, b] [] pos) σ H (rPair r rStr) (xs.zip (signs z)) := fun H1 s Rr q =>
  wpI_of (pi_zipTS hg hm (pa_cons wpE_pe (pa_cons wpE_pe pa_nil hs2) hs) hs hpl) (ha H1 s _ fun v H2 s2 ⟨p, vs, ev, hp, hu⟩ => hb H2 (s.trans s2) _ fun w H3 s3 rw => ⟨p, vs, z, by rw [ev, show w = _ from rw], (.inl ((Same.T s3).rd hp)),
    q _ H H3 (Same.refl _) ((s.trans s2).trans s3) (s2.trans s3) (fun _ _ z => z) (by
      have hlz : (xs.zip (signs z)).length = vs.length := by rw [List.length_zip, signs_length, us_length hu]; omega
      have hlv : vs.length = z.cps.size := by rw [us_length hu]; exact hl
      refine ⟨fun i Ha hi _ st => (walk_zipTS hlv).goes i Ha (by rw [hlz] at hi; exact hi) (SqT.at_ st ((Same.T s3).rd hp)), fun Ha _ st => by rw [hlz]; exact (walk_zipTS hlv).stops Ha (SqT.at_ st ((Same.T s3).rd hp)), fun i Ha v Hb hi _ st y => ?_⟩
      obtain ⟨T, x, w, e1, e2, e3, e4, e5⟩ := yp ((walk_zipTS hlv).yields i Ha v Hb (by rw [hlz] at hi; exact hi) (SqT.at_ st ((Same.T s3).rd hp)) y)
      obtain ⟨x', hx, rx⟩ := us_get (R.us_up (((Same.T s3).trans st).trans (Same.T e2)) hu) e4
      cases hc : z.cps[i]? with
      | none => simp [hc] at e5
      | some c =>
        simp only [hc, Option.map_some, Option.some.injEq] at e5
        exact ⟨e2, (x', ⟨#[c]⟩), zip_get hx (signs_get hc), T, x, w, e1, e3, rx, e5.symm⟩)⟩)
theorem walk_zipT {K : PySem.W.Frag} {a b : Addr} {xs ys : List V} (hl : xs.length = ys.length) : Walk (RZ.ItzT K a b) xs.length (fun H => SqT K H a xs ∧ SqT K H b ys) (YPair (fun i => xs[i]?) (fun i => ys[i]?)) := by
  refine ⟨fun i _ hi q => ?_, fun _ q => ⟨xs, ys, q.1, q.2, .inl (Nat.le_refl _)⟩, fun i H v H' _ q y => ?_⟩
  · have h2 : i < ys.length := by omega
    exact ⟨xs, ys, xs[i], ys[i], q.1, q.2, by simp [hi], by simp [h2]⟩
  · obtain ⟨T, x, z, h1, h2, h3, h4, h5⟩ := y
    exact ⟨T, x, z, h1, h2, h3, h4 xs q.1, h5 ys q.2⟩
theorem ei_zipT {xs : List α} {ys : List β} {elts : List Expr} {kk : Nat} {tpos p : Pos} (ha : Ev X a σ H (rTup r) xs) (hb : Ev X b σ H (rTup t) ys) (hl : xs.length = ys.length) (hm : X.mg "zip" = none) (hg : Gl X "zip" := by rfl)
    (hs : starEach [a, b] X.env = (false, eval a X.env) :: starEach [b] X.env := by rfl) (hs2 : starEach [b] X.env = (false, eval b X.env) :: starEach [] X.env := by rfl) (hpl : (backTo pos (starEach [b] X.env)).any (·.1) = false := by rfl) :
    EvI X (.Tuple elts kk tpos) (.Call (.Name "zip" p) [a, b] [] pos) σ H (rPair r t) (xs.zip ys) := fun H1 s Rr q =>
  wpI_of (RZ.pi_zipA hg hm (pa_cons wpE_pe (pa_cons wpE_pe pa_nil hs2) hs) hs hpl) (ha H1 s _ fun v H2 s2 ⟨p, vs, ev, hp, hu⟩ => hb H2 (s.trans s2) _ fun w H3 s3 ⟨p', ws, ew, hp', hw⟩ => ⟨p, p', vs, ws, by rw [ev, ew], .inr ⟨(.inl ((Same.T s3).rd hp)), .inl hp',
    q _ H H3 (Same.refl _) ((s.trans s2).trans s3) (s2.trans s3) (fun _ _ z => z) (by
      have hlz : (xs.zip ys).length = vs.length := by rw [List.length_zip, us_length hu]; omega
      have hlv : vs.length = ws.length := by rw [us_length hu, us_length hw]; exact hl
      refine ⟨fun i Ha hi _ st => (walk_zipT hlv).goes i Ha (by rw [hlz] at hi; exact hi) ⟨SqT.at_ st ((Same.T s3).rd hp), SqT.at_ st hp'⟩, fun Ha _ st => by rw [hlz]; exact (walk_zipT hlv).stops Ha ⟨SqT.at_ st ((Same.T s3).rd hp), SqT.at_ st hp'⟩, fun i Ha v Hb hi _ st y => ?_⟩
      obtain ⟨T, x, w, e1, e2, e3, e4, e5⟩ := yp ((walk_zipT hlv).yields i Ha v Hb (by rw [hlz] at hi; exact hi) ⟨SqT.at_ st ((Same.T s3).rd hp), SqT.at_ st hp'⟩ y)
      obtain ⟨x', hx, rx⟩ := us_get (R.us_up (((Same.T s3).trans st).trans (Same.T e2)) hu) e4
      obtain ⟨y', hy, ry⟩ := us_get (R.us_up (st.trans (Same.T e2)) hw) e5
      exact ⟨e2, (x', y'), zip_get hx hy, T, x, w, e1, e3, rx, ry⟩)⟩⟩)
/-! ### list comprehensions -/
def wpEB (X : Cx) (scope : Scope) (e : Expr) : TE := fun σ H Q => ∀ (s : Shared) (H0 : Hp) (C : Addr) (cl : List (Str × Addr)) (fp : List Addr), wpE (X.blk s H0 scope (compEnvC scope cl C X.env) fp) e σ H Q
def wpFB (X : Cx) (scope : Scope) (es : List Expr) : TT := fun σ H Q => ∀ (s : Shared) (H0 : Hp) (C : Addr) (cl : List (Str × Addr)) (fp : List Addr), wpF (X.blk s H0 scope (compEnvC scope cl C X.env) fp) es σ H Q
theorem ef_nil : EvF X [] σ H true := fun H1 s Q q => wpF_of pts_nil (q H1 (Same.refl _))
theorem ef_one {k : Bool} (h : EvT X c σ H k) : EvF X [c] σ H k := fun H1 s Q q => wpF_of (pts_one wpT_pt) (h H1 s Q q)
theorem lc_read {elt tg iter : Expr} {ifs : List Expr} {scope : Scope} {own : List (Str × Nat)} {ri : R α} {ro : R β} {xs : List α} {p : α → Bool} {f : α → β} {g : TG}
    (hc : X.calm = true) (hN : X.N.Nodup) (hi : EvI X tg iter σ H ri xs) (hz : xs.length ≤ 100000) (ok : BlkOk X.N X.env.scope scope own)
    (hgs : ∀ v x H1, x ∈ xs → Same H H1 → ri.rel H1 v x → ∃ σ2, (∀ Q : L2.St → Hp → Prop, Q σ2 H1 → g v (wipe σ (own.map (·.2))) H1 Q) ∧ wipe σ2 (own.map (·.2)) = wipe σ (own.map (·.2)) ∧
      ∀ (s : Shared) (H0 : Hp) (C : Addr) (cl : List (Str × Addr)) (fp : List Addr), EvF (X.blk s H0 scope (compEnvC scope cl C X.env) fp) ifs σ2 H1 (p x) ∧ (p x = true → Ev (X.blk s H0 scope (compEnvC scope cl C X.env) fp) elt σ2 H1 ro (f x))) (H1 : Hp) (s : Same H H1) (Q : VK) (q : ∀ p' vs H2, H1 p' = none → Same H1 H2 → H2 p' = some (.lst vs) → ro.us H2 vs ((xs.filter p).map f) → Q (.ref p') H2) :
    tLc (wpI X tg iter) g (wpFB X scope ifs) (wpEB X scope elt) (own.map (·.2)) σ H1 Q := by
  refine hi H1 s _ fun J B H2 s1 s2 s3 fr wk => fun D hD => ?_
  refine lc_it (n := xs.length) (G := fun Ha => Same B Ha ∧ SameT H2 Ha) (Y := fun i Ha v Hb => Same Ha Hb ∧ ∃ x, xs[i]? = some x ∧ ri.rel Hb v x)
    ⟨fun i Ha hi g => wk.goes i Ha hi g.1 g.2, fun Ha g => wk.stops Ha g.1 g.2, fun i Ha v Hb hi g y => wk.yields i Ha v Hb hi g.1 g.2 y⟩
    (fun i Hh => Same H2 Hh ∧ ∃ vs, Hh D = some (.lst vs) ∧ ro.us Hh vs (((xs.take i).filter p).map f)) ⟨Same.new hD, [], upd_same, .nil⟩ (fun i Ha _ P => ⟨s2.trans P.1, Same.T P.1⟩) ?_ ?_
  · rintro i v Ha Hb hlt ⟨sA, vs, hv, us⟩ ⟨sAB, x, hx, rx⟩
    have sHb : Same H2 Hb := sA.trans sAB
    have hmem : x ∈ xs := List.mem_of_getElem? hx
    obtain ⟨σ2, g1, g2, g3⟩ := hgs v x Hb hmem (((s.trans s3)).trans sHb) rx
    refine g1 _ ⟨g2, ?_⟩
    have etake : xs.take (i + 1) = xs.take i ++ [x] := by rw [List.take_add_one, hx]; rfl
    have hl : vs.length ≤ i := by
      rw [us_length us, List.length_map]
      exact Nat.le_trans (List.length_filter_le _ _) (by rw [List.length_take]; omega)
    refine fun s' H0 C cl fp => (g3 s' H0 C cl fp).1 Hb (Same.refl _) _ fun H3 s4 => ?_
    cases hp : p x with
    | true =>
      refine iteT fun s' H0 C cl fp => (g3 s' H0 C cl fp).2 hp H3 s4 _ fun v' H4 s5 rv => ?_
      have hD4 : H4 D = some (.lst vs) := s5 _ _ (s4 _ _ (sAB _ _ hv))
      refine ⟨vs, hD4, sz_lt (by have : i < xs.length := hlt; omega), Same.mut (sHb.trans (s4.trans s5)) hD, vs ++ [v'], upd_same, ?_⟩
      rw [etake, List.filter_append, List.map_append]
      have : [x].filter p = [x] := by simp [hp]
      rw [this]
      exact paired_append (R.us_up (SameT.trans (Same.T (sAB.trans (s4.trans s5))) (SameT.upd hD4)) us) (.cons (ro.up (SameT.upd hD4) rv) .nil)
    | false =>
      refine iteF ⟨sHb.trans s4, vs, s4 _ _ (sAB _ _ hv), ?_⟩
      rw [etake, List.filter_append, List.map_append]
      have : [x].filter p = [] := by simp [hp]
      rw [this]
      simpa using R.us_up (Same.T (sAB.trans s4)) us
  · rintro Ha ⟨sA, vs, hv, us⟩
    rw [List.take_length] at us
    exact q D vs Ha (none_of_same s3 hD) (s3.trans sA) hv us
theorem el_lc {elt tg iter : Expr} {ifs : List Expr} {scope : Scope} {own : List (Str × Nat)} {ri : R α} {ro : R β} {xs : List α} {p : α → Bool} {f : α → β} {g : TG}
    (hc : X.calm = true) (hN : X.N.Nodup) (hi : EvI X tg iter σ H ri xs) (hz : xs.length ≤ 100000) (ok : BlkOk X.N X.env.scope scope own)
    (hg : ∀ (s : Shared) (H : Hp) (C : Addr) (cl : List (Str × Addr)) (fp : List Addr), PG (X.blk s H scope (compEnvC scope cl C X.env) fp) tg g)
    (hgs : ∀ v x H1, x ∈ xs → Same H H1 → ri.rel H1 v x → ∃ σ2, (∀ Q : L2.St → Hp → Prop, Q σ2 H1 → g v (wipe σ (own.map (·.2))) H1 Q) ∧ wipe σ2 (own.map (·.2)) = wipe σ (own.map (·.2)) ∧
      ∀ (s : Shared) (H0 : Hp) (C : Addr) (cl : List (Str × Addr)) (fp : List Addr), EvF (X.blk s H0 scope (compEnvC scope cl C X.env) fp) ifs σ2 H1 (p x) ∧ (p x = true → Ev (X.blk s H0 scope (compEnvC scope cl C X.env) fp) elt σ2 H1 ro (f x)))
    (hs : ∀ x, foldedSetIterable iter X.env x = pure x := by intro _; rfl) : EvL X (.ListComp elt [⟨tg, iter, ifs, 0⟩] scope pos) σ H ro ((xs.filter p).map f) := fun H1 s Q q => by
  exact wpE_of (pe_lc (tt := wpFB X scope ifs) (te := wpEB X scope elt) hc hN wpI_pi ok hg (fun s H C cl fp => ⟨fun pins s' σ H' Q I h => (h s H C cl fp).run pins s' I⟩) (fun s H C cl fp => ⟨fun pins s' σ H' Q I h => (h s H C cl fp).run pins s' I⟩) hs) (lc_read hc hN hi hz ok hgs H1 s Q q)
end
end LK
set_option maxHeartbeats 1000000
namespace LK
open PySem PySem.Spec PyProof.Rows
theorem ltCps_irr : ∀ a : List Nat, ltCps a a = false
  | [] => rfl
  | x :: r => by simp [ltCps, ltCps_irr r]
theorem ltCps_asym : ∀ a b : List Nat, ltCps a b = true → ltCps b a = false
  | [], [], h => rfl
  | [], _ :: _, h => rfl
  | _ :: _, [], h => by simp [ltCps] at h
  | x :: r, y :: t, h => by
    simp only [ltCps] at h ⊢
    by_cases e : x = y
    · subst e
      simp at h ⊢
      exact ltCps_asym r t h
    · by_cases l : x < y
      · have l2 : ¬ y < x := by omega
        have e2 : ¬ y = x := fun z => e z.symm
        simp [l2, e2]
      · simp [l, e] at h
theorem ltCps_conn : ∀ a b : List Nat, ltCps a b = false → ltCps b a = false → a = b
  | [], [], _, _ => rfl
  | [], _ :: _, h, _ => by simp [ltCps] at h
  | _ :: _, [], _, h => by simp [ltCps] at h
  | x :: r, y :: t, h, h' => by
    simp only [ltCps] at h h'
    by_cases e : x = y
    · subst e
      simp at h h'
      rw [ltCps_conn r t h h']
    · by_cases l : x < y
      · simp [l, e] at h
      · have l2 : y < x := by omega
        simp [l2] at h'
theorem ltCps_trans : ∀ a b c : List Nat, ltCps a b = true → ltCps b c = true → ltCps a c = true
  | [], _, [], h, h' => by
    rename_i b
    cases b <;> simp [ltCps] at h h'
  | [], _, _ :: _, _, _ => rfl
  | _ :: _, [], _, h, _ => by simp [ltCps] at h
  | _ :: _, _ :: _, [], _, h => by simp [ltCps] at h
  | x :: r, y :: t, z :: u, h, h' => by
    simp only [ltCps] at h h' ⊢
    by_cases e : x = y
    · subst e
      simp at h
      by_cases e2 : x = z
      · subst e2
        simp at h' ⊢
        exact ltCps_trans r t u h h'
      · by_cases l : x < z
        · simp [l]
        · simp [l, e2] at h'
    · by_cases l : x < y
      · by_cases e2 : y = z
        · subst e2
          simp [l]
        · by_cases l2 : y < z
          · have : x < z := by omega
            simp [this]
          · simp [l2, e2] at h'
      · simp [l, e] at h
def leS (a b : Str) : Bool := !ltCps b.cps.toList a.cps.toList
theorem leS_total (a b : Str) : (leS a b || leS b a) = true := by
  unfold leS
  cases h : ltCps b.cps.toList a.cps.toList with
  | false => rfl
  | true => rw [ltCps_asym _ _ h]; rfl
theorem leS_antisymm {a b : Str} (h : leS a b = true) (h' : leS b a = true) : a = b := by
  unfold leS at h h'
  have e := ltCps_conn a.cps.toList b.cps.toList (by simpa using h') (by simpa using h)
  cases a; cases b
  simp at e
  rw [e]
theorem leS_trans (a b c : Str) (h : leS a b = true) (h' : leS b c = true) : leS a c = true := by
  unfold leS at *
  cases z : ltCps c.cps.toList a.cps.toList with
  | false => rfl
  | true =>
    cases w : ltCps a.cps.toList b.cps.toList with
    | true =>
      have := ltCps_trans _ _ _ z w
      simp [this] at h'
    | false =>
      have e := ltCps_conn _ _ w (by simpa using h)
      rw [e] at z
      simp [z] at h'
def sortStr (xs : List Str) : List Str := xs.mergeSort leS
theorem sortStr_perm (xs : List Str) : (sortStr xs).Perm xs := List.mergeSort_perm xs leS
theorem sortStr_sorted (xs : List Str) : (sortStr xs).Pairwise (fun a b => leS a b = true) := List.pairwise_mergeSort leS_trans leS_total xs
theorem pairwise_of_rising : ∀ (p : Str) (l : List Str), risingS p l = true → (p :: l).Pairwise (fun a b => leS a b = true)
  | p, [], _ => by simp
  | p, x :: r, h => by
    have h' : (!ltCps x.cps.toList p.cps.toList && risingS x r) = true := h
    simp only [Bool.and_eq_true] at h'
    have ih := pairwise_of_rising x r h'.2
    refine List.pairwise_cons.mpr ⟨fun y hy => ?_, ih⟩
    rcases List.mem_cons.mp hy with rfl | hy
    · exact h'.1
    · exact leS_trans _ _ _ h'.1 ((List.pairwise_cons.mp ih).1 y hy)
theorem pairwise_of_sortedS : ∀ (l : List Str), sortedS l = true → l.Pairwise (fun a b => leS a b = true)
  | [], _ => .nil
  | x :: r, h => pairwise_of_rising x r h
theorem perm_sorted_eq : ∀ {xs ys : List Str}, xs.Perm ys → xs.Pairwise (fun a b => leS a b = true) → ys.Pairwise (fun a b => leS a b = true) → xs = ys
  | [], ys, p, _, _ => (List.perm_nil.mp p.symm).symm ▸ rfl
  | x :: xs, [], p, _, _ => absurd (List.perm_nil.mp p) (by simp)
  | x :: xs, y :: ys, p, hx, hy => by
    have e : x = y := by
      have m1 : x ∈ y :: ys := p.subset List.mem_cons_self
      have m2 : y ∈ x :: xs := p.symm.subset List.mem_cons_self
      rcases List.mem_cons.mp m1 with e | m1
      · exact e
      · rcases List.mem_cons.mp m2 with e | m2
        · exact e.symm
        · exact leS_antisymm ((List.pairwise_cons.mp hx).1 y m2) ((List.pairwise_cons.mp hy).1 x m1)
    subst e
    rw [perm_sorted_eq (List.Perm.cons_inv p) (List.pairwise_cons.mp hx).2 (List.pairwise_cons.mp hy).2]
theorem sortStr_of {xs ys : List Str} (p : ys.Perm xs) (h : sortedS ys = true) : ys = sortStr xs := perm_sorted_eq (p.trans (sortStr_perm xs).symm) (pairwise_of_sortedS ys h) (sortStr_sorted xs)
end LK
set_option maxHeartbeats 4000000
namespace LK
open PySem PySem.Spec PyProof.Rows L2
section
variable {α β γ ι : Type}
/-! ### promises of defs -/
def SpF (A : RA ι) (pre : ι → Prop) (ro : R β) (f : ι → β) : Sp := fun vs H Q _ => ∃ i, A.rel H vs i ∧ pre i ∧ ∀ v H', Same H H' → ro.rel H' v (f i) → Q v H'
def SpL (A : RA ι) (pre : ι → Prop) (ro : R β) (f : ι → List β) : Sp := fun vs H Q _ => ∃ i, A.rel H vs i ∧ pre i ∧ ∀ p vs H', H p = none → Same H H' → H' p = some (.lst vs) → ro.us H' vs (f i) → Q (.ref p) H'
/-- a def that stands at the module's name x, as it is called there -/
structure Cal (P : Program) (w : World) (K : PySem.W.Frag) (mg : Str → Option Value) (base : Heap) (k : Nat) (x : Str) (sp : Sp) : Prop where
  ex : ∃ (f : Addr) (fd : FuncData) (ps : List Str) (ds : List Value) (dvs : List V) (sp0 : Sp), FnOk P w K mg base CX0 k f fd ps sp0 ∧ mg x = some (.ref f) ∧ PySem.W.keepIn K (.ref f) = true ∧ Binds K fd ps ds ∧ Vals dvs ds ∧ ∀ vs H Q E, sp vs H Q E → sp0 (vs ++ dvs) H Q E
variable {X : Cx} {e a b c : Expr} {es : List Expr} {σ : L2.St} {H H' : Hp} {r : R α} {t : R β} {u : R γ} {x : α} {y : β} {z : γ} {pos p : Pos} {n : Str}
theorem wp_call {k : Nat} {sp : Sp} {Q : VK} (C : Cal X.prog X.w X.K X.mg X.base k n sp) (hr : Room k X.A) (ha : wpA X (e :: es) σ H fun vs H1 => sp vs H1 Q E0) (hg : Gl X n := by rfl) (hdb : (n == ("__debug__" : Str)) = false := by decide)
    (he : starEach (e :: es) X.env = (false, eval e X.env) :: starEach es X.env := by rfl) (hpl : (backTo pos (starEach es X.env)).any (·.1) = false := by rfl) : wpE X (.Call (.Name n p) (e :: es) [] pos) σ H Q := by
  obtain ⟨f, fd, ps, ds, dvs, sp0, F, hm, hk, hb, hd, imp⟩ := C.ex
  exact wpE_of (pe_call F hr hg hm hk hb hd pass0 wpA_pa hdb he hpl) (wpA_mono ha fun vs H' q' => imp _ _ _ _ q')
theorem ev_call {k : Nat} {A : RA ι} {pre : ι → Prop} {f : ι → β} {i : ι} {o : β} (C : Cal X.prog X.w X.K X.mg X.base k n (SpF A pre t f)) (hr : Room k X.A) (ha : EvA X (e :: es) σ H A i) (hp : pre i) (ho : f i = o := by rfl) (hg : Gl X n := by rfl) (hdb : (n == ("__debug__" : Str)) = false := by decide)
    (he : starEach (e :: es) X.env = (false, eval e X.env) :: starEach es X.env := by rfl) (hpl : (backTo pos (starEach es X.env)).any (·.1) = false := by rfl) : Ev X (.Call (.Name n p) (e :: es) [] pos) σ H t o := fun H1 s Q q => by
  subst ho
  exact wp_call C hr (ha H1 s _ fun vs H2 s2 ra => ⟨i, ra, hp, fun v H3 s3 rv => q v H3 (s2.trans s3) rv⟩) hg hdb he hpl
theorem el_call {k : Nat} {A : RA ι} {pre : ι → Prop} {f : ι → List β} {i : ι} {o : List β} (C : Cal X.prog X.w X.K X.mg X.base k n (SpL A pre t f)) (hr : Room k X.A) (ha : EvA X (e :: es) σ H A i) (hp : pre i) (ho : f i = o := by rfl) (hg : Gl X n := by rfl) (hdb : (n == ("__debug__" : Str)) = false := by decide)
    (he : starEach (e :: es) X.env = (false, eval e X.env) :: starEach es X.env := by rfl) (hpl : (backTo pos (starEach es X.env)).any (·.1) = false := by rfl) : EvL X (.Call (.Name n p) (e :: es) [] pos) σ H t o := fun H1 s Q q => by
  subst ho
  exact wp_call C hr (ha H1 s _ fun vs H2 s2 ra => ⟨i, ra, hp, fun p vs' H3 np s3 h3 rv => q p vs' H3 (none_of_same s2 np) (s2.trans s3) h3 rv⟩) hg hdb he hpl
/-! ### built-in functions and types -/
theorem ev_b1 {id : String} {f : List V → Hp → VK → Prop} (hc : CallR X (.builtin id) f) (hv : bootBuiltins n = some (.builtin id)) (hm : X.mg n = none) (ha : Ev X a σ H r x)
    (h : ∀ v H1 (Q : VK), Same H H1 → r.rel H1 v x → (∀ k H2, Same H1 H2 → u.rel H2 k z → Q k H2) → f [v] H1 Q) (hg : Gl X n := by rfl) (hn : n ≠ "__name__" := by decide) (hdb : (n == ("__debug__" : Str)) = false := by decide)
    (he : starEach [a] X.env = (false, eval a X.env) :: starEach [] X.env := by rfl) (hpl : (backTo pos (starEach [] X.env)).any (·.1) = false := by rfl) : Ev X (.Call (.Name n p) [a] [] pos) σ H u z := fun H1 s Q q =>
  wpE_of (pe_callB hc hg hm hv (pa_cons wpE_pe pa_nil he) hn hdb he hpl) (ha H1 s _ fun v H2 s2 rv => h v H2 Q (s.trans s2) rv fun k H3 s3 rk => q k H3 (s2.trans s3) rk)
theorem ev_b1L {xs : List α} {id : String} {f : List V → Hp → VK → Prop} (hc : CallR X (.builtin id) f) (hv : bootBuiltins n = some (.builtin id)) (hm : X.mg n = none) (ha : EvL X a σ H r xs)
    (h : ∀ p vs H1 (Q : VK), Same H H1 → H1 p = some (.lst vs) → r.us H1 vs xs → (∀ k H2, Same H1 H2 → u.rel H2 k z → Q k H2) → f [.ref p] H1 Q) (hg : Gl X n := by rfl) (hn : n ≠ "__name__" := by decide) (hdb : (n == ("__debug__" : Str)) = false := by decide)
    (he : starEach [a] X.env = (false, eval a X.env) :: starEach [] X.env := by rfl) (hpl : (backTo pos (starEach [] X.env)).any (·.1) = false := by rfl) : Ev X (.Call (.Name n p) [a] [] pos) σ H u z := fun H1 s Q q =>
  wpE_of (pe_callB hc hg hm hv (pa_cons wpE_pe pa_nil he) hn hdb he hpl) (ha H1 s _ fun p vs H2 np s2 hp ru => h p vs H2 Q (s.trans s2) hp ru fun k H3 s3 rk => q k H3 (s2.trans s3) rk)
theorem el_b1L {xs : List α} {zs : List γ} {id : String} {f : List V → Hp → VK → Prop} (hc : CallR X (.builtin id) f) (hv : bootBuiltins n = some (.builtin id)) (hm : X.mg n = none) (ha : EvL X a σ H r xs)
    (h : ∀ p vs H1 (Q : VK), Same H H1 → H1 p = some (.lst vs) → r.us H1 vs xs → (∀ p' vs' H2, H1 p' = none → Same H1 H2 → H2 p' = some (.lst vs') → u.us H2 vs' zs → Q (.ref p') H2) → f [.ref p] H1 Q) (hg : Gl X n := by rfl) (hn : n ≠ "__name__" := by decide) (hdb : (n == ("__debug__" : Str)) = false := by decide)
    (he : starEach [a] X.env = (false, eval a X.env) :: starEach [] X.env := by rfl) (hpl : (backTo pos (starEach [] X.env)).any (·.1) = false := by rfl) : EvL X (.Call (.Name n p) [a] [] pos) σ H u zs := fun H1 s Q q =>
  wpE_of (pe_callB hc hg hm hv (pa_cons wpE_pe pa_nil he) hn hdb he hpl) (ha H1 s _ fun p vs H2 np s2 hp ru => h p vs H2 Q (s.trans s2) hp ru fun p' vs' H3 np' s3 hp' ru' => q p' vs' H3 (none_of_same s2 np') (s2.trans s3) hp' ru')
theorem ev_t1 {id : String} {f : List V → Hp → VK → Prop} (hc : CallR X (.type id) f) (hv : bootBuiltins n = some (.type id)) (hm : X.mg n = none) (ha : Ev X a σ H r x)
    (h : ∀ v H1 (Q : VK), Same H H1 → r.rel H1 v x → (∀ k H2, Same H1 H2 → u.rel H2 k z → Q k H2) → f [v] H1 Q) (hg : Gl X n := by rfl) (hn : n ≠ "__name__" := by decide) (hdb : (n == ("__debug__" : Str)) = false := by decide)
    (he : starEach [a] X.env = (false, eval a X.env) :: starEach [] X.env := by rfl) (hpl : (backTo pos (starEach [] X.env)).any (·.1) = false := by rfl) : Ev X (.Call (.Name n p) [a] [] pos) σ H u z := fun H1 s Q q =>
  wpE_of (pe_callTy hc hg hm hv (pa_cons wpE_pe pa_nil he) hn hdb he hpl) (ha H1 s _ fun v H2 s2 rv => h v H2 Q (s.trans s2) rv fun k H3 s3 rk => q k H3 (s2.trans s3) rk)
theorem ev_t1L {xs : List α} {id : String} {f : List V → Hp → VK → Prop} (hc : CallR X (.type id) f) (hv : bootBuiltins n = some (.type id)) (hm : X.mg n = none) (ha : EvL X a σ H r xs)
    (h : ∀ p vs H1 (Q : VK), Same H H1 → H1 p = some (.lst vs) → r.us H1 vs xs → (∀ k H2, Same H1 H2 → u.rel H2 k z → Q k H2) → f [.ref p] H1 Q) (hg : Gl X n := by rfl) (hn : n ≠ "__name__" := by decide) (hdb : (n == ("__debug__" : Str)) = false := by decide)
    (he : starEach [a] X.env = (false, eval a X.env) :: starEach [] X.env := by rfl) (hpl : (backTo pos (starEach [] X.env)).any (·.1) = false := by rfl) : Ev X (.Call (.Name n p) [a] [] pos) σ H u z := fun H1 s Q q =>
  wpE_of (pe_callTy hc hg hm hv (pa_cons wpE_pe pa_nil he) hn hdb he hpl) (ha H1 s _ fun p vs H2 np s2 hp ru => h p vs H2 Q (s.trans s2) hp ru fun k H3 s3 rk => q k H3 (s2.trans s3) rk)
theorem ev_lenT {xs : List α} (hm : X.mg "len" = none) (ha : Ev X a σ H (rTup r) xs) (hg : Gl X "len" := by rfl) (he : starEach [a] X.env = (false, eval a X.env) :: starEach [] X.env := by rfl) (hpl : (backTo pos (starEach [] X.env)).any (·.1) = false := by rfl) :
    Ev X (.Call (.Name "len" p) [a] [] pos) σ H rNat xs.length := ev_b1 call_len_seq PySem.boot_len hm ha (fun v H1 Q s ⟨p, vs, ev, hp, hu⟩ q => ⟨p, vs, by rw [ev], .inr (.inl hp), q _ H1 (Same.refl _) (by rw [us_length hu]; rfl)⟩) hg (by decide) (by decide) he hpl
theorem ev_lenL {xs : List α} (hm : X.mg "len" = none) (ha : EvL X a σ H r xs) (hg : Gl X "len" := by rfl) (he : starEach [a] X.env = (false, eval a X.env) :: starEach [] X.env := by rfl) (hpl : (backTo pos (starEach [] X.env)).any (·.1) = false := by rfl) :
    Ev X (.Call (.Name "len" p) [a] [] pos) σ H rNat xs.length := ev_b1L call_len_seq PySem.boot_len hm ha (fun p vs H1 Q s hp hu q => ⟨p, vs, rfl, .inl (SqL.of hp), q _ H1 (Same.refl _) (by rw [us_length hu]; rfl)⟩) hg (by decide) (by decide) he hpl
theorem ev_lenS {w : Str} (hm : X.mg "len" = none) (hz : w.length ≤ 100000) (ha : Ev X a σ H rStr w) (hg : Gl X "len" := by rfl) (he : starEach [a] X.env = (false, eval a X.env) :: starEach [] X.env := by rfl) (hpl : (backTo pos (starEach [] X.env)).any (·.1) = false := by rfl) :
    Ev X (.Call (.Name "len" p) [a] [] pos) σ H rNat w.length := ev_b1 call_len_str PySem.boot_len hm ha (fun v H1 Q s rv q => ⟨w, by rw [show v = _ from rv], sz_of hz, q _ H1 (Same.refl _) rfl⟩) hg (by decide) (by decide) he hpl
theorem ev_tuple {xs : List α} (hm : X.mg "tuple" = none) (ha : EvL X a σ H r xs) (hg : Gl X "tuple" := by rfl) (he : starEach [a] X.env = (false, eval a X.env) :: starEach [] X.env := by rfl) (hpl : (backTo pos (starEach [] X.env)).any (·.1) = false := by rfl) :
    Ev X (.Call (.Name "tuple" p) [a] [] pos) σ H (rTup r) xs := ev_t1L call_tuple_of (by decide +kernel) hm ha (fun p vs H1 Q s hp hu q => ⟨p, vs, rfl, .inl ⟨SqL.of hp, fun l hl => q _ _ (Same.new hl) ⟨l, vs, rfl, .inl upd_same, R.us_up (Same.T (Same.new hl)) hu⟩⟩⟩) hg (by decide) (by decide) he hpl
/-- tuple(list): the new tuple's own object is known -/
theorem call_tuple_frz : CallR X (.type "tuple") (fun xs H Q => ∃ p ys, xs = [.ref p] ∧ SqL X.K H p ys ∧ ∀ l o, H l = none → o.dict = none → Q (.ref l) (upd H l (.frz o (.tup ys)))) := by
  intro pins s σ H xs us Q I r h
  obtain ⟨p, ys, rfl, hq, q⟩ := h
  obtain ⟨u, rfl, rx⟩ := vals1 r
  cases rx
  obtain ⟨its, r', pl, hz⟩ := I.list hq
  have hlen := r'.length
  refine call_tuple_list pl.isList (fun h' kp => ?_) (by simp only [List.size_toArray] <;> omega)
  have I1 : Inv X pins σ H { s with heap := h' } := I.kept (t' := s.toks) kp
  have I2 : Inv X pins σ (upd H h'.objs.size (.frz { cls := .type "tuple", data := .seq its.toArray } (.tup ys))) { s with heap := h'.push { cls := .type "tuple", data := .seq its.toArray } } :=
    I1.laid (t' := s.toks) (fun b o e => Heap.get?_push_of_some _ e) (Nat.le_refl _) (show ObjOk X.prog X.w _ _ _ (.frz _ (.tup ys)) from ⟨Heap.get?_push_size _ rfl, hz, its, r', IsTup.new _ _⟩)
  exact ⟨.ref h'.objs.size, _, I2, rfl, q _ _ (I1.hok.fresh (Nat.le_refl _)) rfl⟩
theorem ev_tupleN {xs : List α} (hm : X.mg "tuple" = none) (ha : EvL X a σ H r xs) (hg : Gl X "tuple" := by rfl) (he : starEach [a] X.env = (false, eval a X.env) :: starEach [] X.env := by rfl) (hpl : (backTo pos (starEach [] X.env)).any (·.1) = false := by rfl) :
    Ev X (.Call (.Name "tuple" p) [a] [] pos) σ H (rTupN r) xs := ev_t1L call_tuple_frz (by decide +kernel) hm ha (fun p vs H1 Q s hp hu q => ⟨p, vs, rfl, SqL.of hp, fun l o hl ho => q _ _ (Same.new hl) ⟨l, vs, o, rfl, upd_same, ho, R.us_up (Same.T (Same.new hl)) hu⟩⟩) hg (by decide) (by decide) he hpl
theorem el_listT {xs : List α} (hm : X.mg "list" = none) (ha : Ev X a σ H (rTup r) xs) (hg : Gl X "list" := by rfl) (he : starEach [a] X.env = (false, eval a X.env) :: starEach [] X.env := by rfl) (hpl : (backTo pos (starEach [] X.env)).any (·.1) = false := by rfl) :
    EvL X (.Call (.Name "list" p) [a] [] pos) σ H r xs := fun H1 s Q q =>
  wpE_of (pe_callTy call_list_of hg hm (by decide +kernel) (pa_cons wpE_pe pa_nil he) (by decide) (by decide) he hpl) (ha H1 s _ fun v H2 s2 ⟨p, vs, ev, hp, hu⟩ => ⟨p, vs, by rw [ev], .inr (.inl hp), fun l hl => q l vs _ (none_of_same s2 hl) (s2.trans (Same.new hl)) upd_same (R.us_up (Same.T (Same.new hl)) hu)⟩)
theorem ev_sum {xs : List Int} (hc : X.calm = true) (hm : X.mg "sum" = none) (ha : EvL X a σ H rInt xs) (hg : Gl X "sum" := by rfl) (he : starEach [a] X.env = (false, eval a X.env) :: starEach [] X.env := by rfl) (hpl : (backTo pos (starEach [] X.env)).any (·.1) = false := by rfl) :
    Ev X (.Call (.Name "sum" p) [a] [] pos) σ H rInt xs.sum := ev_b1L (cr_sum hc) (by decide +kernel) hm ha (fun p vs H1 Q s hp hu q => ⟨p, xs, rfl, by rw [← us_int hu]; exact SqL.of hp, q _ H1 (Same.refl _) rfl⟩) hg (by decide) (by decide) he hpl
theorem ev_all {xs : List Bool} (hc : X.calm = true) (hm : X.mg "all" = none) (ha : EvL X a σ H rBool xs) (hg : Gl X "all" := by rfl) (he : starEach [a] X.env = (false, eval a X.env) :: starEach [] X.env := by rfl) (hpl : (backTo pos (starEach [] X.env)).any (·.1) = false := by rfl) :
    Ev X (.Call (.Name "all" p) [a] [] pos) σ H rBool (xs.all id) := ev_b1L (cr_all hc) (by decide +kernel) hm ha (fun p vs H1 Q s hp hu q => ⟨p, xs, rfl, by rw [← us_bool hu]; exact SqL.of hp, q _ H1 (Same.refl _) rfl⟩) hg (by decide) (by decide) he hpl
theorem ev_any {xs : List Bool} (hc : X.calm = true) (hm : X.mg "any" = none) (ha : EvL X a σ H rBool xs) (hg : Gl X "any" := by rfl) (he : starEach [a] X.env = (false, eval a X.env) :: starEach [] X.env := by rfl) (hpl : (backTo pos (starEach [] X.env)).any (·.1) = false := by rfl) :
    Ev X (.Call (.Name "any" p) [a] [] pos) σ H rBool (xs.any id) := ev_b1L (cr_any hc) (by decide +kernel) hm ha (fun p vs H1 Q s hp hu q => ⟨p, xs, rfl, by rw [← us_bool hu]; exact SqL.of hp, q _ H1 (Same.refl _) rfl⟩) hg (by decide) (by decide) he hpl
theorem el_sorted {xs : List Str} (hm : X.mg "sorted" = none) (hl : xs.length < 64) (ha : EvL X a σ H rStr xs) (hg : Gl X "sorted" := by rfl) (he : starEach [a] X.env = (false, eval a X.env) :: starEach [] X.env := by rfl) (hpl : (backTo pos (starEach [] X.env)).any (·.1) = false := by rfl) :
    EvL X (.Call (.Name "sorted" p) [a] [] pos) σ H rStr (sortStr xs) := el_b1L cr_sortedS (by decide +kernel) hm ha (fun p vs H1 Q s hp hu q => ⟨p, xs, rfl, by rw [← us_str hu]; exact SqL.of hp, hl, fun ys p' pm so hp' => by
      rw [sortStr_of pm so]
      exact q p' _ _ hp' (Same.new hp') upd_same (str_us _)⟩) hg (by decide) (by decide) he hpl
/-! ### arithmetic and comparisons of whole numbers -/
theorem ev_add {i j : Int} (ha : Ev X a σ H rInt i) (hb : Ev X b σ H rInt j) : Ev X (.BinOp a .Add b pos) σ H rInt (i + j) := ev_op op_add ha hb fun v w H1 Q s rv rw q => ⟨i, j, rv, rw, q _ H1 (Same.refl _) rfl⟩
theorem ev_sub {i j : Int} (ha : Ev X a σ H rInt i) (hb : Ev X b σ H rInt j) : Ev X (.BinOp a .Sub b pos) σ H rInt (i - j) := ev_op op_sub ha hb fun v w H1 Q s rv rw q => ⟨i, j, rv, rw, q _ H1 (Same.refl _) rfl⟩
theorem ev_mod {i j : Int} (h : 0 < j) (ha : Ev X a σ H rInt i) (hb : Ev X b σ H rInt j) : Ev X (.BinOp a .Mod b pos) σ H rInt (i % j) := ev_op op_mod ha hb fun v w H1 Q s rv rw q => ⟨i, j, rv, rw, h, q _ H1 (Same.refl _) rfl⟩
theorem ev_bitand {i j : Int} (ha : Ev X a σ H rInt i) (hb : Ev X b σ H rInt j) : Ev X (.BinOp a .BitAnd b pos) σ H rInt (Builtin.bitAnd i j) := ev_op op_and ha hb fun v w H1 Q s rv rw q => ⟨i, j, rv, rw, q _ H1 (Same.refl _) rfl⟩
theorem ev_shl {i j : Int} (h : 0 ≤ j ∧ j ≤ 1000000 ∧ i.natAbs < 2 ^ 64) (ha : Ev X a σ H rInt i) (hb : Ev X b σ H rInt j) : Ev X (.BinOp a .LShift b pos) σ H rInt (i * 2 ^ j.toNat) := ev_op op_shl ha hb fun v w H1 Q s rv rw q => ⟨i, j, rv, rw, h, q _ H1 (Same.refl _) rfl⟩
theorem ev_shr {i j : Int} (h : 0 ≤ j) (ha : Ev X a σ H rInt i) (hb : Ev X b σ H rInt j) : Ev X (.BinOp a .RShift b pos) σ H rInt (i / 2 ^ j.toNat) := ev_op op_shr ha hb fun v w H1 Q s rv rw q => ⟨i, j, rv, rw, h, q _ H1 (Same.refl _) rfl⟩
theorem ev_addS {i j : Str} (h : i.length + j.length ≤ 100000) (ha : Ev X a σ H rStr i) (hb : Ev X b σ H rStr j) : Ev X (.BinOp a .Add b pos) σ H rStr (i ++ j) := ev_op op_add_str ha hb fun v w H1 Q s rv rw q => ⟨i, j, rv, rw, sz_of h, q _ H1 (Same.refl _) rfl⟩
theorem et_lt {i j : Int} (ha : Ev X a σ H rInt i) (hb : Ev X b σ H rInt j) : EvT X (.Compare a [.Lt] [b] pos) σ H (decide (i < j)) := et_cmp op_lt ha hb (fun v w H1 Q s rv rw q => ⟨i, j, rv, rw, q⟩) (nomark _)
theorem et_le {i j : Int} (ha : Ev X a σ H rInt i) (hb : Ev X b σ H rInt j) : EvT X (.Compare a [.LtE] [b] pos) σ H (decide (i ≤ j)) := et_cmp op_le ha hb (fun v w H1 Q s rv rw q => ⟨i, j, rv, rw, q⟩) (nomark _)
theorem et_gt {i j : Int} (ha : Ev X a σ H rInt i) (hb : Ev X b σ H rInt j) : EvT X (.Compare a [.Gt] [b] pos) σ H (decide (j < i)) := et_cmp op_gt ha hb (fun v w H1 Q s rv rw q => ⟨i, j, rv, rw, q⟩) (nomark _)
theorem et_ge {i j : Int} (ha : Ev X a σ H rInt i) (hb : Ev X b σ H rInt j) : EvT X (.Compare a [.GtE] [b] pos) σ H (decide (j ≤ i)) := et_cmp op_ge ha hb (fun v w H1 Q s rv rw q => ⟨i, j, rv, rw, q⟩) (nomark _)
theorem ev_lt {i j : Int} (ha : Ev X a σ H rInt i) (hb : Ev X b σ H rInt j) : Ev X (.Compare a [.Lt] [b] pos) σ H rBool (decide (i < j)) := ev_cmp op_lt ha hb (fun v w H1 Q s rv rw q => ⟨i, j, rv, rw, q⟩) (nomark _)
theorem ev_le {i j : Int} (ha : Ev X a σ H rInt i) (hb : Ev X b σ H rInt j) : Ev X (.Compare a [.LtE] [b] pos) σ H rBool (decide (i ≤ j)) := ev_cmp op_le ha hb (fun v w H1 Q s rv rw q => ⟨i, j, rv, rw, q⟩) (nomark _)
theorem ev_ge {i j : Int} (ha : Ev X a σ H rInt i) (hb : Ev X b σ H rInt j) : Ev X (.Compare a [.GtE] [b] pos) σ H rBool (decide (j ≤ i)) := ev_cmp op_ge ha hb (fun v w H1 Q s rv rw q => ⟨i, j, rv, rw, q⟩) (nomark _)
theorem et_eqI {i j : Int} (ha : Ev X a σ H rInt i) (hb : Ev X b σ H rInt j) : EvT X (.Compare a [.Eq] [b] pos) σ H (decide (i = j)) := et_cmp op_eq ha hb (fun v w H1 Q s rv rw q => by
  cases (show v = _ from rv); cases (show w = _ from rw); exact ⟨rfl, by simpa using q⟩) (nomark _)
theorem et_neI {i j : Int} (ha : Ev X a σ H rInt i) (hb : Ev X b σ H rInt j) : EvT X (.Compare a [.NotEq] [b] pos) σ H (!decide (i = j)) := et_cmp op_ne ha hb (fun v w H1 Q s rv rw q => by
  cases (show v = _ from rv); cases (show w = _ from rw); exact ⟨rfl, by simpa using q⟩) (nomark _)
theorem ev_eqI {i j : Int} (ha : Ev X a σ H rInt i) (hb : Ev X b σ H rInt j) : Ev X (.Compare a [.Eq] [b] pos) σ H rBool (decide (i = j)) := ev_cmp op_eq ha hb (fun v w H1 Q s rv rw q => by
  cases (show v = _ from rv); cases (show w = _ from rw); exact ⟨rfl, by simpa using q⟩) (nomark _)
theorem et_eqS {i j : Str} (ha : Ev X a σ H rStr i) (hb : Ev X b σ H rStr j) : EvT X (.Compare a [.Eq] [b] pos) σ H (decide (i = j)) := et_cmp op_eq ha hb (fun v w H1 Q s rv rw q => by
  cases (show v = _ from rv); cases (show w = _ from rw); exact ⟨rfl, by simpa using q⟩) (nomark _)
theorem et_neS {i j : Str} (ha : Ev X a σ H rStr i) (hb : Ev X b σ H rStr j) : EvT X (.Compare a [.NotEq] [b] pos) σ H (!decide (i = j)) := et_cmp op_ne ha hb (fun v w H1 Q s rv rw q => by
  cases (show v = _ from rv); cases (show w = _ from rw); exact ⟨rfl, by simpa using q⟩) (nomark _)
theorem ev_neS {i j : Str} (ha : Ev X a σ H rStr i) (hb : Ev X b σ H rStr j) : Ev X (.Compare a [.NotEq] [b] pos) σ H rBool (!decide (i = j)) := ev_cmp op_ne ha hb (fun v w H1 Q s rv rw q => by
  cases (show v = _ from rv); cases (show w = _ from rw); exact ⟨rfl, by simpa using q⟩) (nomark _)
theorem int_of_nat {k : Nat} (h : Ev X a σ H rNat k) : Ev X a σ H rInt (k : Int) := h
theorem nat_of_int {k : Nat} (h : Ev X a σ H rInt (k : Int)) : Ev X a σ H rNat k := h
/-! ### is None -/
theorem et_isN {v : V} {r : R V} (ha : Ev X a σ H rVal v) {k : Nat} {q : Pos} : EvT X (.Compare a [.Is] [.Constant .none k q] pos) σ H (decide (v = .non)) := et_cmp op_isN ha ev_non (fun v' w H1 Q s rv rw q => ⟨rw, by rw [show v' = _ from rv]; exact q⟩) (nomark _)
theorem ev_isN {v : V} (ha : Ev X a σ H rVal v) {k : Nat} {q : Pos} : Ev X (.Compare a [.Is] [.Constant .none k q] pos) σ H rBool (decide (v = .non)) := ev_cmp op_isN ha ev_non (fun v' w H1 Q s rv rw q => ⟨rw, by rw [show v' = _ from rv]; exact q⟩) (nomark _)
/-! ### membership -/
theorem inV_str {z : Str} {xs : List Str} : inV (.str z) (xs.map V.str) = decide (z ∈ xs) := by
  unfold inV
  induction xs with
  | nil => simp
  | cons y ys ih =>
    rw [List.map_cons, List.any_cons, ih]
    have : eqV (.str y) (.str z) = decide (z = y) := by
      by_cases h : y = z
      · subst h; simp [eqV]
      · have h2 : ¬ z = y := fun q => h q.symm
        simp [eqV, h, h2]
    rw [this]
    simp only [List.mem_cons, Bool.decide_or]
theorem et_inT {z : Str} {xs : List Str} (ha : Ev X a σ H rStr z) (hb : Ev X b σ H (rTup rStr) xs) (hm : behindInMarks .In b = false := by rfl) : EvT X (.Compare a [.In] [b] pos) σ H (decide (z ∈ xs)) := et_cmp op_in_seq ha hb (fun v w H1 Q s rv ⟨p, vs, ew, hp, hu⟩ q => by
  cases (show v = _ from rv)
  refine ⟨p, vs, ew, .inr (.inl hp), rfl, by rw [us_str hu]; exact flat_strs _, ?_⟩
  rw [if_neg (by decide), us_str hu, inV_str]
  exact q) hm
theorem ev_inT {z : Str} {xs : List Str} (ha : Ev X a σ H rStr z) (hb : Ev X b σ H (rTup rStr) xs) (hm : behindInMarks .In b = false := by rfl) : Ev X (.Compare a [.In] [b] pos) σ H rBool (decide (z ∈ xs)) := ev_cmp op_in_seq ha hb (fun v w H1 Q s rv ⟨p, vs, ew, hp, hu⟩ q => by
  cases (show v = _ from rv)
  refine ⟨p, vs, ew, .inr (.inl hp), rfl, by rw [us_str hu]; exact flat_strs _, ?_⟩
  rw [if_neg (by decide), us_str hu, inV_str]
  exact q) hm
theorem ev_ninT {z : Str} {xs : List Str} (ha : Ev X a σ H rStr z) (hb : Ev X b σ H (rTup rStr) xs) (hm : behindInMarks .NotIn b = false := by rfl) : Ev X (.Compare a [.NotIn] [b] pos) σ H rBool (!decide (z ∈ xs)) := ev_cmp op_notIn_seq ha hb (fun v w H1 Q s rv ⟨p, vs, ew, hp, hu⟩ q => by
  cases (show v = _ from rv)
  refine ⟨p, vs, ew, .inr (.inl hp), rfl, by rw [us_str hu]; exact flat_strs _, ?_⟩
  rw [if_pos rfl, us_str hu, inV_str]
  exact q) hm
/-- in a list that stands at a known place -/
theorem et_inL {z : Str} {xs : List Str} {l : Addr} (ha : Ev X a σ H rStr z) (hb : Ev X b σ H rVal (.ref l)) (hl : H l = some (.lst (xs.map V.str))) (hm : behindInMarks .In b = false := by rfl) : EvT X (.Compare a [.In] [b] pos) σ H (decide (z ∈ xs)) := et_cmp op_in_seq ha hb (fun v w H1 Q s rv rw q => by
  cases (show v = _ from rv)
  refine ⟨l, _, rw, .inl (SqL.of (s _ _ hl)), rfl, flat_strs _, ?_⟩
  rw [if_neg (by decide), inV_str]
  exact q) hm
theorem et_ninL {z : Str} {xs : List Str} {l : Addr} (ha : Ev X a σ H rStr z) (hb : Ev X b σ H rVal (.ref l)) (hl : H l = some (.lst (xs.map V.str))) (hm : behindInMarks .NotIn b = false := by rfl) : EvT X (.Compare a [.NotIn] [b] pos) σ H (!decide (z ∈ xs)) := et_cmp op_notIn_seq ha hb (fun v w H1 Q s rv rw q => by
  cases (show v = _ from rv)
  refine ⟨l, _, rw, .inl (SqL.of (s _ _ hl)), rfl, flat_strs _, ?_⟩
  rw [if_pos rfl, inV_str]
  exact q) hm
/-! ### items -/
theorem ev_ixT {xs : List α} {i : Nat} (hi : xs[i]? = some x) (ha : Ev X a σ H (rTup r) xs) (hb : Ev X b σ H rInt (i : Int)) (hs : PlainIx b := by exact fun _ _ => rfl) : Ev X (.Subscript a b pos) σ H r x := fun H1 s Q q =>
  wpE_of (pe_ix ix_tup wpE_pe wpE_pe hs) (ha H1 s _ fun v H2 s2 ⟨p, vs, ev, hp, hu⟩ => hb H2 (s.trans s2) _ fun w H3 s3 rw => by
    obtain ⟨v', hv', rv'⟩ := us_get' hu hi
    exact ⟨p, vs, (i : Int), v', ev, rw, .inl ((Same.T s3).rd hp), atI_nat hv', q v' H3 (s2.trans s3) (r.up (Same.T s3) rv')⟩)
theorem ev_pair0 {x : α × β} (ha : Ev X a σ H (rPair r t) x) {k : Nat} {q : Pos} : Ev X (.Subscript a (.Constant (.int 0) k q) pos) σ H r x.1 := fun H1 s Q q =>
  wpE_of (pe_ix ix_tup wpE_pe pe_int (fun _ _ => rfl)) (ha H1 s _ fun v H2 s2 ⟨p, v1, v2, ev, hp, h1, h2⟩ => ⟨p, [v1, v2], 0, v1, ev, rfl, SqT.of hp, rfl, q v1 H2 s2 h1⟩)
theorem ev_pair1 {x : α × β} (ha : Ev X a σ H (rPair r t) x) {k : Nat} {q : Pos} : Ev X (.Subscript a (.Constant (.int 1) k q) pos) σ H t x.2 := fun H1 s Q q =>
  wpE_of (pe_ix ix_tup wpE_pe pe_int (fun _ _ => rfl)) (ha H1 s _ fun v H2 s2 ⟨p, v1, v2, ev, hp, h1, h2⟩ => ⟨p, [v1, v2], 1, v2, ev, rfl, SqT.of hp, rfl, q v2 H2 s2 h2⟩)
end
end LK
set_option maxHeartbeats 4000000
namespace LK
open PySem PySem.Spec PyProof.Rows L2
section
variable {α β γ ι : Type} {X : Cx} {e a b c tg iter elt : Expr} {es ifs : List Expr} {σ : L2.St} {H H' : Hp} {r : R α} {t : R β} {u : R γ} {x : α} {y : β} {z : γ} {pos p : Pos} {n : Str} {scope : Scope} {st : Stmt} {rest body : List Stmt} {D : Ends} {xs : List α}
/-! ### comprehensions, one name or a pair of names -/
theorem set_set_none {σ : L2.St} {j : Nat} {v : V} : ((σ.set j none).set j (some v)).set j none = σ.set j none := by rw [List.set_set, List.set_set]
/-- the shape of the parts that a comprehension's element and test have -/
abbrev Blk (X : Cx) (scope : Scope) (s : Shared) (H : Hp) (C : Addr) (cl : List (Str × Addr)) (fp : List Addr) : Cx := X.blk s H scope (compEnvC scope cl C X.env) fp
theorem blk_local {y : Str} {s : Shared} {H : Hp} {C : Addr} {cl : List (Str × Addr)} {fp : List Addr} (h : scope.names.lookup y = some .local) : (X.blk s H scope (compEnvC scope cl C X.env) fp).env.scope.names.lookup y = some .local := lookup_relabel_local h
theorem lc1_read {y : Str} {py : Pos} {j : Nat} {f : α → β} {q : α → Bool} (hc : X.calm = true) (hN : X.N.Nodup) (ok : BlkOk X.N X.env.scope scope [(y, j)]) (hi : EvI X (.Name y py) iter σ H r xs) (hz : xs.length ≤ 100000)
    (he : ∀ v x H1, x ∈ xs → Same H H1 → r.rel H1 v x → ∀ s H0 C cl fp, EvF (Blk X scope s H0 C cl fp) ifs ((σ.set j none).set j (some v)) H1 (q x) ∧ (q x = true → Ev (Blk X scope s H0 C cl fp) elt ((σ.set j none).set j (some v)) H1 t (f x))) :
    ∀ H1, Same H H1 → ∀ Q : VK, (∀ p' vs H2, H1 p' = none → Same H1 H2 → H2 p' = some (.lst vs) → t.us H2 vs ((xs.filter q).map f) → Q (.ref p') H2) →
      tLc (wpI X (.Name y py) iter) (gName j) (wpFB X scope ifs) (wpEB X scope elt) ([(y, j)].map (·.2)) σ H1 Q := fun H1 s Q k =>
  lc_read hc hN hi hz ok (fun v x H1 hx s1 rx => ⟨(σ.set j none).set j (some v), fun Q q => q, set_set_none, fun s H0 C cl fp => he v x H1 hx s1 rx s H0 C cl fp⟩) H1 s Q k
theorem el_lc1 {y : Str} {py : Pos} {j : Nat} {f : α → β} {q : α → Bool} (hc : X.calm = true) (hN : X.N.Nodup) (ok : BlkOk X.N X.env.scope scope [(y, j)]) (hi : EvI X (.Name y py) iter σ H r xs) (hz : xs.length ≤ 100000)
    (he : ∀ v x H1, x ∈ xs → Same H H1 → r.rel H1 v x → ∀ s H0 C cl fp, EvF (Blk X scope s H0 C cl fp) ifs ((σ.set j none).set j (some v)) H1 (q x) ∧ (q x = true → Ev (Blk X scope s H0 C cl fp) elt ((σ.set j none).set j (some v)) H1 t (f x)))
    (hj : X.N[j]? = some y := by rfl) (hl : scope.names.lookup y = some .local := by rfl) (hs : ∀ x, foldedSetIterable iter X.env x = pure x := by intro _; rfl) :
    EvL X (.ListComp elt [⟨.Name y py, iter, ifs, 0⟩] scope pos) σ H t ((xs.filter q).map f) := fun H1 s Q k =>
  wpE_of (pe_lc (tt := wpFB X scope ifs) (te := wpEB X scope elt) hc hN wpI_pi ok (fun s H C cl fp => pg_name hN hj (.inl (blk_local hl)) (.inr (blk_local hl))) (fun s H C cl fp => ⟨fun pins s' σ H' Q I h => (h s H C cl fp).run pins s' I⟩) (fun s H C cl fp => ⟨fun pins s' σ H' Q I h => (h s H C cl fp).run pins s' I⟩) hs) (lc1_read hc hN ok hi hz he H1 s Q k)
theorem filter_true (xs : List α) : xs.filter (fun _ => true) = xs := by simp
theorem el_map1 {y : Str} {py : Pos} {j : Nat} {f : α → β} (hc : X.calm = true) (hN : X.N.Nodup) (ok : BlkOk X.N X.env.scope scope [(y, j)]) (hi : EvI X (.Name y py) iter σ H r xs) (hz : xs.length ≤ 100000)
    (he : ∀ v x H1, x ∈ xs → Same H H1 → r.rel H1 v x → ∀ s H0 C cl fp, Ev (Blk X scope s H0 C cl fp) elt ((σ.set j none).set j (some v)) H1 t (f x))
    (hj : X.N[j]? = some y := by rfl) (hl : scope.names.lookup y = some .local := by rfl) (hs : ∀ x, foldedSetIterable iter X.env x = pure x := by intro _; rfl) :
    EvL X (.ListComp elt [⟨.Name y py, iter, [], 0⟩] scope pos) σ H t (xs.map f) := by
  have h := el_lc1 (pos := pos) (q := fun _ => true) hc hN ok hi hz (fun v x H1 hx s1 rx s H0 C cl fp => ⟨ef_nil, fun _ => he v x H1 hx s1 rx s H0 C cl fp⟩) hj hl hs
  rwa [filter_true] at h
theorem el_fil1 {y : Str} {py : Pos} {j : Nat} {q : α → Bool} (hc : X.calm = true) (hN : X.N.Nodup) (ok : BlkOk X.N X.env.scope scope [(y, j)]) (hi : EvI X (.Name y py) iter σ H r xs) (hz : xs.length ≤ 100000)
    (ht : ∀ v x H1, x ∈ xs → Same H H1 → r.rel H1 v x → ∀ s H0 C cl fp, EvT (Blk X scope s H0 C cl fp) c ((σ.set j none).set j (some v)) H1 (q x))
    (he : ∀ v x H1, x ∈ xs → Same H H1 → r.rel H1 v x → ∀ s H0 C cl fp, Ev (Blk X scope s H0 C cl fp) elt ((σ.set j none).set j (some v)) H1 r x)
    (hj : X.N[j]? = some y := by rfl) (hl : scope.names.lookup y = some .local := by rfl) (hs : ∀ x, foldedSetIterable iter X.env x = pure x := by intro _; rfl) :
    EvL X (.ListComp elt [⟨.Name y py, iter, [c], 0⟩] scope pos) σ H r (xs.filter q) := by
  have h := el_lc1 (pos := pos) (f := fun x => x) hc hN ok hi hz (fun v x H1 hx s1 rx s H0 C cl fp => ⟨ef_one (ht v x H1 hx s1 rx s H0 C cl fp), fun _ => he v x H1 hx s1 rx s H0 C cl fp⟩) hj hl hs
  rwa [List.map_id'] at h
theorem wipe2 {σ : L2.St} {j1 j2 : Nat} {v w : V} (hj : j1 ≠ j2) : wipe ((((wipe σ [j1, j2])).set j1 (some v)).set j2 (some w)) [j1, j2] = wipe σ [j1, j2] := by
  show ((((((σ.set j2 none).set j1 none).set j1 (some v)).set j2 (some w)).set j2 none).set j1 none) = (σ.set j2 none).set j1 none
  apply List.ext_getElem?
  intro i
  simp only [List.getElem?_set, List.length_set]
  by_cases h1 : j1 = i
  · by_cases h2 : j2 = i
    · exact absurd (h1.trans h2.symm) hj
    · simp [h1, h2]
  · by_cases h2 : j2 = i
    · simp [h1, h2]
    · simp [h1, h2]
/-- what the two parts of a pair are -/
theorem el_lc2 {r : R α} {r' : R β} {t : R γ} {xs : List (α × β)} {y1 y2 : Str} {p1 p2 pt : Pos} {kk j1 j2 : Nat} {f : α × β → γ} {q : α × β → Bool} (hj12 : j1 ≠ j2) (hc : X.calm = true) (hN : X.N.Nodup) (ok : BlkOk X.N X.env.scope scope [(y1, j1), (y2, j2)])
    (hi : EvI X (.Tuple [.Name y1 p1, .Name y2 p2] kk pt) iter σ H (rPair r r') xs) (hz : xs.length ≤ 100000)
    (he : ∀ v w x H1, x ∈ xs → Same H H1 → r.rel H1 v x.1 → r'.rel H1 w x.2 → ∀ s H0 C cl fp, EvF (Blk X scope s H0 C cl fp) ifs (((wipe σ [j1, j2]).set j1 (some v)).set j2 (some w)) H1 (q x) ∧
      (q x = true → Ev (Blk X scope s H0 C cl fp) elt (((wipe σ [j1, j2]).set j1 (some v)).set j2 (some w)) H1 t (f x)))
    (hj1 : X.N[j1]? = some y1 := by rfl) (hl1 : scope.names.lookup y1 = some .local := by rfl) (hj2 : X.N[j2]? = some y2 := by rfl) (hl2 : scope.names.lookup y2 = some .local := by rfl) (hs : ∀ x, foldedSetIterable iter X.env x = pure x := by intro _; rfl) :
    EvL X (.ListComp elt [⟨.Tuple [.Name y1 p1, .Name y2 p2] kk pt, iter, ifs, 0⟩] scope pos) σ H t ((xs.filter q).map f) :=
  el_lc (g := gTup X.K 2 (gCons (gName j1) (gCons (gName j2) gNil))) hc hN hi hz ok (fun s H C cl fp => pg_tup hc (pgs_cons (pg_name hN hj1 (.inl (blk_local hl1)) (.inr (blk_local hl1))) (pgs_cons (pg_name hN hj2 (.inl (blk_local hl2)) (.inr (blk_local hl2))) pgs_nil)))
    (fun v x H1 hx s1 rx => by
      obtain ⟨T, v1, v2, ev, hT, h1, h2⟩ := rx
      refine ⟨((wipe σ [j1, j2]).set j1 (some v1)).set j2 (some v2), fun Q k => ⟨T, [v1, v2], ev, SqT.of hT, rfl, v1, [v2], rfl, v2, [], rfl, rfl, k⟩, wipe2 hj12, fun s H0 C cl fp => he v1 v2 x H1 hx s1 h1 h2 s H0 C cl fp⟩) hs
theorem el_map2 {r : R α} {r' : R β} {t : R γ} {xs : List (α × β)} {y1 y2 : Str} {p1 p2 pt : Pos} {kk j1 j2 : Nat} {f : α × β → γ} (hj12 : j1 ≠ j2) (hc : X.calm = true) (hN : X.N.Nodup) (ok : BlkOk X.N X.env.scope scope [(y1, j1), (y2, j2)])
    (hi : EvI X (.Tuple [.Name y1 p1, .Name y2 p2] kk pt) iter σ H (rPair r r') xs) (hz : xs.length ≤ 100000)
    (he : ∀ v w x H1, x ∈ xs → Same H H1 → r.rel H1 v x.1 → r'.rel H1 w x.2 → ∀ s H0 C cl fp, Ev (Blk X scope s H0 C cl fp) elt (((wipe σ [j1, j2]).set j1 (some v)).set j2 (some w)) H1 t (f x))
    (hj1 : X.N[j1]? = some y1 := by rfl) (hl1 : scope.names.lookup y1 = some .local := by rfl) (hj2 : X.N[j2]? = some y2 := by rfl) (hl2 : scope.names.lookup y2 = some .local := by rfl) (hs : ∀ x, foldedSetIterable iter X.env x = pure x := by intro _; rfl) :
    EvL X (.ListComp elt [⟨.Tuple [.Name y1 p1, .Name y2 p2] kk pt, iter, [], 0⟩] scope pos) σ H t (xs.map f) := by
  have h := el_lc2 (pos := pos) (q := fun _ => true) hj12 hc hN ok hi hz (fun v w x H1 hx s1 r1 r2 s H0 C cl fp => ⟨ef_nil, fun _ => he v w x H1 hx s1 r1 r2 s H0 C cl fp⟩) hj1 hl1 hj2 hl2 hs
  rwa [filter_true] at h
theorem el_fil2 {r : R α} {r' : R β} {t : R γ} {xs : List (α × β)} {y1 y2 : Str} {p1 p2 pt : Pos} {kk j1 j2 : Nat} {f : α × β → γ} {q : α × β → Bool} (hj12 : j1 ≠ j2) (hc : X.calm = true) (hN : X.N.Nodup) (ok : BlkOk X.N X.env.scope scope [(y1, j1), (y2, j2)])
    (hi : EvI X (.Tuple [.Name y1 p1, .Name y2 p2] kk pt) iter σ H (rPair r r') xs) (hz : xs.length ≤ 100000)
    (ht : ∀ v w x H1, x ∈ xs → Same H H1 → r.rel H1 v x.1 → r'.rel H1 w x.2 → ∀ s H0 C cl fp, EvT (Blk X scope s H0 C cl fp) c (((wipe σ [j1, j2]).set j1 (some v)).set j2 (some w)) H1 (q x))
    (he : ∀ v w x H1, x ∈ xs → Same H H1 → r.rel H1 v x.1 → r'.rel H1 w x.2 → ∀ s H0 C cl fp, Ev (Blk X scope s H0 C cl fp) elt (((wipe σ [j1, j2]).set j1 (some v)).set j2 (some w)) H1 t (f x))
    (hj1 : X.N[j1]? = some y1 := by rfl) (hl1 : scope.names.lookup y1 = some .local := by rfl) (hj2 : X.N[j2]? = some y2 := by rfl) (hl2 : scope.names.lookup y2 = some .local := by rfl) (hs : ∀ x, foldedSetIterable iter X.env x = pure x := by intro _; rfl) :
    EvL X (.ListComp elt [⟨.Tuple [.Name y1 p1, .Name y2 p2] kk pt, iter, [c], 0⟩] scope pos) σ H t ((xs.filter q).map f) :=
  el_lc2 hj12 hc hN ok hi hz (fun v w x H1 hx s1 r1 r2 s H0 C cl fp => ⟨ef_one (ht v w x H1 hx s1 r1 r2 s H0 C cl fp), fun _ => he v w x H1 hx s1 r1 r2 s H0 C cl fp⟩) hj1 hl1 hj2 hl2 hs
/-! ### statements -/
theorem ss_cons (h : wpS X st { D with nx := wpSs X rest D } σ H) : wpSs X (st :: rest) D σ H := wpSs_of (pss_cons wpS_ps wpSs_pss) h
theorem ss_nil (h : D.nx σ H) : wpSs X [] D σ H := wpSs_of pss_nil h
theorem ss_setW {i : Nat} {py : Pos} {s1 : Pos} (h : wpE X e σ H fun v H1 => wpSs X rest D (σ.set i (some v)) H1) (hN : X.N.Nodup) (hi : X.N[i]? = some n := by rfl) (hx : Loc X.env.scope n := by first | exact Or.inl rfl | exact Or.inr rfl) (hs : swapsWith e (some (.Name n py)) s1.line X.env = pure false := by rfl)
    (hf : X.fn n = true ∨ X.env.scope.names.lookup n = some .local := by first | exact .inl rfl | exact .inr rfl) : wpSs X (.Assign [.Name n py] e s1 :: rest) D σ H := ss_cons (wpS_of (ps_set hN hi hx wpE_pe hs hf) h)
theorem ss_set {i : Nat} {py : Pos} {s1 : Pos} (h : Ev X e σ H r x) (k : ∀ v H1, Same H H1 → r.rel H1 v x → wpSs X rest D (σ.set i (some v)) H1) (hN : X.N.Nodup) (hi : X.N[i]? = some n := by rfl) (hx : Loc X.env.scope n := by first | exact Or.inl rfl | exact Or.inr rfl) (hs : swapsWith e (some (.Name n py)) s1.line X.env = pure false := by rfl)
    (hf : X.fn n = true ∨ X.env.scope.names.lookup n = some .local := by first | exact .inl rfl | exact .inr rfl) : wpSs X (.Assign [.Name n py] e s1 :: rest) D σ H := ss_setW (h H (Same.refl H) _ fun v H1 s rv => k v H1 s rv) hN hi hx hs hf
theorem ss_setL {i : Nat} {py : Pos} {s1 : Pos} (h : EvL X e σ H r xs) (k : ∀ p vs H1, H p = none → Same H H1 → H1 p = some (.lst vs) → r.us H1 vs xs → wpSs X rest D (σ.set i (some (.ref p))) H1) (hN : X.N.Nodup) (hi : X.N[i]? = some n := by rfl) (hx : Loc X.env.scope n := by first | exact Or.inl rfl | exact Or.inr rfl) (hs : swapsWith e (some (.Name n py)) s1.line X.env = pure false := by rfl)
    (hf : X.fn n = true ∨ X.env.scope.names.lookup n = some .local := by first | exact .inl rfl | exact .inr rfl) : wpSs X (.Assign [.Name n py] e s1 :: rest) D σ H := ss_setW (h H (Same.refl H) _ fun p vs H1 np s hp ru => k p vs H1 np s hp ru) hN hi hx hs hf
/-- name = [elt for y in iter if ..] on one line -/
theorem ss_setLc1 {i : Nat} {nm y : Str} {pn py spos : Pos} {j : Nat} {f : α → β} {q : α → Bool} (hc : X.calm = true) (hN : X.N.Nodup) (ok : BlkOk X.N X.env.scope scope [(y, j)]) (hi : EvI X (.Name y py) iter σ H r xs) (hz : xs.length ≤ 100000)
    (he : ∀ v x H1, x ∈ xs → Same H H1 → r.rel H1 v x → ∀ s H0 C cl fp, EvF (Blk X scope s H0 C cl fp) ifs ((σ.set j none).set j (some v)) H1 (q x) ∧ (q x = true → Ev (Blk X scope s H0 C cl fp) elt ((σ.set j none).set j (some v)) H1 t (f x)))
    (k : ∀ p vs H1, H p = none → Same H H1 → H1 p = some (.lst vs) → t.us H1 vs ((xs.filter q).map f) → wpSs X rest D (σ.set i (some (.ref p))) H1)
    (hsw : swapsWith (.ListComp elt [⟨.Name y py, iter, ifs, 0⟩] scope pos) (some (.Name nm pn)) spos.line X.env = pure true)
    (hy : X.N[i]? = some nm := by rfl) (hyl : X.env.scope.names.lookup nm = some .local := by rfl) (hj : X.N[j]? = some y := by rfl) (hl : scope.names.lookup y = some .local := by rfl) (hs : ∀ x, foldedSetIterable iter X.env x = pure x := by intro _; rfl) :
    wpSs X (.Assign [.Name nm pn] (.ListComp elt [⟨.Name y py, iter, ifs, 0⟩] scope pos) spos :: rest) D σ H :=
  ss_cons (wpS_of (ps_setLc (tt := wpFB X scope ifs) (te := wpEB X scope elt) hc hN hy hyl hsw wpI_pi ok (fun s H C cl fp => pg_name hN hj (.inl (blk_local hl)) (.inr (blk_local hl))) (fun s H C cl fp => ⟨fun pins s' σ H' Q I h => (h s H C cl fp).run pins s' I⟩) (fun s H C cl fp => ⟨fun pins s' σ H' Q I h => (h s H C cl fp).run pins s' I⟩) hs)
    (lc1_read hc hN ok hi hz he H (Same.refl H) _ fun p vs H1 np s hp ru => k p vs H1 np s hp ru))
/-- name = [elt for y1, y2 in iter if ..] on one line -/
theorem ss_setLc2 {r : R α} {r' : R β} {t : R γ} {xs : List (α × β)} {i : Nat} {nm y1 y2 : Str} {pn p1 p2 pt spos : Pos} {kk j1 j2 : Nat} {f : α × β → γ} {q : α × β → Bool} (hj12 : j1 ≠ j2) (hc : X.calm = true) (hN : X.N.Nodup) (ok : BlkOk X.N X.env.scope scope [(y1, j1), (y2, j2)])
    (hi : EvI X (.Tuple [.Name y1 p1, .Name y2 p2] kk pt) iter σ H (rPair r r') xs) (hz : xs.length ≤ 100000)
    (he : ∀ v w x H1, x ∈ xs → Same H H1 → r.rel H1 v x.1 → r'.rel H1 w x.2 → ∀ s H0 C cl fp, EvF (Blk X scope s H0 C cl fp) ifs (((wipe σ [j1, j2]).set j1 (some v)).set j2 (some w)) H1 (q x) ∧
      (q x = true → Ev (Blk X scope s H0 C cl fp) elt (((wipe σ [j1, j2]).set j1 (some v)).set j2 (some w)) H1 t (f x)))
    (k : ∀ p vs H1, H p = none → Same H H1 → H1 p = some (.lst vs) → t.us H1 vs ((xs.filter q).map f) → wpSs X rest D (σ.set i (some (.ref p))) H1)
    (hsw : swapsWith (.ListComp elt [⟨.Tuple [.Name y1 p1, .Name y2 p2] kk pt, iter, ifs, 0⟩] scope pos) (some (.Name nm pn)) spos.line X.env = pure true)
    (hy : X.N[i]? = some nm := by rfl) (hyl : X.env.scope.names.lookup nm = some .local := by rfl) (hj1 : X.N[j1]? = some y1 := by rfl) (hl1 : scope.names.lookup y1 = some .local := by rfl) (hj2 : X.N[j2]? = some y2 := by rfl) (hl2 : scope.names.lookup y2 = some .local := by rfl) (hs : ∀ x, foldedSetIterable iter X.env x = pure x := by intro _; rfl) :
    wpSs X (.Assign [.Name nm pn] (.ListComp elt [⟨.Tuple [.Name y1 p1, .Name y2 p2] kk pt, iter, ifs, 0⟩] scope pos) spos :: rest) D σ H :=
  ss_cons (wpS_of (ps_setLc (tt := wpFB X scope ifs) (te := wpEB X scope elt) (g := gTup X.K 2 (gCons (gName j1) (gCons (gName j2) gNil))) hc hN hy hyl hsw wpI_pi ok (fun s H C cl fp => pg_tup hc (pgs_cons (pg_name hN hj1 (.inl (blk_local hl1)) (.inr (blk_local hl1))) (pgs_cons (pg_name hN hj2 (.inl (blk_local hl2)) (.inr (blk_local hl2))) pgs_nil)))
    (fun s H C cl fp => ⟨fun pins s' σ H' Q I h => (h s H C cl fp).run pins s' I⟩) (fun s H C cl fp => ⟨fun pins s' σ H' Q I h => (h s H C cl fp).run pins s' I⟩) hs)
    (lc_read hc hN hi hz ok (fun v x H1 hx s1 rx => by
      obtain ⟨T, v1, v2, ev, hT, h1, h2⟩ := rx
      refine ⟨((wipe σ [j1, j2]).set j1 (some v1)).set j2 (some v2), fun Q k => ⟨T, [v1, v2], ev, SqT.of hT, rfl, v1, [v2], rfl, v2, [], rfl, rfl, k⟩, wipe2 hj12, fun s H0 C cl fp => he v1 v2 x H1 hx s1 h1 h2 s H0 C cl fp⟩) H (Same.refl H) _ fun p vs H1 np s hp ru => k p vs H1 np s hp ru))
theorem ss_ret {s1 : Pos} (h : Ev X e σ H r x) (k : ∀ v H1, Same H H1 → r.rel H1 v x → D.rt v H1) : wpSs X (.Return (some e) s1 :: rest) D σ H := ss_cons (wpS_of (ps_ret wpE_pe) (h H (Same.refl H) _ fun v H1 s rv => k v H1 s rv))
theorem ss_retL {s1 : Pos} (h : EvL X e σ H r xs) (k : ∀ p vs H1, H p = none → Same H H1 → H1 p = some (.lst vs) → r.us H1 vs xs → D.rt (.ref p) H1) : wpSs X (.Return (some e) s1 :: rest) D σ H := ss_cons (wpS_of (ps_ret wpE_pe) (h H (Same.refl H) _ fun p vs H1 np s hp ru => k p vs H1 np s hp ru))
theorem ss_if {k : Bool} {th el : List Stmt} {s1 : Pos} (h : EvT X c σ H k) (h1 : k = true → ∀ H1, Same H H1 → wpSs X th { D with nx := wpSs X rest D } σ H1) (h2 : k = false → ∀ H1, Same H H1 → wpSs X el { D with nx := wpSs X rest D } σ H1) : wpSs X (.If c th el s1 :: rest) D σ H :=
  ss_cons (wpS_of (ps_if wpT_pt wpSs_pss wpSs_pss) (h H (Same.refl H) _ fun H1 s => by
    cases k with
    | true => exact iteT (h1 rfl H1 s)
    | false => exact iteF (h2 rfl H1 s)))
/-- the way of the test is known to be the other one -/
theorem ss_no {th : List Stmt} {s1 : Pos} (h : EvT X c σ H false) (h2 : ∀ H1, Same H H1 → wpSs X rest D σ H1) : wpSs X (.If c th [] s1 :: rest) D σ H := ss_if h (fun z => Bool.noConfusion z) fun _ H1 s => ss_nil (h2 H1 s)
theorem ss_expr {s1 : Pos} (h : wpE X e σ H fun _ H1 => wpSs X rest D σ H1) (hs : swapsWith e none s1.line X.env = pure false := by rfl) : wpSs X (.Expr e s1 :: rest) D σ H := ss_cons (wpS_of (ps_expr wpE_pe hs) h)
theorem ss_exprE {s1 : Pos} (h : Ev X e σ H r x) (k : ∀ H1, Same H H1 → wpSs X rest D σ H1) (hs : swapsWith e none s1.line X.env = pure false := by rfl) : wpSs X (.Expr e s1 :: rest) D σ H := ss_expr (h H (Same.refl H) _ fun _ H1 s _ => k H1 s) hs
/-- a, b = x, y: two local names, two written values -/
theorem ss_par {i j : Nat} {x y : Str} {px py pt pt2 s1 : Pos} {kt k2 : Nat} (h : wpA X [a, b] σ H fun vs H1 => ∃ v w, vs = [v, w] ∧ wpSs X rest D ((σ.set i (some v)).set j (some w)) H1) (hc : X.calm = true) (hN : X.N.Nodup) (hij : i ≠ j) (hi : X.N[i]? = some x := by rfl) (hj : X.N[j]? = some y := by rfl)
    (hx : X.env.scope.names.lookup x = some .local := by rfl) (hy : X.env.scope.names.lookup y = some .local := by rfl) (hw : swappedStores [.Tuple [.Name x px, .Name y py] kt pt] (.Tuple [a, b] k2 pt2) X.env = pure (some [x, y]) := by rfl)
    (hs : swapsWithSole [.Tuple [.Name x px, .Name y py] kt pt] (.Tuple [a, b] k2 pt2) s1.line X.env = pure false := by rfl) :
    wpSs X (.Assign [.Tuple [.Name x px, .Name y py] kt pt] (.Tuple [a, b] k2 pt2) s1 :: rest) D σ H := ss_cons (wpS_of (ps_par hc hN hi hj hij hx hy wpA_pa hw hs) h)
/-- a, b = e, e a pair -/
theorem ss_unpack {r : R α} {r' : R β} {xy : α × β} {i j : Nat} {x y : Str} {px py pt s1 : Pos} {kt : Nat} (h : Ev X e σ H (rPair r r') xy) (k : ∀ v w H1, Same H H1 → r.rel H1 v xy.1 → r'.rel H1 w xy.2 → wpSs X rest D ((σ.set i (some v)).set j (some w)) H1) (hc : X.calm = true) (hN : X.N.Nodup) (hi : X.N[i]? = some x := by rfl) (hj : X.N[j]? = some y := by rfl)
    (hx : Loc X.env.scope x := by first | exact Or.inl rfl | exact Or.inr rfl) (hy : Loc X.env.scope y := by first | exact Or.inl rfl | exact Or.inr rfl) (hs : swapsWithSole [.Tuple [.Name x px, .Name y py] kt pt] e s1.line X.env = pure false := by rfl) (hw : swappedStores [.Tuple [.Name x px, .Name y py] kt pt] e X.env = pure none := by rfl)
    (hf1 : X.fn x = true ∨ X.env.scope.names.lookup x = some .local := by first | exact .inl rfl | exact .inr rfl) (hf2 : X.fn y = true ∨ X.env.scope.names.lookup y = some .local := by first | exact .inl rfl | exact .inr rfl)
    (h1 : (assignEach [.Tuple [.Name x px, .Name y py] kt pt] X.env).map (·.2) = [assign (.Tuple [.Name x px, .Name y py] kt pt) X.env] := by rfl) : wpSs X (.Assign [.Tuple [.Name x px, .Name y py] kt pt] e s1 :: rest) D σ H :=
  ss_cons (wpS_of (ps_asg wpE_pe (pg_tup hc (pgs_cons (pg_name hN hi hx hf1) (pgs_cons (pg_name hN hj hy hf2) pgs_nil))) hs hw h1) (h H (Same.refl H) _ fun v H1 s ⟨T, v1, v2, ev, hT, r1, r2⟩ => ⟨T, [v1, v2], ev, SqT.of hT, rfl, v1, [v2], rfl, v2, [], rfl, rfl, k v1 v2 H1 s r1 r2⟩))
/-- for: P by the turn, the slots and the heap; Hb: what is known and stays, B: that and the iterator's own -/
theorem ss_for {g : TG} {s1 : Pos} {Hb : Hp} (hb : Same Hb H) (hi : EvI X tg iter σ Hb r xs) (hg : PG X tg g) (hc : X.calm = true) (hp : PassesOwn (model X.prog X.w) X.A X.env X.xe)
    (k : ∀ B H2, Same Hb B → Same B H2 → Same H H2 → (∀ a, H a ≠ none → Hb a = none → B a = none) → ∃ P : Nat → L2.St → Hp → Prop, P 0 σ H2 ∧ (∀ i σ' H', P i σ' H' → Same B H' ∧ SameT H2 H') ∧
      (∀ i x v σ' Ha Hc, xs[i]? = some x → P i σ' Ha → Same Ha Hc → r.rel Hc v x → g v σ' Hc fun σ2 H3 => wpSs X body { D with nx := P (i + 1), ct := P (i + 1), bk := wpSs X rest D } σ2 H3) ∧ ∀ σ' H', P xs.length σ' H' → wpSs X rest D σ' H')
    (hs : ∀ x, foldedSetIterable iter X.env x = pure x := by intro _; rfl) : wpSs X (.For tg iter body [] s1 :: rest) D σ H := by
  refine ss_cons (wpS_of (ps_for hp hc wpI_pi hg wpSs_pss hs) ?_)
  refine hi H hb _ fun J B H2 b1 b2 b3 fr wk => ?_
  obtain ⟨P, P0, PS, Pt, Pe⟩ := k B H2 b1 b2 b3 fr
  refine for_it (n := xs.length) (G := fun Ha => Same B Ha ∧ SameT H2 Ha) (Y := fun i Ha v Hb => Same Ha Hb ∧ ∃ x, xs[i]? = some x ∧ r.rel Hb v x)
    ⟨fun i Ha hi g => wk.goes i Ha hi g.1 g.2, fun Ha g => wk.stops Ha g.1 g.2, fun i Ha v Hb hi g y => wk.yields i Ha v Hb hi g.1 g.2 y⟩ P P0 (fun i σ' H' _ p => PS i σ' H' p) ?_ Pe
  rintro i v σ' Ha Hc hlt p ⟨sAB, x, hx, rx⟩
  exact Pt i x v σ' Ha Hc hx p sAB rx
end
end LK
set_option maxHeartbeats 4000000
namespace LK
open PySem PySem.Spec PyProof.Rows L2
section
variable {α β γ ι : Type} {X : Cx} {e a b c tg iter elt : Expr} {es ifs : List Expr} {σ : L2.St} {H H' : Hp} {r : R α} {t : R β} {u : R γ} {x : α} {y : β} {z : γ} {pos p : Pos} {n : Str} {scope : Scope} {st : Stmt} {rest body : List Stmt} {D : Ends} {xs : List α}
/-! ### isinstance -/
/-- what kind of built-in type the values of r have -/
def RTy (r : R α) (x : α) (A : String) : Prop := ∀ (K : PySem.W.Frag) (H : Hp) (v : V), r.rel H v x → TyX K H v (.type A)
theorem rty_str {z : Str} : RTy rStr z "str" := fun K H v h => by rw [show v = _ from h]; exact .base (.str z)
theorem rty_int {z : Int} : RTy rInt z "int" := fun K H v h => by rw [show v = _ from h]; exact .base (.int z)
theorem rty_tup {xs : List α} : RTy (rTup r) xs "tuple" := fun K H v ⟨p, vs, e, h, _⟩ => by
  rw [e]
  rcases h with h | ⟨o, h⟩
  · exact .base (.tup h)
  · exact .fTuple h
theorem rty_pair {x : α × β} : RTy (rPair r t) x "tuple" := fun K H v ⟨p, a, b, e, h, _⟩ => by rw [e]; exact .base (.tup h)
theorem ev_bty {T : String} (hv : bootBuiltins n = some (.type T)) (hm : X.mg n = none) (hg : Gl X n := by rfl) (hn : n ≠ "__name__" := by decide) (hd : (n == ("__debug__" : Str)) = false := by decide) : Ev X (.Name n pos) σ H rVal (.ty T) := fun H1 s Q q =>
  wpE_of (pe_bltn (v := .ty T) hg hm hv rfl hn hd) (q _ H1 (Same.refl _) rfl)
theorem ev_isi {A T : String} {k : Bool} (hm : X.mg "isinstance" = none) (ha : Ev X a σ H r x) (hb : Ev X b σ H rVal (.ty T)) (ty : RTy r x A) (hk : kitB A T = some k) (hg : Gl X "isinstance" := by rfl)
    (he : starEach [a, b] X.env = (false, eval a X.env) :: starEach [b] X.env := by rfl) (he2 : starEach [b] X.env = (false, eval b X.env) :: starEach [] X.env := by rfl) (hpl : (backTo pos (starEach [b] X.env)).any (·.1) = false := by rfl) :
    Ev X (.Call (.Name "isinstance" p) [a, b] [] pos) σ H rBool k := fun H1 s Q q =>
  wpE_of (pe_callB call_isi hg hm (by decide +kernel) (pa_cons wpE_pe (pa_cons wpE_pe pa_nil he2) he) (by decide) (by decide) he hpl) (ha H1 s _ fun v H2 s2 rv => hb H2 (s.trans s2) _ fun w H3 s3 rw => ⟨v, .ty T, .type A, .type T, k, by rw [show w = _ from rw], .ty T, ty X.K H3 v (r.up (Same.T s3) rv), kit_ty hk, q _ H3 (s2.trans s3) rfl⟩)
theorem kb_ss : kitB "str" "str" = some true := by decide +kernel
theorem kb_tt : kitB "tuple" "tuple" = some true := by decide +kernel
theorem kb_ii : kitB "int" "int" = some true := by decide +kernel
theorem kb_ib : kitB "int" "bool" = some false := by decide +kernel
/-! ### a < b < c, of whole numbers -/
theorem et_chain {op op' : CmpOp} {f f' : Int → Int → Bool} {i j k : Int} (ho : OpR X (compareOp op) (rI0 fun i j => .bl (f i j))) (ho' : OpR X (compareOp op') (rI0 fun i j => .bl (f' i j))) (ha : Ev X a σ H rInt i) (hb : Ev X b σ H rInt j) (hc : Ev X c σ H rInt k)
    (hm : lastMarks [op, op'] [b, c] = false := by with_unfolding_all rfl) : EvT X (.Compare a [op, op'] [b, c] pos) σ H (f i j && f' j k) := fun H1 s Q q =>
  wpT_of (pt_chain ho ho' wpE_pe wpE_pe wpE_pe hm) (ha H1 s _ fun v H2 s2 rv => hb H2 (s.trans s2) _ fun w H3 s3 rw => ⟨i, j, rv, rw, f i j, rfl, by
    cases hf : f i j with
    | true => exact iteT (hc H3 ((s.trans s2).trans s3) _ fun w' H4 s4 rw' => ⟨j, k, rw, rw', f' j k, rfl, by rw [hf, Bool.true_and] at q; exact q H4 ((s2.trans s3).trans s4)⟩)
    | false => exact iteF ⟨false, rfl, by rw [hf, Bool.false_and] at q; exact q H3 (s2.trans s3)⟩⟩)
/-! ### a sign in a text -/
theorem ev_inSign {q : Nat} {z : Str} (ha : Ev X a σ H rStr ⟨#[q]⟩) (hb : Ev X b σ H rStr z) (hm : behindInMarks .In b = false := by rfl) : Ev X (.Compare a [.In] [b] pos) σ H rBool (decide (q ∈ z.cps.toList)) := ev_cmp op_in_sign ha hb (fun v w H1 Q s rv rw k => ⟨q, z, rv, rw, k⟩) hm
/-! ### slices -/
theorem sIx_eq {n d k : Nat} (h : k ≤ n) : HT.sIx n d (some (k : Int)) = k := by rw [HT.sIx_nat]; omega
theorem us_take {k : Nat} {H : Hp} : ∀ {vs : List V} {xs : List α}, r.us H vs xs → r.us H (vs.take k) (xs.take k) := by
  intro vs xs h
  induction h generalizing k with
  | nil => simp; exact .nil
  | cons a t ih => cases k with
    | zero => simp; exact .nil
    | succ k => exact .cons a (ih (k := k))
theorem us_drop {k : Nat} {H : Hp} : ∀ {vs : List V} {xs : List α}, r.us H vs xs → r.us H (vs.drop k) (xs.drop k) := by
  intro vs xs h
  induction h generalizing k with
  | nil => simp; exact .nil
  | cons a t ih => cases k with
    | zero => simp; exact .cons a t
    | succ k => exact ih (k := k)
/-- t[:k] -/
theorem ev_takeT {k : Nat} {p2 : Pos} (hk : k ≤ xs.length) (ha : Ev X a σ H (rTup r) xs) (hb : Ev X b σ H rInt (k : Int)) : Ev X (.Subscript a (.Slice none (some b) none p2) pos) σ H (rTup r) (xs.take k) := fun H1 s Q q =>
  wpE_of (pe_slice sl_tupA wpE_pe po_none (po_some wpE_pe)) (ha H1 s _ fun v H2 s2 ⟨p, vs, ev, hp, hu⟩ => hb H2 (s.trans s2) _ fun w H3 s3 rw => ⟨(k : Int), rw, p, vs, ev, .inl ((Same.T s3).rd hp), fun hw => by
      have hl := us_length hu
      have h1 : HT.sIx vs.length vs.length (some (k : Int)) = vs.length := hw.2
      rw [sIx_eq (by omega)] at h1
      exact q _ H3 (s2.trans s3) ⟨p, vs, ev ▸ rfl, (Same.T s3).rd hp, by rw [List.take_of_length_le (by omega)]; exact R.us_up (Same.T s3) hu⟩, fun hw p' hp' => by
      have hl := us_length hu
      have e : cutV vs none (some (k : Int)) = vs.take k := by
        show (vs.drop 0).take (HT.sIx vs.length vs.length (some (k : Int)) - 0) = vs.take k
        rw [sIx_eq (by omega)]; rfl
      refine q _ _ ((s2.trans s3).trans (Same.new hp')) ⟨p', _, rfl, .inl upd_same, ?_⟩
      rw [e]
      exact R.us_up (Same.T (s3.trans (Same.new hp'))) (us_take hu)⟩)
/-- l[k:], l a list at a known place -/
theorem el_dropL {k : Nat} {p2 : Pos} {l : Addr} {vs : List V} (hk : k ≤ xs.length) (ha : Ev X a σ H rVal (.ref l)) (hl : H l = some (.lst vs)) (hu : r.us H vs xs) (hb : Ev X b σ H rInt (k : Int)) : EvL X (.Subscript a (.Slice (some b) none none p2) pos) σ H r (xs.drop k) := fun H1 s Q q =>
  wpE_of (pe_slice sl_list wpE_pe (po_some wpE_pe) po_none) (ha H1 s _ fun v H2 s2 rv => hb H2 (s.trans s2) _ fun w H3 s3 rw => ⟨(k : Int), rw, l, vs, rv, SqL.of (s3 _ _ (s2 _ _ (s _ _ hl))), fun p' hp' => by
      have hle := us_length hu
      have e : cutV vs (some (k : Int)) none = vs.drop k := by
        show (vs.drop (HT.sIx vs.length 0 (some (k : Int)))).take (vs.length - HT.sIx vs.length 0 (some (k : Int))) = vs.drop k
        rw [sIx_eq (by omega)]
        exact List.take_of_length_le (by rw [List.length_drop]; exact Nat.le_refl _)
      refine q _ _ _ (none_of_same (s2.trans s3) hp') ((s2.trans s3).trans (Same.new hp')) upd_same ?_
      rw [e]
      exact R.us_up (Same.T (((s.trans s2).trans s3).trans (Same.new hp'))) (us_drop hu)⟩)
/-- an item of a list at a known place -/
theorem ev_ixL {i : Nat} {l : Addr} {vs : List V} (hi : xs[i]? = some x) (ha : Ev X a σ H rVal (.ref l)) (hl : H l = some (.lst vs)) (hu : r.us H vs xs) (hb : Ev X b σ H rInt (i : Int)) (hs : PlainIx b := by exact fun _ _ => rfl) : Ev X (.Subscript a b pos) σ H r x := fun H1 s Q q =>
  wpE_of (pe_ix ix_list wpE_pe wpE_pe hs) (ha H1 s _ fun v H2 s2 rv => hb H2 (s.trans s2) _ fun w H3 s3 rw => by
    obtain ⟨v', hv', rv'⟩ := us_get' hu hi
    exact ⟨l, vs, (i : Int), v', rv, rw, SqL.of (s3 _ _ (s2 _ _ (s _ _ hl))), atI_nat hv', q v' H3 (s2.trans s3) (r.up (Same.T ((s.trans s2).trans s3)) rv')⟩)
/-- an item of a new list -/
theorem ev_ixN {i : Nat} (hi : xs[i]? = some x) (ha : EvL X a σ H r xs) (hb : Ev X b σ H rInt (i : Int)) (hs : PlainIx b := by exact fun _ _ => rfl) : Ev X (.Subscript a b pos) σ H r x := fun H1 s Q q =>
  wpE_of (pe_ix ix_list wpE_pe wpE_pe hs) (ha H1 s _ fun l vs H2 np s2 hl hu => hb H2 (s.trans s2) _ fun w H3 s3 rw => by
    obtain ⟨v', hv', rv'⟩ := us_get' hu hi
    exact ⟨l, vs, (i : Int), v', rfl, rw, SqL.of (s3 _ _ hl), atI_nat hv', q v' H3 (s2.trans s3) (r.up (Same.T s3) rv')⟩)
/-! ### texts -/
theorem el_split {z w : Str} {ap : Pos} (hw : (w.length == 0) = false) (hz : z.length ≤ 100000) (ha : Ev X a σ H rStr z) (hb : Ev X b σ H rStr w) (hs : starEach [b] X.env = [(false, eval b X.env)] := by rfl) (hbase : attributeBase a "split" X.env (eval a X.env) = eval a X.env := by rfl) (hline : (ap.endLine == pos.line) = true := by rfl) :
    EvL X (.Call (.Attribute a "split" ap) [b] [] pos) σ H rStr (Txt.split z w) := fun H1 s Q q =>
  wpE_of (pe_split wpE_pe wpE_pe hs hbase hline) (ha H1 s _ fun v H2 s2 rv => ⟨⟨z, rv⟩, hb H2 (s.trans s2) _ fun v' H3 s3 rv' => ⟨z, w, rv, by rw [show v' = _ from rv'], hw, Nat.le_trans (Nat.add_le_add_right hz 2) (by decide), fun p np => q p _ _ (none_of_same (s2.trans s3) np) ((s2.trans s3).trans (Same.new np)) upd_same (str_us _)⟩⟩)
theorem ev_joinL {w : Str} {ys : List Str} {ap : Pos} (hz : (ys.map (·.length)).sum + ys.length * w.length ≤ 16777216) (ha : Ev X a σ H rStr w) (hb : EvL X b σ H rStr ys) (hs : starEach [b] X.env = [(false, eval b X.env)] := by rfl) (hbase : attributeBase a "join" X.env (eval a X.env) = eval a X.env := by rfl) (hline : (ap.endLine == pos.line) = true := by rfl) :
    Ev X (.Call (.Attribute a "join" ap) [b] [] pos) σ H rStr (Txt.join w ys) := fun H1 s Q q =>
  wpE_of (pe_join wpE_pe wpE_pe hs hbase hline) (ha H1 s _ fun v H2 s2 rv => ⟨⟨w, rv⟩, hb H2 (s.trans s2) _ fun l vs H3 np s3 hl hu => ⟨w, l, ys, rv, rfl, .inl (by rw [← us_str hu]; exact SqL.of hl), hz, q _ H3 (s2.trans s3) rfl⟩⟩)
theorem ev_strI {i : Int} (hm : X.mg "str" = none) (hi : i.natAbs.log2 < 1920) (ha : Ev X a σ H rInt i) (hg : Gl X "str" := by rfl) (he : starEach [a] X.env = (false, eval a X.env) :: starEach [] X.env := by rfl) (hpl : (backTo pos (starEach [] X.env)).any (·.1) = false := by rfl) :
    Ev X (.Call (.Name "str" p) [a] [] pos) σ H rStr (toString i) := ev_t1 call_str_int (by decide +kernel) hm ha (fun v H1 Q s rv q => ⟨i, by rw [show v = _ from rv], hi, q _ H1 (Same.refl _) rfl⟩) hg (by decide) (by decide) he hpl
theorem ev_intS {i : Int} {z : Str} (hm : X.mg "int" = none) (hi : PySem.intText? z = some i) (hl : z.length ≤ 640) (ha : Ev X a σ H rStr z) (hg : Gl X "int" := by rfl) (he : starEach [a] X.env = (false, eval a X.env) :: starEach [] X.env := by rfl) (hpl : (backTo pos (starEach [] X.env)).any (·.1) = false := by rfl) :
    Ev X (.Call (.Name "int" p) [a] [] pos) σ H rInt i := ev_t1 call_int_str (by decide +kernel) hm ha (fun v H1 Q s rv q => ⟨z, i, by rw [show v = _ from rv], hi, hl, q _ H1 (Same.refl _) rfl⟩) hg (by decide) (by decide) he hpl
theorem ev_intI {i : Int} (hm : X.mg "int" = none) (ha : Ev X a σ H rInt i) (hg : Gl X "int" := by rfl) (he : starEach [a] X.env = (false, eval a X.env) :: starEach [] X.env := by rfl) (hpl : (backTo pos (starEach [] X.env)).any (·.1) = false := by rfl) :
    Ev X (.Call (.Name "int" p) [a] [] pos) σ H rInt i := ev_t1 call_int1 (by decide +kernel) hm ha (fun v H1 Q s rv q => .inl ⟨i, by rw [show v = _ from rv], q _ H1 (Same.refl _) rfl⟩) hg (by decide) (by decide) he hpl
theorem ev_intB {k : Bool} (hm : X.mg "int" = none) (ha : Ev X a σ H rBool k) (hg : Gl X "int" := by rfl) (he : starEach [a] X.env = (false, eval a X.env) :: starEach [] X.env := by rfl) (hpl : (backTo pos (starEach [] X.env)).any (·.1) = false := by rfl) :
    Ev X (.Call (.Name "int" p) [a] [] pos) σ H rInt (if k then 1 else 0) := ev_t1 call_int1 (by decide +kernel) hm ha (fun v H1 Q s rv q => .inr ⟨k, by rw [show v = _ from rv], q _ H1 (Same.refl _) rfl⟩) hg (by decide) (by decide) he hpl
/-! ### while -/
theorem ss_while {s1 : Pos} (hp : PassesOwn (model X.prog X.w) X.A X.env X.xe) (W : Nat → L2.St → Hp → Prop) (m0 : Nat) (h0 : W m0 σ H)
    (k : ∀ m σ' H', W m σ' H' → ∃ q, EvT X c σ' H' q ∧ (q = true → ∀ H1, Same H' H1 → wpSs X body { D with nx := fun σ2 H2 => ∃ m', m' < m ∧ W m' σ2 H2, ct := fun σ2 H2 => ∃ m', m' < m ∧ W m' σ2 H2, bk := wpSs X rest D } σ' H1) ∧ (q = false → ∀ H1, Same H' H1 → wpSs X rest D σ' H1)) :
    wpSs X (.While c body [] s1 :: rest) D σ H := ss_cons (wpS_of (ps_while hp wpT_pt wpSs_pss) ⟨W, ⟨m0, h0⟩, fun m σ' H' w => by
      obtain ⟨q, h1, h2, h3⟩ := k m σ' H' w
      refine h1 H' (Same.refl _) _ fun H1 s => ?_
      cases q with
      | true => exact iteT ⟨_, fun _ _ z => z, h2 rfl H1 s⟩
      | false => exact iteF (h3 rfl H1 s)⟩)
/-! ### equality of data -/
/-- data as the model compares them -/
structure Enc (r : R α) (enc : α → PyData) : Prop where
  dp : ∀ (K : PySem.W.Frag) (H : Hp) (v : V) (x : α), r.rel H v x → Dp K H v (enc x)
theorem enc_str : Enc rStr PyData.str := ⟨fun K H v x h => by rw [show v = _ from h]; exact .str x⟩
theorem enc_bool : Enc rBool PyData.bool := ⟨fun K H v x h => by rw [show v = _ from h]; exact .bl x⟩
theorem enc_all {enc : α → PyData} (h : Enc r enc) {K : PySem.W.Frag} {H : Hp} : ∀ {vs : List V} {xs : List α}, r.us H vs xs → DpAll K H vs (xs.map enc)
  | _, _, .nil => .nil
  | _, _, .cons a t => .cons (h.dp K H _ _ a) (enc_all h t)
theorem enc_tup {enc : α → PyData} (h : Enc r enc) : Enc (rTup r) (fun xs => PyData.tuple (xs.map enc)) := ⟨fun K H v x ⟨p, vs, e, hp, hu⟩ => by rw [e]; exact .tup (.inl hp) (enc_all h hu)⟩
theorem enc_tri {e1 : α → PyData} {e2 : β → PyData} {e3 : γ → PyData} (h1 : Enc r e1) (h2 : Enc t e2) (h3 : Enc u e3) : Enc (rTri r t u) (fun x => PyData.tuple [e1 x.1, e2 x.2.1, e3 x.2.2]) :=
  ⟨fun K H v x ⟨p, a, b, c, e, hp, ha, hb, hc⟩ => by rw [e]; exact .tup (SqT.of hp) (.cons (h1.dp K H _ _ ha) (.cons (h2.dp K H _ _ hb) (.cons (h3.dp K H _ _ hc) .nil)))⟩
theorem et_eqD {ea : α → PyData} {eb : β → PyData} {k : Bool} (hu : X.A.units + 64 < cLine) (h1 : Enc r ea) (h2 : Enc t eb) (ha : Ev X a σ H r x) (hb : Ev X b σ H t y) (s1 : SeqAt.shaped (ea x) = true) (s2 : SeqAt.shaped (eb y) = true) (hk : PyData.eqv (ea x) (eb y) = k) : EvT X (.Compare a [.Eq] [b] pos) σ H k :=
  et_cmp (op_eqD hu) ha hb (fun v w H1 Q s rv rw q => ⟨ea x, eb y, h1.dp _ _ _ _ rv, h2.dp _ _ _ _ rw, s1, s2, by rw [hk]; exact q⟩) (nomark _)
theorem ev_eqD {ea : α → PyData} {eb : β → PyData} {k : Bool} (hu : X.A.units + 64 < cLine) (h1 : Enc r ea) (h2 : Enc t eb) (ha : Ev X a σ H r x) (hb : Ev X b σ H t y) (s1 : SeqAt.shaped (ea x) = true) (s2 : SeqAt.shaped (eb y) = true) (hk : PyData.eqv (ea x) (eb y) = k) : Ev X (.Compare a [.Eq] [b] pos) σ H rBool k :=
  ev_cmp (op_eqD hu) ha hb (fun v w H1 Q s rv rw q => ⟨ea x, eb y, h1.dp _ _ _ _ rv, h2.dp _ _ _ _ rw, s1, s2, by rw [hk]; exact q⟩) (nomark _)
theorem et_neD {ea : α → PyData} {eb : β → PyData} {k : Bool} (hu : X.A.units + 64 < cLine) (h1 : Enc r ea) (h2 : Enc t eb) (ha : Ev X a σ H r x) (hb : Ev X b σ H t y) (s1 : SeqAt.shaped (ea x) = true) (s2 : SeqAt.shaped (eb y) = true) (hk : PyData.eqv (ea x) (eb y) = k) : EvT X (.Compare a [.NotEq] [b] pos) σ H (!k) :=
  et_cmp (op_neD hu) ha hb (fun v w H1 Q s rv rw q => ⟨ea x, eb y, h1.dp _ _ _ _ rv, h2.dp _ _ _ _ rw, s1, s2, by rw [hk]; exact q⟩) (nomark _)
/-- lists: one at a known place or new, the other new -/
theorem ev_eqLL {enc : α → PyData} {ys : List α} {k : Bool} {l : Addr} {vs : List V} (hu : X.A.units + 64 < cLine) (h1 : Enc r enc) (ha : Ev X a σ H rVal (.ref l)) (hl : H l = some (.lst vs)) (hus : r.us H vs xs) (hb : EvL X b σ H r ys) (s1 : SeqAt.shaped (.list (xs.map enc)) = true) (s2 : SeqAt.shaped (.list (ys.map enc)) = true)
    (hk : PyData.eqv (.list (xs.map enc)) (.list (ys.map enc)) = k) : Ev X (.Compare a [.Eq] [b] pos) σ H rBool k := fun H1 s Q q =>
  wpE_of (pe_cmpR (op_eqD hu) wpE_pe wpE_pe (nomark _)) (ha H1 s _ fun v H2 s2' rv => hb H2 (s.trans s2') _ fun l2 ws H3 np s3 hl2 hus2 => ⟨.list (xs.map enc), .list (ys.map enc), by
    rw [show v = _ from rv]; exact .lst (SqL.of (s3 _ _ (s2' _ _ (s _ _ hl)))) (enc_all h1 (R.us_up (Same.T ((s.trans s2').trans s3)) hus)), .lst (SqL.of hl2) (enc_all h1 hus2), s1, s2, by rw [hk]; exact q _ H3 (s2'.trans s3) rfl⟩)
theorem et_eqLL {enc : α → PyData} {ys : List α} {k : Bool} {l : Addr} {vs : List V} (hu : X.A.units + 64 < cLine) (h1 : Enc r enc) (ha : Ev X a σ H rVal (.ref l)) (hl : H l = some (.lst vs)) (hus : r.us H vs xs) (hb : EvL X b σ H r ys) (s1 : SeqAt.shaped (.list (xs.map enc)) = true) (s2 : SeqAt.shaped (.list (ys.map enc)) = true)
    (hk : PyData.eqv (.list (xs.map enc)) (.list (ys.map enc)) = k) : EvT X (.Compare a [.Eq] [b] pos) σ H k := fun H1 s Q q =>
  wpT_of (pt_cmpR (op_eqD hu) wpE_pe wpE_pe (nomark _)) (ha H1 s _ fun v H2 s2' rv => hb H2 (s.trans s2') _ fun l2 ws H3 np s3 hl2 hus2 => ⟨.list (xs.map enc), .list (ys.map enc), by
    rw [show v = _ from rv]; exact .lst (SqL.of (s3 _ _ (s2' _ _ (s _ _ hl)))) (enc_all h1 (R.us_up (Same.T ((s.trans s2').trans s3)) hus)), .lst (SqL.of hl2) (enc_all h1 hus2), s1, s2, k, by rw [hk], q H3 (s2'.trans s3)⟩)
theorem et_eqNN {enc : α → PyData} {ys : List α} {k : Bool} (hu : X.A.units + 64 < cLine) (h1 : Enc r enc) (ha : EvL X a σ H r xs) (hb : EvL X b σ H r ys) (s1 : SeqAt.shaped (.list (xs.map enc)) = true) (s2 : SeqAt.shaped (.list (ys.map enc)) = true)
    (hk : PyData.eqv (.list (xs.map enc)) (.list (ys.map enc)) = k) : EvT X (.Compare a [.Eq] [b] pos) σ H k := fun H1 s Q q =>
  wpT_of (pt_cmpR (op_eqD hu) wpE_pe wpE_pe (nomark _)) (ha H1 s _ fun l1 vs H2 np1 s2' hl hus => hb H2 (s.trans s2') _ fun l2 ws H3 np s3 hl2 hus2 => ⟨.list (xs.map enc), .list (ys.map enc), 
    .lst (SqL.of (s3 _ _ hl)) (enc_all h1 (R.us_up (Same.T s3) hus)), .lst (SqL.of hl2) (enc_all h1 hus2), s1, s2, k, by rw [hk], q H3 (s2'.trans s3)⟩)
theorem et_neNN {enc : α → PyData} {ys : List α} {k : Bool} (hu : X.A.units + 64 < cLine) (h1 : Enc r enc) (ha : EvL X a σ H r xs) (hb : EvL X b σ H r ys) (s1 : SeqAt.shaped (.list (xs.map enc)) = true) (s2 : SeqAt.shaped (.list (ys.map enc)) = true)
    (hk : PyData.eqv (.list (xs.map enc)) (.list (ys.map enc)) = k) : EvT X (.Compare a [.NotEq] [b] pos) σ H (!k) := fun H1 s Q q =>
  wpT_of (pt_cmpR (op_neD hu) wpE_pe wpE_pe (nomark _)) (ha H1 s _ fun l1 vs H2 np1 s2' hl hus => hb H2 (s.trans s2') _ fun l2 ws H3 np s3 hl2 hus2 => ⟨.list (xs.map enc), .list (ys.map enc), 
    .lst (SqL.of (s3 _ _ hl)) (enc_all h1 (R.us_up (Same.T s3) hus)), .lst (SqL.of hl2) (enc_all h1 hus2), s1, s2, !k, by rw [hk], q H3 (s2'.trans s3)⟩)
end
end LK
set_option maxHeartbeats 4000000
namespace LK
open PySem PySem.Spec PyProof.Rows L2
section
variable {α β γ ι : Type} {X : Cx} {e a b c tg iter elt : Expr} {es ifs : List Expr} {σ : L2.St} {H H' : Hp} {r : R α} {t : R β} {u : R γ} {x : α} {y : β} {z : γ} {pos p : Pos} {n : Str} {scope : Scope} {st : Stmt} {rest body : List Stmt} {D : Ends} {xs : List α}
/-! ### t.index(z), t a tuple whose object is known -/
theorem pe_tupIndex {o e : Expr} {apos cpos : Pos} {to te : TE} (ho : PE X o to) (he : PE X e te)
    (hbase : attributeBase o "index" X.env (eval o X.env) = eval o X.env := by rfl)
    (hfew : ((backTo cpos (starEach [e] X.env)).all (fun x => !x.1) && (backToKw cpos (keywordEach [] X.env)).all (fun x => x.1.isSome)
      && decide (([e] : List Expr).length + ([] : List Keyword).length + (if ([] : List Keyword).isEmpty then 0 else 1) < 30)) = true := by rfl)
    (hline : (apos.endLine == cpos.line) = true := by rfl) (hs : starEach [e] X.env = (false, eval e X.env) :: starEach [] X.env := by rfl) (hplain : (backTo cpos (starEach [] X.env)).any (·.1) = false := by rfl) :
    PE X (.Call (.Attribute o "index" apos) [e] [] cpos) (fun σ H Q => to σ H fun x H1 => ∃ (p : Addr) (ys : List Str) (ob : Obj), x = .ref p ∧ H1 p = some (.frz ob (.tup (ys.map V.str))) ∧ ob.dict = none ∧ te σ H1 fun y H2 => ∃ (z : Str) (j : Nat), y = .str z ∧ ys[j]? = some z ∧ (∀ m, m < j → ys[m]? ≠ some z) ∧ H2 p = some (.frz ob (.tup (ys.map V.str))) ∧ Q (.int (j : Nat)) H2) := by
  refine ⟨fun pins s σ H Q I h => ?_⟩
  refine wpAny_Call_method_late hbase hfew hline rfl (thn (ho.run pins s σ H _ I h) fun v s1 ⟨x, H1, I1, r1, p, ys, ob, ex, hp, hd, q1⟩ => ?_)
  subst ex
  obtain rfl : v = Value.ref p := r1
  obtain ⟨hob, _, its, _, o', ho', hc', _⟩ := I1.hok p _ hp
  have e1 : o' = ob := by rw [hob] at ho'; exact (Option.some.inj ho').symm
  subst e1
  refine ⟨"tuple", "tuple.index", PySem.F.plainAttrs_tuple, PySem.F.slot_tuple_index, PySem.F.type_tuple_index, ⟨o', hob, hc'⟩, fun a' e' => by cases e'; exact ⟨o', hob, hd⟩, ?_⟩
  have hA := (pa_cons he pa_nil hs).run cpos pins s1 σ H1 (fun vs H2 => match vs with
    | [y] => ∃ (z : Str) (j : Nat), y = V.str z ∧ ys[j]? = some z ∧ (∀ m, m < j → ys[m]? ≠ some z) ∧ H2 p = some (.frz o' (.tup (ys.map V.str))) ∧ Q (.int (j : Nat)) H2
    | _ => False) I1 q1
  rw [hs] at hA ⊢
  refine Calls.callWith_builtin (by show (false || (backTo cpos (starEach [] X.env)).any (·.1)) = false; rw [hplain] <;> rfl) (Calls.evalArgs_plain ?_)
  refine thn hA fun us s2 ⟨vs, H2, I2, r2, q2⟩ => ?_
  match vs, r2, q2 with
  | [y], r2, ⟨z, j, ey, h1, h2, h3, q2⟩ => exact mt_tup_index pins s2 σ H2 (.ref p) _ (.ref p) us Q I2 rfl r2 ⟨p, ys, z, j, rfl, by rw [ey], .inl (.inr ⟨_, h3⟩), h1, h2, q2⟩
theorem ev_index {ys : List Str} {z : Str} {j : Nat} {ap : Pos} (h1 : ys[j]? = some z) (h2 : ∀ m, m < j → ys[m]? ≠ some z) (ha : Ev X a σ H (rTupN rStr) ys) (hb : Ev X b σ H rStr z)
    (hbase : attributeBase a "index" X.env (eval a X.env) = eval a X.env := by rfl)
    (hfew : ((backTo pos (starEach [b] X.env)).all (fun x => !x.1) && (backToKw pos (keywordEach [] X.env)).all (fun x => x.1.isSome)
      && decide (([b] : List Expr).length + ([] : List Keyword).length + (if ([] : List Keyword).isEmpty then 0 else 1) < 30)) = true := by rfl)
    (hline : (ap.endLine == pos.line) = true := by rfl) (hs : starEach [b] X.env = (false, eval b X.env) :: starEach [] X.env := by rfl) (hplain : (backTo pos (starEach [] X.env)).any (·.1) = false := by rfl) :
    Ev X (.Call (.Attribute a "index" ap) [b] [] pos) σ H rNat j := fun H1 s Q q =>
  wpE_of (pe_tupIndex wpE_pe wpE_pe hbase hfew hline hs hplain) (ha H1 s _ fun v H2 s2 ⟨p, vs, o, ev, hp, hd, hu⟩ => ⟨p, ys, o, ev, by rw [← us_str hu]; exact hp, hd, hb H2 (s.trans s2) _ fun w H3 s3 rw' => ⟨z, j, rw', h1, h2, by rw [← us_str hu]; exact s3 _ _ hp, q _ H3 (s2.trans s3) rfl⟩⟩)
/-! ### fields of instances -/
theorem ev_fldS {C : Addr} {r : RS α} {a' dx : Addr} {fs : List (Str × V)} {v : V} (c : Cls X.K C) (nf : NoAttr X.K C n) (ha : EvS X a σ H ⟨fun H v (_ : Unit) => v = .ref a' ∧ H a' = some (.ins C dx fs), fun e h => ⟨h.1, e _ _ h.2⟩⟩ ()) (hl : fs.lookup n = some v) (hv : r.rel H v x)
    (hb : attributeBase a n X.env (eval a X.env) = eval a X.env := by rfl) : EvS X (.Attribute a n pos) σ H r x := fun H1 s Q q =>
  wpE_of (pe_fld wpE_pe hb) (ha H1 s _ fun w H2 s2 ⟨ew, hw⟩ => ⟨a', C, dx, fs, v, ew, hw, c, nf, hl, q v H2 s2 (r.up (s.trans s2) hv)⟩)
/-- a property whose getter hands out a field -/
theorem ev_propS {C p' g : Addr} {r : RS α} {a' dx : Addr} {fs : List (Str × V)} {v : V} {k : Nat} {fd : FuncData} {fl : Str} (c : Cls X.K C) (hp : PropOf X.K C n p' g) (F : FnOk X.prog X.w X.K X.mg X.base CX0 k g fd ["self"] (getSp C fl)) (hb : Binds X.K fd ["self"] []) (hr : Room (k + 1) X.A)
    (ha : EvS X a σ H ⟨fun H v (_ : Unit) => v = .ref a' ∧ H a' = some (.ins C dx fs), fun e h => ⟨h.1, e _ _ h.2⟩⟩ ()) (hl : fs.lookup fl = some v) (hv : r.rel H v x)
    (hab : attributeBase a n X.env (eval a X.env) = eval a X.env := by rfl) : EvS X (.Attribute a n pos) σ H r x := fun H1 s Q q =>
  wpE_of (pe_prop wpE_pe c hp F hr hb .nil pass0 hab) (ha H1 s _ fun w H2 s2 ⟨ew, hw⟩ => ⟨a', dx, fs, ew, hw, a', dx, fs, v, rfl, hw, hl, q v H2 s2 (r.up (s.trans s2) hv)⟩)
end
end LK
set_option maxHeartbeats 4000000
namespace LK
open PySem PySem.Spec PyProof.Rows L2
/-- what the module's names hold: the built-ins untouched, the constants -/
structure Glo (mg : Str → Option Value) : Prop where
  len : mg "len" = none
  sum : mg "sum" = none
  enumerate : mg "enumerate" = none
  all : mg "all" = none
  any : mg "any" = none
  isinstance : mg "isinstance" = none
  tuple : mg "tuple" = none
  int : mg "int" = none
  str : mg "str" = none
  bool : mg "bool" = none
  range : mg "range" = none
  zip : mg "zip" = none
  sorted : mg "sorted" = none
  list : mg "list" = none
  dict : mg "dict" = none
  min : mg "min" = none
  max : mg "max" = none
  abs : mg "abs" = none
  repr : mg "repr" = none
  super : mg "super" = none
  BLANK : ∃ k, mg "BLANK" = some (.str " " k)
  FEED : ∃ k, mg "FEED" = some (.str "\n" k)
  PLUS : ∃ k, mg "PLUS" = some (.str "+" k)
  SIGNS : ∃ k, mg "SIGNS" = some (.str "abcdefghijklmnopqrstuvwxyz" k)
  MOST_SIGNS : ∃ k, mg "MOST_SIGNS" = some (.int 8 k)
  FEWEST_KEEPERS_circles : ∃ k, mg "FEWEST_KEEPERS_circles" = some (.int 2 k)
  MOST_KEEPERS_circles : ∃ k, mg "MOST_KEEPERS_circles" = some (.int 6 k)
  PARTS : ∃ k, mg "PARTS" = some (.str "parts" k)
  KEEPER : ∃ k, mg "KEEPER" = some (.str "keeper" k)
  ONE : ∃ k, mg "ONE" = some (.str "1" k)
  NOUGHT : ∃ k, mg "NOUGHT" = some (.str "0" k)
  MOST_PARTS : ∃ k, mg "MOST_PARTS" = some (.int 4 k)
  FEWEST_KEEPERS_shelves : ∃ k, mg "FEWEST_KEEPERS_shelves" = some (.int 2 k)
  MOST_KEEPERS_shelves : ∃ k, mg "MOST_KEEPERS_shelves" = some (.int 6 k)
  MOST_PIECES : ∃ k, mg "MOST_PIECES" = some (.int 2 k)
  PAIR_shelves : ∃ k, mg "PAIR_shelves" = some (.int 2 k)
  PAIR_answers : ∃ k, mg "PAIR_answers" = some (.int 2 k)
  MOST_LIES : ∃ k, mg "MOST_LIES" = some (.int 3 k)
section
variable {X : Cx} {σ : L2.St} {H : Hp} {pos : Pos} {n : Str}
theorem ev_gI {i : Int} (h : ∃ k, X.mg n = some (.int i k)) (hg : Gl X n := by rfl) (hd : (n == ("__debug__" : Str)) = false := by decide) : Ev X (.Name n pos) σ H rInt i := h.elim fun _ h => ev_glI h hg hd
theorem ev_gS {i : Str} (h : ∃ k, X.mg n = some (.str i k)) (hg : Gl X n := by rfl) (hd : (n == ("__debug__" : Str)) = false := by decide) : Ev X (.Name n pos) σ H rStr i := h.elim fun _ h => ev_glS h hg hd
theorem wpA_ev {ι : Type} {es : List Expr} {A : RA ι} {i : ι} {Q : List V → Hp → Prop} (h : EvA X es σ H A i) (k : ∀ vs H2, Same H H2 → A.rel H2 vs i → Q vs H2) : wpA X es σ H Q := h H (Same.refl H) Q k
theorem wpE_ev {α : Type} {e : Expr} {r : R α} {x : α} {Q : VK} (h : Ev X e σ H r x) (k : ∀ v H2, Same H H2 → r.rel H2 v x → Q v H2) : wpE X e σ H Q := h H (Same.refl H) Q k
theorem wpE_evL {α : Type} {e : Expr} {r : R α} {xs : List α} {Q : VK} (h : EvL X e σ H r xs) (k : ∀ p vs H2, H p = none → Same H H2 → H2 p = some (.lst vs) → r.us H2 vs xs → Q (.ref p) H2) : wpE X e σ H Q := h H (Same.refl H) Q k
end
end LK
set_option maxHeartbeats 4000000
namespace LK
open PySem PySem.Spec PyProof.Rows L2
section
variable {α β γ ι : Type} {X : Cx} {e a b c tg iter elt : Expr} {es ifs : List Expr} {σ : L2.St} {H H' : Hp} {r : R α} {t : R β} {u : R γ} {x : α} {y : β} {z : γ} {pos p : Pos} {n : Str} {scope : Scope} {st : Stmt} {rest body : List Stmt} {D : Ends} {xs : List α}
/-! ### l.append(e), l.extend(e) as statements -/
theorem ss_app {l : Addr} {vs : List V} {ap s1 : Pos} (hl : H l = some (.lst vs)) (hz : vs.length < 100000) (ha : Ev X a σ H rVal (.ref l)) (he : Ev X e σ H r x) (k : ∀ v H1, Same H H1 → r.rel H1 v x → wpSs X rest D σ (upd H1 l (.lst (vs ++ [v]))))
    (hb : attributeBase a "append" X.env (eval a X.env) = eval a X.env := by rfl)
    (hfew : ((backTo pos (starEach [e] X.env)).all (fun x => !x.1) && (backToKw pos (keywordEach [] X.env)).all (fun x => x.1.isSome) && decide (([e] : List Expr).length + ([] : List Keyword).length + (if ([] : List Keyword).isEmpty then 0 else 1) < 30)) = true := by rfl)
    (hline : (ap.endLine == pos.line) = true := by rfl) (hs : starEach [e] X.env = (false, eval e X.env) :: starEach [] X.env := by rfl) (hpl : (backTo pos (starEach [] X.env)).any (·.1) = false := by rfl)
    (hsw : swapsWith (.Call (.Attribute a "append" ap) [e] [] pos) none s1.line X.env = pure false := by rfl) :
    wpSs X (.Expr (.Call (.Attribute a "append" ap) [e] [] pos) s1 :: rest) D σ H :=
  ss_expr (wpE_of (pe_bm PySem.F.plainAttrs_list PySem.F.slot_list_append PySem.F.type_list_append mt_append wpE_pe (pa_cons wpE_pe pa_nil hs) hb hfew hline hs hpl) (ha H (Same.refl H) _ fun v H2 s2 rv => by
    have rv : v = .ref l := rv
    subst rv
    exact ⟨.inl ⟨rfl, _, SqL.of (s2 _ _ hl)⟩, he H2 s2 _ fun w H3 s3 rw => ⟨l, vs, w, rfl, rfl, s3 _ _ (s2 _ _ hl), sz_lt hz, k w H3 (s2.trans s3) rw⟩⟩)) hsw
theorem ss_ext {l : Addr} {vs : List V} {ap s1 : Pos} (hl : H l = some (.lst vs)) (hz : vs.length + xs.length ≤ 100000) (ha : Ev X a σ H rVal (.ref l)) (he : EvL X e σ H r xs) (k : ∀ ws H1, Same H H1 → r.us H1 ws xs → wpSs X rest D σ (upd H1 l (.lst (vs ++ ws))))
    (hb : attributeBase a "extend" X.env (eval a X.env) = eval a X.env := by rfl)
    (hfew : ((backTo pos (starEach [e] X.env)).all (fun x => !x.1) && (backToKw pos (keywordEach [] X.env)).all (fun x => x.1.isSome) && decide (([e] : List Expr).length + ([] : List Keyword).length + (if ([] : List Keyword).isEmpty then 0 else 1) < 30)) = true := by rfl)
    (hline : (ap.endLine == pos.line) = true := by rfl) (hs : starEach [e] X.env = (false, eval e X.env) :: starEach [] X.env := by rfl) (hpl : (backTo pos (starEach [] X.env)).any (·.1) = false := by rfl)
    (hsw : swapsWith (.Call (.Attribute a "extend" ap) [e] [] pos) none s1.line X.env = pure false := by rfl) :
    wpSs X (.Expr (.Call (.Attribute a "extend" ap) [e] [] pos) s1 :: rest) D σ H :=
  ss_expr (wpE_of (pe_bm PySem.F.plainAttrs_list PySem.F.slot_list_extend PySem.F.type_list_extend mt_extend wpE_pe (pa_cons wpE_pe pa_nil hs) hb hfew hline hs hpl) (ha H (Same.refl H) _ fun v H2 s2 rv => by
    have rv : v = .ref l := rv
    subst rv
    exact ⟨.inl ⟨rfl, _, SqL.of (s2 _ _ hl)⟩, he H2 s2 _ fun q ws H3 np s3 hp hu => ⟨l, q, vs, ws, rfl, rfl, s3 _ _ (s2 _ _ hl), hp, by rw [us_length hu]; exact sz_of hz, k ws H3 (s2.trans s3) hu⟩⟩)) hsw
/-! ### tuple(l), len(l) of a list at a known place -/
theorem ev_tupleK {l : Addr} {vs : List V} (hm : X.mg "tuple" = none) (ha : Ev X a σ H rVal (.ref l)) (hl : H l = some (.lst vs)) (hu : r.us H vs xs) (hg : Gl X "tuple" := by rfl) (he : starEach [a] X.env = (false, eval a X.env) :: starEach [] X.env := by rfl) (hpl : (backTo pos (starEach [] X.env)).any (·.1) = false := by rfl) :
    Ev X (.Call (.Name "tuple" p) [a] [] pos) σ H (rTupN r) xs := ev_t1 call_tuple_frz (by decide +kernel) hm ha (fun v H1 Q s rv q => by
      have rv : v = .ref l := rv
      subst rv
      exact ⟨l, vs, rfl, SqL.of (s _ _ hl), fun q' o hq ho => q _ _ (Same.new hq) ⟨q', vs, o, rfl, upd_same, ho, R.us_up (Same.T (s.trans (Same.new hq))) hu⟩⟩) hg (by decide) (by decide) he hpl
theorem Ev.tupN (h : Ev X e σ H (rTupN r) xs) : Ev X e σ H (rTup r) xs := h.to fun _ _ => rTupN_tup
theorem ev_lenK {l : Addr} {vs : List V} (hm : X.mg "len" = none) (ha : Ev X a σ H rVal (.ref l)) (hl : H l = some (.lst vs)) {m : Nat} (hu : vs.length = m) (hg : Gl X "len" := by rfl) (he : starEach [a] X.env = (false, eval a X.env) :: starEach [] X.env := by rfl) (hpl : (backTo pos (starEach [] X.env)).any (·.1) = false := by rfl) :
    Ev X (.Call (.Name "len" p) [a] [] pos) σ H rNat m := ev_b1 call_len_seq PySem.boot_len hm ha (fun v H1 Q s rv q => by
      have rv : v = .ref l := rv
      subst rv
      exact ⟨l, vs, rfl, .inl (SqL.of (s _ _ hl)), q _ H1 (Same.refl _) (by rw [hu]; rfl)⟩) hg (by decide) (by decide) he hpl
theorem el_listK {l : Addr} {vs : List V} (hm : X.mg "list" = none) (ha : Ev X a σ H rVal (.ref l)) (hl : H l = some (.lst vs)) (hu : r.us H vs xs) (hg : Gl X "list" := by rfl) (he : starEach [a] X.env = (false, eval a X.env) :: starEach [] X.env := by rfl) (hpl : (backTo pos (starEach [] X.env)).any (·.1) = false := by rfl) :
    EvL X (.Call (.Name "list" p) [a] [] pos) σ H r xs := fun H1 s Q q =>
  wpE_of (pe_callTy call_list_of hg hm (by decide +kernel) (pa_cons wpE_pe pa_nil he) (by decide) (by decide) he hpl) (ha H1 s _ fun v H2 s2 rv => by
    have rv : v = .ref l := rv
    subst rv
    exact ⟨l, vs, rfl, .inl (SqL.of (s2 _ _ (s _ _ hl))), fun q' hq => q q' vs _ (none_of_same s2 hq) (s2.trans (Same.new hq)) upd_same (R.us_up (Same.T ((s.trans s2).trans (Same.new hq))) hu)⟩)
/-- l[k] of a triple -/
theorem ev_tri0 {x : α × β × γ} (ha : Ev X a σ H (rTri r t u) x) {k : Nat} {q : Pos} : Ev X (.Subscript a (.Constant (.int 0) k q) pos) σ H r x.1 := fun H1 s Q q =>
  wpE_of (pe_ix ix_tup wpE_pe pe_int (fun _ _ => rfl)) (ha H1 s _ fun v H2 s2 ⟨p, v1, v2, v3, ev, hp, h1, h2, h3⟩ => ⟨p, [v1, v2, v3], 0, v1, ev, rfl, SqT.of hp, rfl, q v1 H2 s2 h1⟩)
theorem ev_tri1 {x : α × β × γ} (ha : Ev X a σ H (rTri r t u) x) {k : Nat} {q : Pos} : Ev X (.Subscript a (.Constant (.int 1) k q) pos) σ H t x.2.1 := fun H1 s Q q =>
  wpE_of (pe_ix ix_tup wpE_pe pe_int (fun _ _ => rfl)) (ha H1 s _ fun v H2 s2 ⟨p, v1, v2, v3, ev, hp, h1, h2, h3⟩ => ⟨p, [v1, v2, v3], 1, v2, ev, rfl, SqT.of hp, rfl, q v2 H2 s2 h2⟩)
theorem ev_tri2 {x : α × β × γ} (ha : Ev X a σ H (rTri r t u) x) (hb : Ev X b σ H rInt 2) (hs : PlainIx b := by exact fun _ _ => rfl) : Ev X (.Subscript a b pos) σ H u x.2.2 := fun H1 s Q q =>
  wpE_of (pe_ix ix_tup wpE_pe wpE_pe hs) (ha H1 s _ fun v H2 s2 ⟨p, v1, v2, v3, ev, hp, h1, h2, h3⟩ => hb H2 (s.trans s2) _ fun w H3 s3 rw => ⟨p, [v1, v2, v3], 2, v3, ev, rw, SqT.of (s3 _ _ hp), rfl, q v3 H3 (s2.trans s3) (u.up (Same.T s3) h3)⟩)
/-! ### None in a tuple of data -/
theorem et_noneIn {enc : α → PyData} (hu : X.A.units + 65 < cLine) (h1 : Enc r enc) (hb : Ev X b σ H (rTup r) xs) (hsh : PyData.canLayAll0 (xs.map enc) = true) (hne : ∀ x ∈ xs, PyData.eqv (enc x) .none = false) {j : Nat} {q : Pos} (hm : behindInMarks .In b = false := by rfl) : EvT X (.Compare (.Constant .none j q) [.In] [b] pos) σ H false := by
  have op : OpR X (compareOp .In) (fun x y H Q => ∃ ds, x = .non ∧ Dp X.K H y (.tuple ds) ∧ PyData.canLayAll0 ds = true ∧ Q (.bl (ds.any fun z => PyData.eqv z .none)) H) := by
    intro pins s σ H x y v u Q I rx ry h
    obtain ⟨ds, rfl, he, se, q⟩ := h
    obtain ⟨bs, r2⟩ := Dp.reads I (.tuple ds) y u he ry
    obtain ⟨as, r1⟩ := Dp.reads I .none .non v .non rx
    exact SeqAt.in_tuple_reads r2 r1 (by simpa using se) (by rfl) (room_in_shaped (by decide) hu) ⟨.bl _, H, I, rfl, q⟩
  refine et_cmp op (ev_non) hb (fun v w H1 Q s rv rw q => ⟨xs.map enc, rv, (enc_tup h1).dp _ _ _ _ rw, hsh, ?_⟩) hm
  have : ((xs.map enc).any fun z => PyData.eqv z .none) = false := by
    rw [List.any_eq_false]
    intro d hd
    obtain ⟨x, hx, rfl⟩ := List.mem_map.mp hd
    simp [hne x hx]
  rw [this]
  exact q
end
end LK
set_option maxHeartbeats 4000000
namespace LK
open PySem PySem.Spec PyProof.Rows L2
section
variable {α β γ ι : Type} {X : Cx} {e a b c tg iter elt : Expr} {es ifs : List Expr} {σ : L2.St} {H H' : Hp} {r : R α} {t : R β} {u : R γ} {x : α} {y : β} {z : γ} {pos p : Pos} {n : Str} {scope : Scope} {st : Stmt} {rest body : List Stmt} {D : Ends} {xs : List α}
/-- for y in iter -/
theorem ss_for1 {nm : Str} {py s1 : Pos} {j : Nat} {Hb : Hp} (hb : Same Hb H) (hi : EvI X (.Name nm py) iter σ Hb r xs) (hc : X.calm = true) (hp : PassesOwn (model X.prog X.w) X.A X.env X.xe) (hN : X.N.Nodup)
    (k : ∀ B H2, Same Hb B → Same B H2 → Same H H2 → (∀ a, H a ≠ none → Hb a = none → B a = none) → ∃ P : Nat → L2.St → Hp → Prop, P 0 σ H2 ∧ (∀ i σ' H', P i σ' H' → Same B H' ∧ SameT H2 H') ∧
      (∀ i x v σ' Ha Hc, xs[i]? = some x → P i σ' Ha → Same Ha Hc → r.rel Hc v x → wpSs X body { D with nx := P (i + 1), ct := P (i + 1), bk := wpSs X rest D } (σ'.set j (some v)) Hc) ∧ ∀ σ' H', P xs.length σ' H' → wpSs X rest D σ' H')
    (hj : X.N[j]? = some nm := by rfl) (hx : Loc X.env.scope nm := by first | exact Or.inl rfl | exact Or.inr rfl) (hf : X.fn nm = true ∨ X.env.scope.names.lookup nm = some .local := by first | exact .inl rfl | exact .inr rfl)
    (hs : ∀ x, foldedSetIterable iter X.env x = pure x := by intro _; rfl) : wpSs X (.For (.Name nm py) iter body [] s1 :: rest) D σ H :=
  ss_for hb hi (pg_name hN hj hx hf) hc hp (fun B H2 b1 b2 b3 fr => by
    obtain ⟨P, p0, p1, p2, p3⟩ := k B H2 b1 b2 b3 fr
    exact ⟨P, p0, p1, fun i x v σ' Ha Hc hx hP sA rx => p2 i x v σ' Ha Hc hx hP sA rx, p3⟩) hs
/-- for y1, y2 in iter -/
theorem ss_for2 {r : R α} {r' : R β} {xs : List (α × β)} {n1 n2 : Str} {p1 p2 pt s1 : Pos} {kk j1 j2 : Nat} {Hb : Hp} (hb : Same Hb H) (hi : EvI X (.Tuple [.Name n1 p1, .Name n2 p2] kk pt) iter σ Hb (rPair r r') xs) (hc : X.calm = true) (hp : PassesOwn (model X.prog X.w) X.A X.env X.xe) (hN : X.N.Nodup)
    (k : ∀ B H2, Same Hb B → Same B H2 → Same H H2 → (∀ a, H a ≠ none → Hb a = none → B a = none) → ∃ P : Nat → L2.St → Hp → Prop, P 0 σ H2 ∧ (∀ i σ' H', P i σ' H' → Same B H' ∧ SameT H2 H') ∧
      (∀ i x v w σ' Ha Hc, xs[i]? = some x → P i σ' Ha → Same Ha Hc → r.rel Hc v x.1 → r'.rel Hc w x.2 → wpSs X body { D with nx := P (i + 1), ct := P (i + 1), bk := wpSs X rest D } ((σ'.set j1 (some v)).set j2 (some w)) Hc) ∧ ∀ σ' H', P xs.length σ' H' → wpSs X rest D σ' H')
    (hj : X.N[j1]? = some n1 := by rfl) (hx : Loc X.env.scope n1 := by first | exact Or.inl rfl | exact Or.inr rfl) (hf : X.fn n1 = true ∨ X.env.scope.names.lookup n1 = some .local := by first | exact .inl rfl | exact .inr rfl)
    (hj2 : X.N[j2]? = some n2 := by rfl) (hx2 : Loc X.env.scope n2 := by first | exact Or.inl rfl | exact Or.inr rfl) (hf2 : X.fn n2 = true ∨ X.env.scope.names.lookup n2 = some .local := by first | exact .inl rfl | exact .inr rfl)
    (hs : ∀ x, foldedSetIterable iter X.env x = pure x := by intro _; rfl) : wpSs X (.For (.Tuple [.Name n1 p1, .Name n2 p2] kk pt) iter body [] s1 :: rest) D σ H :=
  ss_for hb hi (pg_tup hc (pgs_cons (pg_name hN hj hx hf) (pgs_cons (pg_name hN hj2 hx2 hf2) pgs_nil))) hc hp (fun B H2 b1 b2 b3 fr => by
    obtain ⟨P, p0, p1, p2, p3⟩ := k B H2 b1 b2 b3 fr
    refine ⟨P, p0, p1, fun i x v σ' Ha Hc hx hP sA rx => ?_, p3⟩
    obtain ⟨T, v1, v2, ev, hT, h1, h2⟩ := rx
    exact ⟨T, [v1, v2], ev, SqT.of hT, rfl, v1, [v2], rfl, v2, [], rfl, rfl, p2 i x v1 v2 σ' Ha Hc hx hP sA h1 h2⟩) hs
/-- self.f = e -/
theorem ss_fldW {s1 p' : Pos} {f : Str} {l C dx : Addr} {fs : List (Str × V)} (c : Cls X.K C) (nf : NoAttr X.K C f) (hfs : fs.length < 1000) (h : wpE X e σ H fun y H1 => wpE X a σ H1 fun x H2 => x = .ref l ∧ H2 l = some (.ins C dx fs) ∧ wpSs X rest D σ (upd H2 l (.ins C dx (putF f y fs))))
    (hs : swapsWith e (some (.Attribute a f p')) s1.line X.env = pure false := by rfl) : wpSs X (.Assign [.Attribute a f p'] e s1 :: rest) D σ H :=
  ss_cons (wpS_of (ps_fld wpE_pe wpE_pe hs) (wpE_mono h fun y H1 z => wpE_mono z fun x H2 ⟨e1, e2, e3⟩ => ⟨l, C, dx, fs, e1, e2, c, nf, hfs, e3⟩))
theorem ss_fldE {s1 p' : Pos} {f : Str} {l C dx : Addr} {fs : List (Str × V)} (c : Cls X.K C) (nf : NoAttr X.K C f) (hfs : fs.length < 1000) (hl : H l = some (.ins C dx fs)) (he : Ev X e σ H r x) (ha : Ev X a σ H rVal (.ref l)) (k : ∀ v H1, Same H H1 → r.rel H1 v x → wpSs X rest D σ (upd H1 l (.ins C dx (putF f v fs))))
    (hs : swapsWith e (some (.Attribute a f p')) s1.line X.env = pure false := by rfl) : wpSs X (.Assign [.Attribute a f p'] e s1 :: rest) D σ H :=
  ss_fldW c nf hfs (he H (Same.refl H) _ fun y H1 s rv => ha H1 s _ fun v H2 s2 rw => ⟨rw, s2 _ _ (s _ _ hl), k y H2 (s.trans s2) (r.up (Same.T s2) rv)⟩) hs
theorem ss_fldS {r : RS α} {s1 p' : Pos} {f : Str} {l C dx : Addr} {fs : List (Str × V)} (c : Cls X.K C) (nf : NoAttr X.K C f) (hfs : fs.length < 1000) (hl : H l = some (.ins C dx fs)) (he : EvS X e σ H r x) (ha : Ev X a σ H rVal (.ref l)) (k : ∀ v H1, Same H H1 → r.rel H1 v x → wpSs X rest D σ (upd H1 l (.ins C dx (putF f v fs))))
    (hs : swapsWith e (some (.Attribute a f p')) s1.line X.env = pure false := by rfl) : wpSs X (.Assign [.Attribute a f p'] e s1 :: rest) D σ H :=
  ss_fldW c nf hfs (he H (Same.refl H) _ fun y H1 s rv => ha H1 s _ fun v H2 s2 rw => ⟨rw, s2 _ _ (s _ _ hl), k y H2 (s.trans s2) (r.up s2 rv)⟩) hs
/-- x, y = a, b: two new lists -/
theorem ss_parLL {ys : List β} {i j : Nat} {x y : Str} {px py pt pt2 s1 : Pos} {kt k2 : Nat} (ha : EvL X a σ H r xs) (hb : EvL X b σ H t ys) (k : ∀ p q vs ws H1, H p = none → H q = none → p ≠ q → Same H H1 → H1 p = some (.lst vs) → H1 q = some (.lst ws) → r.us H1 vs xs → t.us H1 ws ys → wpSs X rest D ((σ.set i (some (.ref p))).set j (some (.ref q))) H1)
    (hc : X.calm = true) (hN : X.N.Nodup) (hij : i ≠ j) (hi : X.N[i]? = some x := by rfl) (hj : X.N[j]? = some y := by rfl)
    (hx : X.env.scope.names.lookup x = some .local := by rfl) (hy : X.env.scope.names.lookup y = some .local := by rfl) (hw : swappedStores [.Tuple [.Name x px, .Name y py] kt pt] (.Tuple [a, b] k2 pt2) X.env = pure (some [x, y]) := by rfl)
    (hs : swapsWithSole [.Tuple [.Name x px, .Name y py] kt pt] (.Tuple [a, b] k2 pt2) s1.line X.env = pure false := by rfl)
    (he : starEach [a, b] X.env = (false, eval a X.env) :: starEach [b] X.env := by rfl) (he2 : starEach [b] X.env = (false, eval b X.env) :: starEach [] X.env := by rfl) :
    wpSs X (.Assign [.Tuple [.Name x px, .Name y py] kt pt] (.Tuple [a, b] k2 pt2) s1 :: rest) D σ H :=
  ss_par (wpA_of (pa_cons wpE_pe (pa_cons wpE_pe pa_nil he2) he) (ha H (Same.refl H) _ fun p vs H1 np s1 hp hu => hb H1 s1 _ fun q ws H2 nq s2 hq hu2 => ⟨.ref p, .ref q, rfl, k p q vs ws H2 np (none_of_same s1 nq) (fun e => by rw [e, nq] at hp; cases hp) (s1.trans s2) (s2 _ _ hp) hq (R.us_up (Same.T s2) hu) hu2⟩)) hc hN hij hi hj hx hy hw hs
/-- heap without a place -/
def wo (H : Hp) (a : Addr) : Hp := fun b => if b = a then none else H b
theorem wo_same (H : Hp) (a : Addr) : Same (wo H a) H := fun b o h => by
  unfold wo at h
  by_cases e : b = a
  · simp [e] at h
  · simpa [e] using h
theorem wo_at (H : Hp) (a : Addr) : wo H a a = none := by unfold wo; simp
theorem wo_ne {H : Hp} {a b : Addr} (h : b ≠ a) : wo H a b = H b := by unfold wo; simp [h]
end
end LK
set_option maxHeartbeats 4000000
namespace LK
open PySem PySem.Spec PyProof.Rows L2
section
variable {α β γ ι : Type} {X : Cx} {e a b c tg iter elt : Expr} {es ifs : List Expr} {σ : L2.St} {H H' : Hp} {r : R α} {t : R β} {u : R γ} {x : α} {y : β} {z : γ} {pos p : Pos} {n : Str} {scope : Scope} {st : Stmt} {rest body : List Stmt} {D : Ends} {xs : List α}
/-! ### list(e.values()) -/
def tListVals (te : TE) : TE := fun σ H Q => te σ H fun x H1 => ∃ d kvs, x = .ref d ∧ H1 d = some (.dK kvs) ∧ ∀ q, H1 q = none → Q (.ref q) (upd H1 q (.lst (kvs.map Prod.snd)))
theorem vals_of_items {kvs : List (Key × V)} {vs : List (Key × Value)} {es : Array DictEntry} {acc : Array Value} (kv : KV kvs vs) (hl : es.size = vs.length) (hv : ∀ i (hi : i < es.size) k v, vs[i]? = some (k, v) → es[i].val = v)
    (ha : ItemsOf (fun i v => ∃ hi : i < es.size, v = es[i].val) acc es.size) : Vals (kvs.map Prod.snd) acc.toList := by
  have e : acc.toList = vs.map Prod.snd := by
    apply List.ext_getElem
    · simp [ha.1, hl]
    · intro i h1 h2
      have h3 : i < acc.size := by simpa using h1
      have h4 : i < vs.length := by simpa using h2
      obtain ⟨hi, q⟩ := ha.2 i acc[i] (Array.getElem?_eq_getElem h3)
      have := hv i hi vs[i].1 vs[i].2 (List.getElem?_eq_getElem h4)
      simp only [Array.getElem_toList, List.getElem_map, q, this]
  rw [e]
  clear e ha hv hl
  induction kv with
  | nil => exact .nil
  | cons a b ih => exact .cons a.2 ih
theorem pe_listValues {apos cpos : Pos} {te : TE} (hc : X.calm = true) (he : PE X e te) (hg : Gl X "list") (hm : X.mg "list" = none) (hv : bootBuiltins "list" = some (.type "list")) (hbase : attributeBase e "values" X.env (eval e X.env) = eval e X.env := by rfl) (hline : (apos.endLine == cpos.line) = true := by rfl)
    (hs : starEach [.Call (.Attribute e "values" apos) [] [] cpos] X.env = (false, eval (.Call (.Attribute e "values" apos) [] [] cpos) X.env) :: starEach [] X.env := by rfl) :
    PE X (.Call (.Name "list" p) [.Call (.Attribute e "values" apos) [] [] cpos] [] pos) (tListVals te) := by
  refine ⟨fun pins s σ H Q I hq => ?_⟩
  refine wpAny_Call_Name_kw (ld_blt I hg hm hv ?_)
  refine PyProof.Rows.callWith_type1 ?_ hs rfl
  rw [hs]
  show wpAny _ _ (spliced ((false, eval (.Call (.Attribute e "values" apos) [] [] cpos) X.env) :: backTo pos (starEach [] X.env))) _ _ s
  refine Calls.spliced_cons ?_
  refine wpAny_Call_method (T := "dict") (id := "dict.values") hbase rfl hline F.plainAttrs_dict F.slot_dict_values F.type_dict_values (thn (he.run pins s σ H _ I hq) fun u s1 ⟨x, H1, I1, rx, d, kvs, ex, hd, q⟩ => ?_)
  subst ex
  obtain rfl : u = Value.ref d := rx
  obtain ⟨hz, hs0, vs, kv, hdo⟩ := I1.hok d _ hd
  obtain ⟨es, ep, hr, hsz, hent⟩ := hdo.raw
  have lk : kvs.length = vs.length := Paired.length kv
  have I2 : Inv X pins σ H1 { s1 with heap := s1.heap.push { cls := .type "dict_values", data := .fields #[.ref d] } } := I1.kept (t' := s1.toks) fun b ob q => Heap.get?_push_of_some _ q
  refine ⟨hdo.typeIs, hdo.mapOf.noDict, ?_⟩
  show wpAny _ _ (callWith cpos (.builtin "dict.values") [.ref d] [] []) _ X.xe s1
  refine method_meetsIn F.slot_dict_values F.entry_dict_values rfl (PySem.evalArgs_none ⟨rfl, hdo.typeIs, F.args_dict_values_1 _, _, meets_dict_values (mixKind X.prog X.w) d hs0, ⟨vs, hdo⟩, ?_⟩)
  refine Calls.spliced_nil ?_
  refine PySem.W.kdl_call (PySem.KdlSrc.rawValues (d := d) (es := es) (ep := ep)) (I1.ok.hd hc) ⟨⟨_, Heap.get?_push_size _ rfl, rfl, rfl⟩, hr.push _⟩ (by rw [hsz, ← lk]; exact hz) fun h' tk acc cc hk hS hit => ?_
  have hv2 : Vals (kvs.map Prod.snd) acc.toList := vals_of_items kv hsz (fun i hi k v e => (hent i hi k v e).2) hit
  have hL : s1.heap.objs.size ≤ (s1.heap.push { cls := .type "dict_values", data := .fields #[.ref d] }).objs.size := by rw [Heap.size_push]; omega
  have hnone : H1 (s1.heap.push { cls := .type "dict_values", data := .fields #[.ref d] }).objs.size = none := I1.hok.fresh hL
  exact ⟨.ref _, upd H1 (s1.heap.push { cls := .type "dict_values", data := .fields #[.ref d] }).objs.size (.lst (kvs.map Prod.snd)),
    I2.laid (t' := tk) hk (Nat.le_refl _) (show ObjOk X.prog X.w _ _ _ (.lst (kvs.map Prod.snd)) from ⟨by rw [List.length_map]; exact hz, acc.toList, cc, hv2, by simpa using hS⟩), rfl, q _ hnone⟩
/-! ### dicts with texts as keys -/
def kvOf (f : α → V) (xs : List (Str × α)) : List (Key × V) := xs.map fun x => (.inr x.1, f x.2)
/-- a dict, its values told by r -/
def rDct (r : R α) : R (List (Str × α)) := ⟨fun H v xs => ∃ p kvs, v = .ref p ∧ H p = some (.dK kvs) ∧ Paired (fun (kv : Key × V) (x : Str × α) => kv.1 = .inr x.1 ∧ r.rel H kv.2 x.2) kvs xs,
  fun {H H' v xs} e ⟨p, kvs, a, b, c⟩ => ⟨p, kvs, a, e _ _ b trivial, c.mono fun _ _ h => ⟨h.1, r.up e h.2⟩⟩⟩
theorem valV_dct {H : Hp} : ∀ {kvs : List (Key × V)} {xs : List (Str × α)}, Paired (fun (kv : Key × V) (x : Str × α) => kv.1 = .inr x.1 ∧ r.rel H kv.2 x.2) kvs xs → ∀ {k : Str} {y : α}, xs.lookup k = some y → ∃ v, valV kvs (.inr k) = some v ∧ r.rel H v y
  | _, _, .nil, _, _, h => by simp at h
  | _, _, .cons (a := kv) (b := x) h tl, k, y, hy => by
    by_cases hk : k = x.1
    · subst hk
      rw [List.lookup_cons_self] at hy
      cases hy
      exact ⟨kv.2, valV_pos h.1, h.2⟩
    · rw [List.lookup_cons, show (k == x.1) = false from by simpa using hk] at hy
      obtain ⟨v, h1, h2⟩ := valV_dct tl hy
      exact ⟨v, by rw [valV_neg (by rw [h.1]; exact fun z => hk (Sum.inr.inj z).symm)]; exact h1, h2⟩
theorem valV_none {H : Hp} : ∀ {kvs : List (Key × V)} {xs : List (Str × α)}, Paired (fun (kv : Key × V) (x : Str × α) => kv.1 = .inr x.1 ∧ r.rel H kv.2 x.2) kvs xs → ∀ {k : Str}, k ∉ xs.map (·.1) → valV kvs (.inr k) = none
  | _, _, .nil, _, _ => rfl
  | _, _, .cons (a := kv) (b := x) h tl, k, hk => by
    simp only [List.map_cons, List.mem_cons, not_or] at hk
    rw [valV_neg (by rw [h.1]; exact fun z => hk.1 (Sum.inr.inj z).symm)]
    exact valV_none tl hk.2
theorem mergeK_nd : ∀ (kvs acc : List (Key × V)), ((acc ++ kvs).map (·.1)).Nodup → mergeK acc kvs = acc ++ kvs
  | [], acc, _ => by simp [mergeK]
  | kv :: kvs, acc, nd => by
    have hn : valV acc kv.1 = none := by
      have h1 := valV_any kv.1 acc
      cases hv : valV acc kv.1 with
      | none => rfl
      | some v =>
        rw [hv] at h1
        simp only [Option.isSome_some, List.any_eq_true, decide_eq_true_eq] at h1
        obtain ⟨q, hq, e⟩ := h1
        rw [List.map_append, List.map_cons] at nd
        exact absurd e ((List.nodup_append.mp nd).2.2 _ (List.mem_map.mpr ⟨q, hq, rfl⟩) _ List.mem_cons_self)
    have e : mergeK acc (kv :: kvs) = mergeK (putK acc kv.1 kv.2) kvs := rfl
    rw [e, putK_new _ hn, mergeK_nd kvs (acc ++ [kv]) (by simpa using nd)]
    simp
theorem pairs_split {H : Hp} {r : R α} : ∀ {vs : List V} {xs : List (Str × α)}, (rPair rStr r).us H vs xs → ∃ (ps : List Addr) (kvs : List (Key × V)), vs = ps.map V.ref ∧ Paired (fun p kv => H p = some (.tup [kV kv.1, kv.2])) ps kvs ∧ Paired (fun (kv : Key × V) (x : Str × α) => kv.1 = .inr x.1 ∧ r.rel H kv.2 x.2) kvs xs
  | _, _, .nil => ⟨[], [], rfl, .nil, .nil⟩
  | _, _, .cons (b := x) h t => by
    obtain ⟨p, a, b, e, hp, ha, hb⟩ := h
    obtain ⟨ps, kvs, e2, h1, h2⟩ := pairs_split t
    have ha : a = .str x.1 := ha
    subst ha
    exact ⟨p :: ps, (.inr x.1, b) :: kvs, by rw [e, e2]; rfl, .cons hp h1, .cons ⟨rfl, hb⟩ h2⟩
theorem lookup_mem {xs : List (Str × α)} {k : Str} (h : k ∈ xs.map (·.1)) : ∃ y, xs.lookup k = some y := by
  induction xs with
  | nil => simp at h
  | cons z t ih =>
    by_cases hz : k = z.1
    · exact ⟨z.2, by rw [List.lookup_cons, hz]; simp⟩
    · rw [List.map_cons, List.mem_cons] at h
      rcases h with e | h
      · exact absurd e hz
      · obtain ⟨y, hy⟩ := ih h
        exact ⟨y, by rw [List.lookup_cons, show (k == z.1) = false from by simpa using hz]; exact hy⟩
theorem dvals_us {H : Hp} {kvs : List (Key × V)} {xs : List (Str × α)} (h : Paired (fun (kv : Key × V) (x : Str × α) => kv.1 = .inr x.1 ∧ r.rel H kv.2 x.2) kvs xs) : r.us H (kvs.map Prod.snd) (xs.map (·.2)) := by
  induction h with
  | nil => exact .nil
  | cons a t ih => exact .cons a.2 ih
theorem dct_nat {H : Hp} {kvs : List (Key × V)} {xs : List (Str × Nat)} (h : Paired (fun (kv : Key × V) (x : Str × Nat) => kv.1 = .inr x.1 ∧ rNat.rel H kv.2 x.2) kvs xs) : kvs = kvOf (fun n : Nat => V.int n) xs := by
  induction h with
  | nil => rfl
  | cons a t ih =>
    rename_i kv x _ _
    obtain ⟨k, v⟩ := kv
    obtain ⟨a1, a2⟩ := a
    have a2 : v = .int (x.2 : Nat) := a2
    have a1 : k = .inr x.1 := a1
    rw [a1, a2, ih]
    rfl
theorem us_nat {H : Hp} {vs : List V} {xs : List Nat} (h : rNat.us H vs xs) : vs = (xs.map fun n : Nat => (n : Int)).map V.int := by
  induction h with
  | nil => rfl
  | cons a t ih => rw [show _ = _ from a, ih]; rfl
theorem keys_of {H : Hp} {kvs : List (Key × V)} {xs : List (Str × α)} (h : Paired (fun (kv : Key × V) (x : Str × α) => kv.1 = .inr x.1 ∧ r.rel H kv.2 x.2) kvs xs) : kvs.map (·.1) = (xs.map (·.1)).map Sum.inr := by
  induction h with
  | nil => rfl
  | cons a t ih => simp [a.1, ih]
theorem nd_keys {xs : List (Str × α)} (h : (xs.map (·.1)).Nodup) : ((xs.map (·.1)).map (Sum.inr : Str → Key)).Nodup := List.Pairwise.map _ (fun a b (h : a ≠ b) z => h (Sum.inr.inj z)) h
/-- dict(a new list of pairs) -/
theorem ev_dictP {xs : List (Str × α)} (hc : X.calm = true) (hm : X.mg "dict" = none) (nd : (xs.map (·.1)).Nodup) (ha : EvL X a σ H (rPair rStr r) xs) (hg : Gl X "dict" := by rfl) (he : starEach [a] X.env = (false, eval a X.env) :: starEach [] X.env := by rfl) (hpl : (backTo pos (starEach [] X.env)).any (·.1) = false := by rfl) :
    Ev X (.Call (.Name "dict" p) [a] [] pos) σ H (rDct r) xs := ev_t1L (call_dictP hc) (by decide +kernel) hm ha (fun l vs H1 Q s hl hu q => by
      obtain ⟨ps, kvs, rfl, h1, h2⟩ := pairs_split hu
      refine ⟨l, ps, kvs, rfl, SqL.of hl, h1.mono fun _ _ h => SqT.of h, fun d hd => ?_⟩
      have e : mergeK [] kvs = kvs := mergeK_nd kvs [] (by rw [List.nil_append, keys_of h2]; exact nd_keys nd)
      rw [e]
      exact q _ _ (Same.new hd) ⟨d, kvs, rfl, upd_same, h2.mono fun _ _ h => ⟨h.1, r.up (Same.T (Same.new hd)) h.2⟩⟩) hg (by decide) (by decide) he hpl
/-- d[k] -/
theorem ev_dget {xs : List (Str × α)} {k : Str} {y : α} (hu : X.A.units + 1 < cLine) (hk : xs.lookup k = some y) (ha : Ev X a σ H (rDct r) xs) (hb : Ev X b σ H rStr k) (hs : NoSl b := by exact fun _ _ => rfl) : Ev X (.Subscript a b pos) σ H r y := fun H1 s Q q =>
  wpE_of (pe_dget hu wpE_pe wpE_pe hs) (ha H1 s _ fun v H2 s2 ⟨d, kvs, ev, hd, hp⟩ => hb H2 (s.trans s2) _ fun w H3 s3 rw' => by
    obtain ⟨v', h1, h2⟩ := valV_dct hp hk
    have rw' : w = .str k := rw'
    subst rw'
    exact ⟨d, v', ev, by rw [← h1]; exact DGet.k (k := .inr k) (s3 _ _ hd), q v' H3 (s2.trans s3) (r.up (Same.T s3) h2)⟩)
/-- k in d -/
theorem et_inD {xs : List (Str × α)} {k : Str} (hu : X.A.units + 1 < cLine) (ha : Ev X a σ H rStr k) (hb : Ev X b σ H (rDct r) xs) (hm : behindInMarks .In b = false := by rfl) : EvT X (.Compare a [.In] [b] pos) σ H (decide (k ∈ xs.map (·.1))) := fun H1 s Q q =>
  wpT_of (pt_cmp (pc_din hu wpE_pe wpE_pe) hm) (ha H1 s _ fun v H2 s2 rv => hb H2 (s.trans s2) _ fun w H3 s3 ⟨d, kvs, ew, hd, hp⟩ => by
    have rv : v = .str k := rv
    subst rv
    refine ⟨d, valV kvs (.inr k), ew, DGet.k (k := .inr k) hd, _, rfl, ?_⟩
    have : (valV kvs (.inr k)).isSome = decide (k ∈ xs.map (·.1)) := by
      by_cases h : k ∈ xs.map (·.1)
      · have : ∃ y, xs.lookup k = some y := lookup_mem h
        obtain ⟨y, hy⟩ := this
        obtain ⟨v, h1, _⟩ := valV_dct hp hy
        rw [h1]; simp [h]
      · rw [valV_none hp h]; simp [h]
    rw [this]
    exact q H3 (s2.trans s3))
/-- list(d.values()) -/
theorem el_dvals {xs : List (Str × α)} {apos cpos : Pos} (hc : X.calm = true) (hm : X.mg "list" = none) (ha : Ev X a σ H (rDct r) xs) (hg : Gl X "list" := by rfl) (hbase : attributeBase a "values" X.env (eval a X.env) = eval a X.env := by rfl) (hline : (apos.endLine == cpos.line) = true := by rfl)
    (hs : starEach [.Call (.Attribute a "values" apos) [] [] cpos] X.env = (false, eval (.Call (.Attribute a "values" apos) [] [] cpos) X.env) :: starEach [] X.env := by rfl) : EvL X (.Call (.Name "list" p) [.Call (.Attribute a "values" apos) [] [] cpos] [] pos) σ H r (xs.map (·.2)) := fun H1 s Q q =>
  wpE_of (pe_listValues hc wpE_pe hg hm (by decide +kernel) hbase hline hs) (ha H1 s _ fun v H2 s2 ⟨d, kvs, ev, hd, hp⟩ => ⟨d, kvs, ev, hd, fun l hl => q l _ _ (none_of_same s2 hl) (s2.trans (Same.new hl)) upd_same (R.us_up (Same.T (Same.new hl)) (dvals_us hp))⟩)
/-- min of a new list of numbers -/
theorem ev_minL {xs : List Nat} {m : Nat} (hc : X.calm = true) (hm : X.mg "min" = none) (h1 : m ∈ xs) (h2 : ∀ y ∈ xs, m ≤ y) (ha : EvL X a σ H rNat xs) (hg : Gl X "min" := by rfl) (he : starEach [a] X.env = (false, eval a X.env) :: starEach [] X.env := by rfl) (hpl : (backTo pos (starEach [] X.env)).any (·.1) = false := by rfl) :
    Ev X (.Call (.Name "min" p) [a] [] pos) σ H rNat m := ev_b1L (cr_min hc) (by decide +kernel) hm ha (fun l vs H1 Q s hl hu q => ⟨l, xs.map fun n : Nat => (n : Int), rfl, by
      have e := us_nat hu
      rw [← e]; exact SqL.of hl, by have := List.length_pos_of_mem h1; simpa using this, fun m' h3 h4 => by
      have e : m' = (m : Int) := by
        obtain ⟨y, hy, rfl⟩ := List.mem_map.mp h3
        have a1 := h4 _ (List.mem_map.mpr ⟨m, h1, rfl⟩)
        have a2 := h2 y hy
        omega
      rw [e]
      exact q _ H1 (Same.refl _) rfl⟩) hg (by decide) (by decide) he hpl
/-! ### [y1 for y1, y2 in d.items() if c] -/
theorem ei_items {xs : List (Str × Nat)} {d : Addr} {o : Obj} {elts : List Expr} {kk : Nat} {tpos apos cpos : Pos} (h : Ev X e σ H rVal (.ref d)) (hd : H d = some (.frz o (.dK (kvOf (fun n : Nat => V.int n) xs)))) (hbase : attributeBase e "items" X.env (eval e X.env) = eval e X.env := by rfl) (hline : (apos.endLine == cpos.line) = true := by rfl) :
    EvI X (.Tuple elts kk tpos) (.Call (.Attribute e "items" apos) [] [] cpos) σ H (rPair rStr rNat) xs := fun H1 s Rr q =>
  wpI_of (pi_items wpE_pe hbase hline) (h H1 s _ fun v H2 s2 rv => ⟨d, o, _, rv, s2 _ _ (s _ _ hd), q _ H H2 (Same.refl _) (s.trans s2) s2 (fun _ _ z => z) (by
    have hl : (kvOf (fun n : Nat => V.int n) xs).length = xs.length := by simp [kvOf]
    refine ⟨fun i Ha hi sb _ => walk_items.goes i Ha (by rw [hl]; exact hi) (sb _ _ hd), fun Ha sb _ => by rw [← hl]; exact walk_items.stops Ha (sb _ _ hd), fun i Ha v Hb hi sb st y => ?_⟩
    obtain ⟨T, x, z, e1, e2, e3, e4, e5⟩ := yp (walk_items.yields i Ha v Hb (by rw [hl]; exact hi) (sb _ _ hd) y)
    have hx : xs[i]? = some xs[i] := List.getElem?_eq_getElem hi
    have hk : (kvOf (fun n : Nat => V.int n) xs)[i]? = some (.inr xs[i].1, .int xs[i].2) := by simp [kvOf, hx]
    rw [hk] at e4 e5
    simp only [Option.map_some, Option.some.injEq] at e4 e5
    exact ⟨e2, xs[i], hx, T, x, z, e1, e3, e4.symm, e5.symm⟩)⟩)
theorem el_itemsFil {xs : List (Str × Nat)} {d : Addr} {y1 y2 : Str} {p1 p2 pt apos cpos : Pos} {kk j1 j2 : Nat} {q : Str × Nat → Bool} (hj12 : j1 ≠ j2) (hc : X.calm = true) (hN : X.N.Nodup) (ok : BlkOk X.N X.env.scope scope [(y1, j1), (y2, j2)])
    (hd : H d = some (.dK (kvOf (fun n : Nat => V.int n) xs))) (hev : ∀ L, Ev X e σ L rVal (.ref d)) (hz : xs.length ≤ 100000)
    (ht : ∀ v w x H1, x ∈ xs → rStr.rel H1 v x.1 → rNat.rel H1 w x.2 → ∀ s H0 C cl fp, EvT (Blk X scope s H0 C cl fp) c (((wipe σ [j1, j2]).set j1 (some v)).set j2 (some w)) H1 (q x))
    (he : ∀ v w x H1, x ∈ xs → rStr.rel H1 v x.1 → rNat.rel H1 w x.2 → ∀ s H0 C cl fp, Ev (Blk X scope s H0 C cl fp) elt (((wipe σ [j1, j2]).set j1 (some v)).set j2 (some w)) H1 rStr x.1)
    (hj1 : X.N[j1]? = some y1 := by rfl) (hl1 : scope.names.lookup y1 = some .local := by rfl) (hj2 : X.N[j2]? = some y2 := by rfl) (hl2 : scope.names.lookup y2 = some .local := by rfl) (hbase : attributeBase e "items" X.env (eval e X.env) = eval e X.env := by rfl) (hline : (apos.endLine == cpos.line) = true := by rfl)
    (hs : ∀ x, foldedSetIterable (.Call (.Attribute e "items" apos) [] [] cpos) X.env x = pure x := by intro _; rfl) :
    EvL X (.ListComp elt [⟨.Tuple [.Name y1 p1, .Name y2 p2] kk pt, .Call (.Attribute e "items" apos) [] [] cpos, [c], 0⟩] scope pos) σ H rStr ((xs.filter q).map (·.1)) := fun H1 s Q k =>
  wpE_of (pe_lock (pe_lc (tt := wpFB X scope [c]) (te := wpEB X scope elt) (g := gTup X.K 2 (gCons (gName j1) (gCons (gName j2) gNil))) hc hN wpI_pi ok (fun s H C cl fp => pg_tup hc (pgs_cons (pg_name hN hj1 (.inl (blk_local hl1)) (.inr (blk_local hl1))) (pgs_cons (pg_name hN hj2 (.inl (blk_local hl2)) (.inr (blk_local hl2))) pgs_nil)))
    (fun s H C cl fp => ⟨fun pins s' σ H' Q I h => (h s H C cl fp).run pins s' I⟩) (fun s H C cl fp => ⟨fun pins s' σ H' Q I h => (h s H C cl fp).run pins s' I⟩) hs))
  ⟨d, .dK (kvOf (fun n : Nat => V.int n) xs), s _ _ hd, trivial, fun od => lc_read (H := upd H1 d (.frz od (.dK (kvOf (fun n : Nat => V.int n) xs)))) (ri := rPair rStr rNat) (ro := rStr) (xs := xs) (p := q) (f := fun x => x.1) hc hN (ei_items (hev _) upd_same hbase hline) hz ok (fun v x H2 hx s1 rx => by
      obtain ⟨T, v1, v2, ev, hT, h1, h2⟩ := rx
      exact ⟨((wipe σ [j1, j2]).set j1 (some v1)).set j2 (some v2), fun Q k => ⟨T, [v1, v2], ev, SqT.of hT, rfl, v1, [v2], rfl, v2, [], rfl, rfl, k⟩, wipe2 hj12, fun s H0 C cl fp => ⟨ef_one (ht v1 v2 x H2 hx h1 h2 s H0 C cl fp), fun _ => he v1 v2 x H2 hx h1 h2 s H0 C cl fp⟩⟩) _ (Same.refl _) _ fun p' vs H2 np s2 hp hu => by
    have hne : p' ≠ d := fun z => by rw [z, upd_same] at np; cases np
    have hd1 : H1 d = some (.dK (kvOf (fun n : Nat => V.int n) xs)) := s _ _ hd
    refine ⟨s2 _ _ upd_same, k p' vs (upd H2 d (.dK (kvOf (fun n : Nat => V.int n) xs))) (by rw [upd_ne hne] at np; exact np) (fun b o z => ?_) (by rw [upd_ne hne]; exact hp) (by rw [us_str hu]; exact str_us _)⟩
    by_cases hb : b = d
    · rw [hb] at z ⊢
      rw [upd_same, ← z, hd1]
    · rw [upd_ne hb]
      exact s2 _ _ (by rw [upd_ne hb]; exact z)⟩
end
end LK
set_option maxHeartbeats 4000000
namespace LK
open PySem PySem.Spec PyProof.Rows L2
section
variable {α β γ ι : Type} {X : Cx} {e a b c tg iter iter1 elt : Expr} {es ifs : List Expr} {σ : L2.St} {H H' : Hp} {r : R α} {t : R β} {u : R γ} {x : α} {y : β} {z : γ} {pos p : Pos} {n : Str} {scope : Scope} {st : Stmt} {rest body : List Stmt} {D : Ends} {xs : List α} {ys : List β}
def wpIB (X : Cx) (scope : Scope) (tg iter : Expr) : TI := fun σ H R => ∀ (s : Shared) (H0 : Hp) (C : Addr) (cl : List (Str × Addr)) (fp : List Addr), wpI (Blk X scope s H0 C cl fp) tg iter σ H R
theorem take_succ_flat {f : α → β → γ} {i : Nat} (hx : xs[i]? = some x) : (xs.take (i + 1)).flatMap (fun a => ys.map (f a)) = (xs.take i).flatMap (fun a => ys.map (f a)) ++ ys.map (f x) := by
  rw [List.take_add_one, hx]; simp
theorem wipe22 {σ : L2.St} {j1 j2 : Nat} {v w : V} (hj : j1 ≠ j2) : wipe (((wipe σ [j1, j2]).set j1 (some v)).set j2 (some w)) [j2] = wipe ((wipe σ [j1, j2]).set j1 (some v)) [j2] := by
  show (((((σ.set j2 none).set j1 none).set j1 (some v)).set j2 (some w)).set j2 none) = (((σ.set j2 none).set j1 none).set j1 (some v)).set j2 none
  rw [List.set_set]
theorem wipe_again {σ : L2.St} {j1 j2 : Nat} {v : V} (hj : j1 ≠ j2) : wipe ((wipe σ [j1, j2]).set j1 (some v)) [j2] = (wipe σ [j1, j2]).set j1 (some v) := by
  show ((((σ.set j2 none).set j1 none).set j1 (some v)).set j2 none) = (((σ.set j2 none).set j1 none).set j1 (some v))
  apply List.ext_getElem?
  intro i
  simp only [List.getElem?_set, List.length_set]
  by_cases h1 : j1 = i
  · by_cases h2 : j2 = i
    · exact absurd (h1.trans h2.symm) hj
    · simp [h1, h2]
  · by_cases h2 : j2 = i <;> simp [h1, h2]
theorem wipe_one {σ : L2.St} {j1 j2 : Nat} {v : V} (hj : j1 ≠ j2) : wipe ((wipe σ [j1, j2]).set j1 (some v)) [j1, j2] = wipe σ [j1, j2] := by
  show ((((σ.set j2 none).set j1 none).set j1 (some v)).set j2 none).set j1 none = ((σ.set j2 none).set j1 none)
  apply List.ext_getElem?
  intro i
  simp only [List.getElem?_set, List.length_set]
  by_cases h1 : j1 = i
  · by_cases h2 : j2 = i
    · exact absurd (h1.trans h2.symm) hj
    · simp [h1, h2]
  · by_cases h2 : j2 = i <;> simp [h1, h2]
/-- name = [elt for y1 in iter for y2 in iter1] -/
theorem ss_setLc22 {i : Nat} {nm y1 y2 : Str} {pn py1 py2 spos : Pos} {j1 j2 : Nat} {f : α → β → γ} (hj12 : j1 ≠ j2) (hc : X.calm = true) (hN : X.N.Nodup) (ok : BlkOk X.N X.env.scope scope [(y1, j1), (y2, j2)]) (hi : EvI X (.Name y1 py1) iter σ H r xs) (hz : xs.length * ys.length ≤ 99999)
    (hin : ∀ v H1, Same H H1 → ∀ s H0 C cl fp, EvI (Blk X scope s H0 C cl fp) (.Name y2 py2) iter1 ((wipe σ [j1, j2]).set j1 (some v)) H1 t ys)
    (he : ∀ v x w y H1, x ∈ xs → y ∈ ys → Same H H1 → r.rel H1 v x → t.rel H1 w y → ∀ s H0 C cl fp, Ev (Blk X scope s H0 C cl fp) elt (((wipe σ [j1, j2]).set j1 (some v)).set j2 (some w)) H1 u (f x y))
    (k : ∀ p vs H1, H p = none → Same H H1 → H1 p = some (.lst vs) → u.us H1 vs (xs.flatMap fun x => ys.map (f x)) → wpSs X rest D (σ.set i (some (.ref p))) H1)
    (hsw : swapsWith (.ListComp elt [⟨.Name y1 py1, iter, [], 0⟩, ⟨.Name y2 py2, iter1, [], 0⟩] scope pos) (some (.Name nm pn)) spos.line X.env = pure true)
    (hy : X.N[i]? = some nm := by rfl) (hyl : X.env.scope.names.lookup nm = some .local := by rfl) (hj : X.N[j1]? = some y1 := by rfl) (hl : scope.names.lookup y1 = some .local := by rfl) (hjb : X.N[j2]? = some y2 := by rfl) (hlb : scope.names.lookup y2 = some .local := by rfl)
    (hs : ∀ x, foldedSetIterable iter X.env x = pure x := by intro _; rfl) (hs1 : ∀ env x, foldedSetIterable iter1 env x = pure x := by intro _ _; rfl) :
    wpSs X (.Assign [.Name nm pn] (.ListComp elt [⟨.Name y1 py1, iter, [], 0⟩, ⟨.Name y2 py2, iter1, [], 0⟩] scope pos) spos :: rest) D σ H := by
  refine ss_cons (wpS_of (ps_setLc2 (vs1 := [j2]) (wi1 := wpIB X scope (.Name y2 py2) iter1) (tt := wpFB X scope []) (tt1 := wpFB X scope []) (te := wpEB X scope elt) (g := gName j1) (g1 := gName j2) hc hN hy hyl hsw wpI_pi ok (by simp)
    (fun s H C cl fp => pg_name hN hj (.inl (blk_local hl)) (.inr (blk_local hl))) (fun s H C cl fp => ⟨fun pins s' σ H' Q I h => (h s H C cl fp).run pins s' I⟩) (fun s H C cl fp => ⟨fun pins s' σ H' Q I h => (h s H C cl fp).run pins s' I⟩)
    (fun s H C cl fp => pg_name hN hjb (.inl (blk_local hlb)) (.inr (blk_local hlb))) (fun s H C cl fp => ⟨fun pins s' σ H' Q I h => (h s H C cl fp).run pins s' I⟩) (fun s H C cl fp => ⟨fun pins s' σ H' Q I h => (h s H C cl fp).run pins s' I⟩) hs hs1) ?_)
  refine hi H (Same.refl H) _ fun J B H2 b1 b2 b3 fr wk => fun Dd hD => ?_
  have hDn : H Dd = none := none_of_same b3 hD
  refine ⟨fun i m Hh => m = xs.length - i ∧ i ≤ xs.length ∧ Same H2 Hh ∧ ∃ vs, Hh Dd = some (.lst vs) ∧ u.us Hh vs ((xs.take i).flatMap fun x => ys.map (f x)) ∧ vs.length = i * ys.length, ⟨_, rfl, Nat.zero_le _, Same.new hD, [], upd_same, .nil, by simp⟩, ?_⟩
  rintro i m Hh ⟨rfl, hle, sA, vs, hv, us, hlen⟩
  by_cases hlt : i < xs.length
  · refine .inr ⟨wk.goes i Hh hlt (b2.trans sA) (Same.T sA), fun H' => i + 1 ≤ xs.length ∧ Same H2 H' ∧ ∃ vs, H' Dd = some (.lst vs) ∧ u.us H' vs ((xs.take (i + 1)).flatMap fun x => ys.map (f x)) ∧ vs.length = (i + 1) * ys.length, fun H' p' => ⟨xs.length - (i + 1), by omega, rfl, p'⟩, fun v Hb yy => ?_⟩
    obtain ⟨sAB, x, hx, rx⟩ := wk.yields i Hh v Hb hlt (b2.trans sA) (Same.T sA) yy
    have hmem : x ∈ xs := List.mem_of_getElem? hx
    refine ⟨wipe_one hj12, fun s' H0 C cl fp => ef_nil Hb (Same.refl _) _ fun H3 s4 => ?_⟩
    refine iteT ?_
    have s3w : Same H (wo H3 Dd) := fun b o e => by
      rw [wo_ne (ne_of_none e hDn)]
      exact s4 _ _ (sAB _ _ (sA _ _ (b3 _ _ e)))
    refine fun s' H0 C cl fp => hin v (wo H3 Dd) s3w s' H0 C cl fp H3 (wo_same _ _) _ fun J1 B1 H4 c1 c2 c3 fr1 wk1 => ?_
    have bD : B1 Dd = none := fr1 Dd (by rw [s4 _ _ (sAB _ _ hv)]; simp) (wo_at _ _)
    have hv4 : H4 Dd = some (.lst vs) := c3 _ _ (s4 _ _ (sAB _ _ hv))
    have s24 : Same H2 H4 := ((sA.trans sAB).trans s4).trans c3
    refine ⟨fun j k Hq => k = ys.length - j ∧ j ≤ ys.length ∧ Same B1 Hq ∧ SameT H4 Hq ∧ Same H2 Hq ∧ ∃ ws, Hq Dd = some (.lst ws) ∧ u.us Hq ws ((xs.take i).flatMap (fun x => ys.map (f x)) ++ (ys.take j).map (f x)) ∧ ws.length = i * ys.length + j,
      ⟨_, rfl, Nat.zero_le _, c2, SameT.refl _, s24, vs, hv4, by simpa using R.us_up (Same.T ((sAB.trans s4).trans c3)) us, by simpa using hlen⟩, ?_⟩
    rintro j k Hq ⟨rfl, hjle, sB1, sT4, s2q, ws, hwD, uws, hwl⟩
    by_cases hjlt : j < ys.length
    · refine .inr ⟨wk1.goes j Hq hjlt sB1 sT4, fun Hq' => j + 1 ≤ ys.length ∧ Same B1 Hq' ∧ SameT H4 Hq' ∧ Same H2 Hq' ∧ ∃ ws, Hq' Dd = some (.lst ws) ∧ u.us Hq' ws ((xs.take i).flatMap (fun x => ys.map (f x)) ++ (ys.take (j + 1)).map (f x)) ∧ ws.length = i * ys.length + (j + 1), fun H' p' => ⟨ys.length - (j + 1), by omega, rfl, p'⟩, fun w Hc yy1 => ?_⟩
      obtain ⟨sqc, y, hy', ry⟩ := wk1.yields j Hq w Hc hjlt sB1 sT4 yy1
      have hymem : y ∈ ys := List.mem_of_getElem? hy'
      have sHc : Same H Hc := (b3.trans s2q).trans sqc
      have rxc : r.rel Hc v x := r.up ((((Same.T s4).trans (Same.T c3)).trans sT4).trans (Same.T sqc)) rx
      have ew : wipe ((wipe σ (List.map (fun x : Str × Nat => x.2) [(y1, j1), (y2, j2)])).set j1 (some v)) [j2] = (wipe σ [j1, j2]).set j1 (some v) := wipe_again hj12
      rw [ew]
      refine ⟨(wipe22 hj12).trans (wipe_again hj12), fun s' H0 C cl fp => ef_nil Hc (Same.refl _) _ fun H5 s5 => ?_⟩
      refine iteT ?_
      refine fun s' H0 C cl fp => he v x w y Hc hmem hymem sHc rxc ry s' H0 C cl fp H5 s5 _ fun v7 H7 s7 r7 => ?_
      have hw7 : H7 Dd = some (.lst ws) := s7 _ _ (s5 _ _ (sqc _ _ hwD))
      have t7 : SameT Hq (upd H7 Dd (.lst (ws ++ [v7]))) := (Same.T ((sqc.trans s5).trans s7)).trans (SameT.upd hw7)
      have hbound : ws.length < 100000 := by
        have h1 : i * ys.length + ys.length ≤ xs.length * ys.length := by
          rw [← Nat.succ_mul]
          exact Nat.mul_le_mul_right _ hlt
        omega
      refine ⟨ws, hw7, sz_lt hbound, hjlt, Same.mut (sB1.trans ((sqc.trans s5).trans s7)) bD, sT4.trans t7, Same.mut (s2q.trans ((sqc.trans s5).trans s7)) hD, ws ++ [v7], upd_same, ?_, by rw [List.length_append]; simp; omega⟩
      rw [List.take_add_one, hy', List.map_append, ← List.append_assoc]
      exact paired_append (R.us_up t7 uws) (.cons (u.up (SameT.upd hw7) r7) .nil)
    · have hj' : j = ys.length := by omega
      subst hj'
      refine .inl ⟨wk1.stops Hq sB1 sT4, hlt, s2q, ws, hwD, ?_, by rw [hwl, Nat.succ_mul]⟩
      rw [take_succ_flat hx]
      rw [List.take_length] at uws
      exact uws
  · have hi' : i = xs.length := by omega
    subst hi'
    refine .inl ⟨wk.stops Hh (b2.trans sA) (Same.T sA), ?_⟩
    rw [List.take_length] at us
    exact k Dd vs Hh hDn (b3.trans sA) hv us
/-! ### a list display with a star ahead: [*a, b] -/
theorem el_starT {xs : List α} {y : α} {ps : Pos} (ha : Ev X a σ H (rTup r) xs) (hb : Ev X b σ H r y) (hl : xs.length ≤ 1000) (hs : starEach [.Starred a ps, b] X.env = (true, eval a X.env) :: starEach [b] X.env := by rfl) (hs2 : starEach [b] X.env = (false, eval b X.env) :: starEach [] X.env := by rfl) :
    EvL X (.List [.Starred a ps, b] pos) σ H r (xs ++ [y]) := fun H1 s Q q =>
  wpE_of (pe_lst (StX.pa_star wpE_pe (pa_cons wpE_pe pa_nil hs2) hs)) (ha H1 s _ fun v H2 s2 ⟨p, vs, ev, hp, hu⟩ => ⟨p, vs, ev, .inl (.inl hp), hb H2 (s.trans s2) _ fun w H3 s3 rw' => ⟨sz_of (by rw [List.length_append, us_length hu]; simp; omega), fun l hl' => by
    exact q l (vs ++ [w]) _ (none_of_same (s2.trans s3) hl') ((s2.trans s3).trans (Same.new hl')) upd_same (paired_append (R.us_up (Same.T (s3.trans (Same.new hl'))) hu) (.cons (r.up (Same.T (Same.new hl')) rw') .nil))⟩⟩)
end
end LK
set_option maxHeartbeats 4000000
namespace LK
open PySem PySem.Spec PyProof.Rows L2
/-! ### further plain looks -/
section
variable {α β γ : Type} {X : Cx} {a b c e : Expr} {σ : L2.St} {H : Hp} {r : R α} {t : R β} {pos p : Pos} {n : Str} {rest : List Stmt} {D : Ends}
theorem ev_mul {i j : Int} (h : CMul i j) (ha : Ev X a σ H rInt i) (hb : Ev X b σ H rInt j) : Ev X (.BinOp a .Mult b pos) σ H rInt (i * j) := ev_op op_mul ha hb fun v w H1 Q s rv rw q => ⟨i, j, rv, rw, h, q _ H1 (Same.refl _) rfl⟩
theorem ev_fdiv {i j : Int} (h : CDiv i j) (ha : Ev X a σ H rInt i) (hb : Ev X b σ H rInt j) : Ev X (.BinOp a .FloorDiv b pos) σ H rInt (i / j) := ev_op op_fdiv ha hb fun v w H1 Q s rv rw q => ⟨i, j, rv, rw, h, q _ H1 (Same.refl _) rfl⟩
theorem ev_pow {i j : Int} (h : CPow i j) (ha : Ev X a σ H rInt i) (hb : Ev X b σ H rInt j) : Ev X (.BinOp a .Pow b pos) σ H rInt (i ^ j.toNat) := ev_op op_pow ha hb fun v w H1 Q s rv rw q => ⟨i, j, rv, rw, h, q _ H1 (Same.refl _) rfl⟩
def CPowW (i j : Int) : Prop := 0 ≤ j ∧ (Builtin.Int.intBits i : Int) * j ≤ 2 ^ 27
theorem op_powW : OpR X (binaryOp .Pow) (rI CPowW fun i j => .int (i ^ j.toNat)) := opI fun _ _ _ _ _ _ _ hc q => pow_int hc.1 hc.2 q
theorem ev_powW {i j : Int} (h : CPowW i j) (ha : Ev X a σ H rInt i) (hb : Ev X b σ H rInt j) : Ev X (.BinOp a .Pow b pos) σ H rInt (i ^ j.toNat) := ev_op op_powW ha hb fun v w H1 Q s rv rw q => ⟨i, j, rv, rw, h, q _ H1 (Same.refl _) rfl⟩
theorem ev_abs {i : Int} (hm : X.mg "abs" = none) (ha : Ev X a σ H rInt i) (hg : Gl X "abs" := by rfl) (he : starEach [a] X.env = (false, eval a X.env) :: starEach [] X.env := by rfl) (hpl : (backTo pos (starEach [] X.env)).any (·.1) = false := by rfl) :
    Ev X (.Call (.Name "abs" p) [a] [] pos) σ H rInt (if i < 0 then -i else i) := ev_b1 call_abs (by rfl) hm ha (fun v H1 Q s rv q => ⟨i, by rw [show v = _ from rv], q _ H1 (Same.refl _) rfl⟩) hg (by decide) (by decide) he hpl
theorem ev_max2 {i j : Int} (hc : X.calm = true) (hm : X.mg "max" = none) (ha : Ev X a σ H rInt i) (hb : Ev X b σ H rInt j) (hg : Gl X "max" := by rfl) (he : starEach [a, b] X.env = (false, eval a X.env) :: starEach [b] X.env := by rfl) (he2 : starEach [b] X.env = (false, eval b X.env) :: starEach [] X.env := by rfl) (hpl : (backTo pos (starEach [b] X.env)).any (·.1) = false := by rfl) :
    Ev X (.Call (.Name "max" p) [a, b] [] pos) σ H rInt (if j > i then j else i) := fun H1 s Q q =>
  wpE_of (pe_callB (call_max2 hc) hg hm (by rfl) (pa_cons wpE_pe (pa_cons wpE_pe pa_nil he2) he) (by decide) (by decide) he hpl) (ha H1 s _ fun v H2 s2 rv => hb H2 (s.trans s2) _ fun w H3 s3 rw => ⟨i, j, by rw [show v = _ from rv, show w = _ from rw], q _ H3 (s2.trans s3) rfl⟩)
theorem ev_min2 {i j : Int} (hc : X.calm = true) (hm : X.mg "min" = none) (ha : Ev X a σ H rInt i) (hb : Ev X b σ H rInt j) (hg : Gl X "min" := by rfl) (he : starEach [a, b] X.env = (false, eval a X.env) :: starEach [b] X.env := by rfl) (he2 : starEach [b] X.env = (false, eval b X.env) :: starEach [] X.env := by rfl) (hpl : (backTo pos (starEach [b] X.env)).any (·.1) = false := by rfl) :
    Ev X (.Call (.Name "min" p) [a, b] [] pos) σ H rInt (if j < i then j else i) := fun H1 s Q q =>
  wpE_of (pe_callB (call_min2 hc) hg hm (by rfl) (pa_cons wpE_pe (pa_cons wpE_pe pa_nil he2) he) (by decide) (by decide) he hpl) (ha H1 s _ fun v H2 s2 rv => hb H2 (s.trans s2) _ fun w H3 s3 rw => ⟨i, j, by rw [show v = _ from rv, show w = _ from rw], q _ H3 (s2.trans s3) rfl⟩)
theorem flat_rep_one {x : V} (k : Nat) : (List.replicate k [x]).flatten = List.replicate k x := by
  induction k with
  | zero => rfl
  | succ k ih => simp [List.replicate_succ, ih]
theorem us_rep {H : Hp} {v : V} {x : α} (h : r.rel H v x) : ∀ k : Nat, r.us H (List.replicate k v) (List.replicate k x)
  | 0 => .nil
  | k + 1 => .cons h (us_rep h k)
/-- [x] * k -/
theorem el_rep1 {x : α} {k : Nat} (hk : k ≤ 1000) (ha : EvL X a σ H r [x]) (hb : Ev X b σ H rInt (k : Int)) : EvL X (.BinOp a .Mult b pos) σ H r (List.replicate k x) := fun H1 s Q q =>
  wpE_of (pe_op op_rep wpE_pe wpE_pe) (ha H1 s _ fun l vs H2 np s2 hl hu => hb H2 (s.trans s2) _ fun w H3 s3 rw => by
    cases hu with
    | cons rv rn =>
      cases rn
      refine ⟨l, (k : Int), _, rfl, rw, s3 _ _ hl, by omega, by omega, by show 1 * ((k : Int)).toNat ≤ sizeLine; exact Nat.le_trans (by simp; omega) (by decide : 1000 ≤ sizeLine), fun p' hp' => ?_⟩
      rw [Int.toNat_natCast, flat_rep_one]
      exact q _ _ _ (none_of_same (s2.trans s3) hp') ((s2.trans s3).trans (Same.new hp')) upd_same (us_rep (r.up (Same.T (s3.trans (Same.new hp'))) rv) k))
/-- xs + ys, new lists -/
theorem el_cat {xs ys : List α} (hl : xs.length + ys.length ≤ 100000) (ha : EvL X a σ H r xs) (hb : EvL X b σ H r ys) : EvL X (.BinOp a .Add b pos) σ H r (xs ++ ys) := fun H1 s Q q =>
  wpE_of (pe_op op_cat wpE_pe wpE_pe) (ha H1 s _ fun l vs H2 np s2 hp hu => hb H2 (s.trans s2) _ fun l' ws H3 np' s3 hp' hu' =>
    ⟨l, l', vs, ws, rfl, rfl, s3 _ _ hp, hp', sz_of (by rw [us_length hu, us_length hu']; exact hl), fun p' nq => q _ _ _ (none_of_same (s2.trans s3) nq) ((s2.trans s3).trans (Same.new nq)) upd_same (paired_append (R.us_up (Same.T (s3.trans (Same.new nq))) hu) (R.us_up (Same.T (Same.new nq)) hu'))⟩)
/-- xs + ys, tuples -/
theorem ev_catT {xs ys : List α} (hl : xs.length + ys.length ≤ 100000) (ha : Ev X a σ H (rTup r) xs) (hb : Ev X b σ H (rTup r) ys) : Ev X (.BinOp a .Add b pos) σ H (rTup r) (xs ++ ys) := fun H1 s Q q =>
  wpE_of (pe_op op_catA wpE_pe wpE_pe) (ha H1 s _ fun v H2 s2 ⟨l, vs, ev, hp, hu⟩ => hb H2 (s.trans s2) _ fun w H3 s3 ⟨l', ws, ew, hp', hu'⟩ => by
    have hu3 := R.us_up (Same.T s3) hu
    have n1 := us_length hu
    have n2 := us_length hu'
    refine ⟨l, l', vs, ws, ev, ew, .inl ((Same.T s3).rd hp), .inl hp', sz_of (by rw [n1, n2]; exact hl), fun e => ?_, fun e1 e2 => ?_, fun e1 e2 p' np => ?_⟩
    · subst e
      cases hu3
      exact q _ H3 (s2.trans s3) ⟨l', ws, rfl, hp', hu'⟩
    · subst e2
      cases hu'
      rw [List.append_nil] at q
      exact q _ H3 (s2.trans s3) ⟨l, vs, rfl, (Same.T s3).rd hp, hu3⟩
    · exact q _ _ ((s2.trans s3).trans (Same.new np)) ⟨p', vs ++ ws, rfl, .inl upd_same, paired_append (R.us_up (Same.T (Same.new np)) hu3) (R.us_up (Same.T (Same.new np)) hu')⟩)
/-- l[i] = e, l a list of ours -/
theorem ss_lset {l : Addr} {vs : List V} {i : Nat} {x : α} {p' s1 : Pos} (hl : H l = some (.lst vs)) (hi : i < vs.length) (he : Ev X e σ H r x) (ha : Ev X a σ H rVal (.ref l)) (hb : Ev X b σ H rInt (i : Int)) (k : ∀ v H1, Same H H1 → r.rel H1 v x → wpSs X rest D σ (upd H1 l (.lst (vs.set i v))))
    (hs : swapsWithSole [.Subscript a b p'] e s1.line X.env = pure false := by rfl) (hw : swappedStores [.Subscript a b p'] e X.env = pure none := by rfl) (h1 : (assignEach [.Subscript a b p'] X.env).map (·.2) = [assign (.Subscript a b p') X.env] := by rfl)
    (hx : ∀ v, assign (.Subscript a b p') X.env v = (do
      let ov ← holding [v] (eval a X.env)
      let iv ← holding [v, ov] (eval b X.env)
      standAt p'
      holding [v, ov, iv] (setItem ov iv v)
      release [v, ov, iv] []) := by intro _; rfl) :
    wpSs X (.Assign [.Subscript a b p'] e s1 :: rest) D σ H :=
  ss_cons (wpS_of (ps_asg wpE_pe (pg_sub wpE_pe wpE_pe set_list hx) hs hw h1) (he H (Same.refl H) _ fun v H1 s1 rv => ha H1 s1 _ fun w H2 s2 rw => hb H2 (s1.trans s2) _ fun w3 H3 s3 r3 =>
    ⟨l, vs, (i : Int), i, rw, r3, s3 _ _ (s2 _ _ (s1 _ _ hl)), by unfold ixN; rw [if_pos (by omega), if_pos (by omega)]; simp, k v H3 (s1.trans (s2.trans s3)) (r.up (Same.T (s2.trans s3)) rv)⟩))
end
end LK
set_option maxHeartbeats 4000000
namespace LK
open PySem PySem.Spec PyProof.Rows L2
/-! ### draws: the pot is a list of three whole numbers at l; n bounds what was drawn -/
def Pot (l : Addr) (n : Nat) (H : Hp) : Prop := ∃ a b c : Int, H l = some (.lst [.int a, .int b, .int c]) ∧ 0 ≤ b ∧ b < 2 ^ 61 ∧ 0 ≤ c ∧ c ≤ (n : Int)
/-- all but what is at l stays -/
def DL (l : Addr) (H H' : Hp) : Prop := ∀ b o, H b = some o → b ≠ l → H' b = some o
section
variable {l : Addr} {n m : Nat} {H H1 H2 : Hp}
theorem DL.refl (l : Addr) (H : Hp) : DL l H H := fun _ _ h _ => h
theorem DL.trans (a : DL l H H1) (b : DL l H1 H2) : DL l H H2 := fun c o h ne => b c o (a c o h ne) ne
theorem toD (s : Same H H1) : DL l H H1 := fun b o h _ => s b o h
theorem Pot.same (P : Pot l n H) (s : Same H H1) : Pot l n H1 := by
  obtain ⟨a, b, c, h, r⟩ := P
  exact ⟨a, b, c, s _ _ h, r⟩
theorem Pot.mono (P : Pot l n H) (h : n ≤ m) : Pot l m H := by
  obtain ⟨a, b, c, h1, h2, h3, h4, h5⟩ := P
  exact ⟨a, b, c, h1, h2, h3, h4, by omega⟩
theorem DL.T (d : DL l H H1) (P : Pot l n H) : SameT H H1 := fun b o h f => by
  by_cases e : b = l
  · obtain ⟨_, _, _, h1, _⟩ := P
    rw [e, h1] at h
    cases h
    exact f.elim
  · exact d b o h e
theorem DL.new {p : Addr} {o : HO} (h : H p = none) : DL l H (upd H p o) := toD (Same.new h)
theorem DL.at {o : HO} : DL l H (upd H l o) := fun b u h ne => by rw [upd_ne ne]; exact h
theorem DL.mutN {p : Addr} {o : HO} (d : DL l H H1) (h : H p = none) : DL l H (upd H1 p o) := fun b u e ne => by
  rw [upd_ne (ne_of_none e h)]; exact d b u e ne
theorem Pot.ne {p : Addr} (P : Pot l n H) (h : H p = none) : p ≠ l := fun e => by
  obtain ⟨_, _, _, h1, _⟩ := P
  rw [e, h1] at h
  cases h
theorem Pot.upd {p : Addr} {o : HO} (P : Pot l n H) (h : p ≠ l) : Pot l n (upd H p o) := by
  obtain ⟨a, b, c, h1, r⟩ := P
  exact ⟨a, b, c, by rw [upd_ne h.symm]; exact h1, r⟩
end
section
variable {α β γ ι κ : Type} {X : Cx} {e a b c : Expr} {es : List Expr} {σ : L2.St} {H H' : Hp} {l : Addr} {n k k1 k2 : Nat} {pos p : Pos} {nm : Str} {rest : List Stmt} {D : Ends}
/-- e comes to some y with post y, by at most k draws -/
def EvD (X : Cx) (e : Expr) (σ : L2.St) (H : Hp) (l : Addr) (n k : Nat) (r : RS α) (post : α → Prop) : Prop := ∀ H1, DL l H H1 → Pot l n H1 → ∀ Q : VK, (∀ v y H2, DL l H1 H2 → Pot l (n + k) H2 → post y → r.rel H2 v y → Q v H2) → wpE X e σ H1 Q
def EvAD (X : Cx) (es : List Expr) (σ : L2.St) (H : Hp) (l : Addr) (n k : Nat) (A : RA ι) (post : ι → Prop) : Prop := ∀ H1, DL l H H1 → Pot l n H1 → ∀ Q : List V → Hp → Prop, (∀ vs i H2, DL l H1 H2 → Pot l (n + k) H2 → post i → A.rel H2 vs i → Q vs H2) → wpA X es σ H1 Q
/-- a list that is not the pot -/
def rLstN (l : Addr) (r : R α) : RS (List α) := ⟨fun H v xs => ∃ p vs, v = .ref p ∧ p ≠ l ∧ H p = some (.lst vs) ∧ r.us H vs xs, fun e ⟨p, vs, a, ne, b, c⟩ => ⟨p, vs, a, ne, e _ _ b, R.us_up (Same.T e) c⟩⟩
/-- stays when the pot changes -/
def Stays (l : Addr) (r : RS α) : Prop := ∀ (m : Nat) (H H' : Hp) (v : V) (x : α), Pot l m H → DL l H H' → r.rel H v x → r.rel H' v x
theorem R.stays (r : R α) : Stays l r.s := fun m H H' v x P d h => r.up (d.T P) h
theorem rLstN.stays (r : R α) : Stays l (rLstN l r) := fun m H H' v x P d ⟨p, vs, a, ne, b, c⟩ => ⟨p, vs, a, ne, d _ _ b ne, R.us_up (d.T P) c⟩
variable {r : RS α} {t : RS β} {post : α → Prop} {post' : β → Prop}
theorem ed_of {x : α} (h : ∀ H1, DL l H H1 → Pot l n H1 → EvS X e σ H1 r x) (hp : post x) : EvD X e σ H l n k r post := fun H1 d P Q q => h H1 d P H1 (Same.refl _) Q fun v H2 s rv => q v x H2 (toD s) ((P.same s).mono (Nat.le_add_right _ _)) hp rv
theorem ed_wk {p' : α → Prop} (h : EvD X e σ H l n k r post) (hk : k ≤ k1) (hp : ∀ y, post y → p' y) : EvD X e σ H l n k1 r p' := fun H1 d P Q q => h H1 d P Q fun v y H2 d2 P2 p2 rv => q v y H2 d2 (P2.mono (by omega)) (hp y p2) rv
theorem ed_mono (h : EvD X e σ H l n k r post) (d : DL l H H') : EvD X e σ H' l n k r post := fun H1 d1 => h H1 (d.trans d1)
theorem ed_to {u : RS γ} {p' : γ → Prop} (h : EvD X e σ H l n k r post) (f : ∀ H v y, post y → r.rel H v y → ∃ z, p' z ∧ u.rel H v z) : EvD X e σ H l n k u p' := fun H1 d P Q q => h H1 d P Q fun v y H2 d2 P2 p2 rv => by
  obtain ⟨z, hz, rz⟩ := f H2 v y p2 rv
  exact q v z H2 d2 P2 hz rz
theorem wpE_ed {Q : VK} {H1 : Hp} (h : EvD X e σ H l n k r post) (d : DL l H H1) (P : Pot l n H1) (q : ∀ v y H2, DL l H1 H2 → Pot l (n + k) H2 → post y → r.rel H2 v y → Q v H2) : wpE X e σ H1 Q := h H1 d P Q q
/-! arguments -/
theorem ead_of {A : RA ι} {x : ι} {po : ι → Prop} (h : ∀ H1, DL l H H1 → Pot l n H1 → EvA X es σ H1 A x) (hp : po x) : EvAD X es σ H l n k A po := fun H1 d P Q q => h H1 d P H1 (Same.refl _) Q fun vs H2 s ra => q vs x H2 (toD s) ((P.same s).mono (Nat.le_add_right _ _)) hp ra
theorem ead_cons {A : RA ι} {po : ι → Prop} (st : Stays l r) (h : EvD X e σ H l n k1 r post) (hr : EvAD X es σ H l (n + k1) k2 A po) (hs : starEach (e :: es) X.env = (false, eval e X.env) :: starEach es X.env := by rfl) : EvAD X (e :: es) σ H l n (k1 + k2) (aConsS r A) (fun z => post z.1 ∧ po z.2) := fun H1 d P Q q =>
  wpA_of (pa_cons wpE_pe wpA_pa hs) (h H1 d P _ fun v y H2 d2 P2 py rv => hr H2 (d.trans d2) P2 _ fun vs i H3 d3 P3 pi ra => q (v :: vs) (y, i) H3 (d2.trans d3) (P3.mono (by omega)) ⟨py, pi⟩ ⟨v, vs, rfl, st _ _ _ _ _ P2 d3 rv, ra⟩)
theorem ead_nil {po : Unit → Prop} (h : po ()) : EvAD X [] σ H l n k aNil po := ead_of (fun H1 _ _ => ea_nil) h
/-! two-place operations of whole numbers -/
theorem ed_op {op : Operator} {C : Int → Int → Prop} {g : Int → Int → Int} {pa pb : Int → Prop} (ho : OpR X (binaryOp op) (rI C fun i j => .int (g i j))) (hc : ∀ i j, pa i → pb j → C i j) (ha : EvD X a σ H l n k1 rInt.s pa) (hb : EvD X b σ H l (n + k1) k2 rInt.s pb) : EvD X (.BinOp a op b pos) σ H l n (k1 + k2) rInt.s (fun z => ∃ i j, pa i ∧ pb j ∧ z = g i j) := fun H1 d P Q q =>
  wpE_of (pe_op ho wpE_pe wpE_pe) (ha H1 d P _ fun v i H2 d2 P2 pi rv => hb H2 (d.trans d2) P2 _ fun w j H3 d3 P3 pj rw => ⟨i, j, rv, rw, hc i j pi pj, q _ (g i j) H3 (d2.trans d3) (P3.mono (by omega)) ⟨i, j, pi, pj, rfl⟩ rfl⟩)
theorem op_add' {X : Cx} : OpR X (binaryOp .Add) (rI (fun _ _ => True) fun i j => .int (i + j)) := fun pins s σ H x y v u Q I rx ry ⟨i, j, e1, e2, _, q⟩ => op_add pins s σ H x y v u Q I rx ry ⟨i, j, e1, e2, q⟩
/-! the calls -/
/-- a def that draws, at most k times; the pot is its first argument -/
def SpD (A : Addr → RA ι) (pre : ι → Prop) (k : Nat) (r : Addr → RS β) (po : ι → β → Prop) : Sp := fun vs H Q _ => ∃ l n ws i, vs = .ref l :: ws ∧ Pot l n H ∧ n + k ≤ 100000 ∧ (A l).rel H ws i ∧ pre i ∧ ∀ v y H', DL l H H' → Pot l (n + k) H' → po i y → (r l).rel H' v y → Q v H'
theorem ed_call {k0 kc j : Nat} {A : Addr → RA ι} {pre : ι → Prop} {rr : Addr → RS β} {r' : RS β} {po : ι → β → Prop} {p1 : ι → Prop} {pn : Str} {pp : Pos} (C : Cal X.prog X.w X.K X.mg X.base k0 nm (SpD A pre kc rr po)) (hr : Room k0 X.A) (hj : σ[j]? = some (some (.ref l))) (hn : n + k1 + kc ≤ 100000)
    (ha : EvAD X es σ H l n k1 (A l) p1) (hp : ∀ i, p1 i → pre i) (hN : X.N[j]? = some pn := by rfl) (hv : Vis X.env.scope pn := by first | exact Or.inl rfl | exact Or.inr (Or.inl rfl) | exact Or.inr (Or.inr rfl)) (hd : (pn == ("__debug__" : Str)) = false := by decide) (hcd : (pn == ("__classdict__" : Str)) = false := by decide)
    (hg : Gl X nm := by rfl) (hdb : (nm == ("__debug__" : Str)) = false := by decide) (he : starEach (.Name pn pp :: es) X.env = (false, eval (.Name pn pp) X.env) :: starEach es X.env := by rfl) (hpl : (backTo pos (starEach es X.env)).any (·.1) = false := by rfl) (hrr : rr l = r' := by rfl) :
    EvD X (.Call (.Name nm p) (.Name pn pp :: es) [] pos) σ H l n (k1 + kc) r' (fun y => ∃ i, p1 i ∧ po i y) := fun H1 d P Q q => by
  subst hrr
  exact
  wp_call C hr (wpA_of (pa_cons (pe_var hN hv hd hcd) wpA_pa he) ⟨_, hj, ha H1 d P _ fun vs i H2 d2 P2 pi ra => ⟨l, n + k1, vs, i, rfl, P2, hn, ra, hp i pi, fun v y H3 d3 P3 py rv => q v y H3 (d2.trans d3) (P3.mono (by omega)) ⟨i, pi, py⟩ rv⟩⟩) hg hdb he hpl
/-- tuple(a list that is drawn) -/
theorem ed_tuple {r : R α} {po : List α → Prop} (hm : X.mg "tuple" = none) (ha : EvD X a σ H l n k (rLstN l r) po) (hg : Gl X "tuple" := by rfl) (he : starEach [a] X.env = (false, eval a X.env) :: starEach [] X.env := by rfl) (hpl : (backTo pos (starEach [] X.env)).any (·.1) = false := by rfl) :
    EvD X (.Call (.Name "tuple" p) [a] [] pos) σ H l n k (rTupN r).s po := fun H1 d P Q q =>
  wpE_of (pe_callTy call_tuple_frz hg hm (by decide +kernel) (pa_cons wpE_pe pa_nil he) (by decide) (by decide) he hpl) (ha H1 d P _ fun v ys H2 d2 P2 py ⟨p, vs, ev, ne, hp, hu⟩ => ⟨p, vs, by rw [ev], SqL.of hp, fun l' o hl' ho => q _ ys _ (d2.trans (toD (Same.new hl'))) (P2.same (Same.new hl')) py ⟨l', vs, o, rfl, upd_same, ho, R.us_up (Same.T (Same.new hl')) hu⟩⟩)
/-! statements -/
theorem ss_setD {i : Nat} {py s1 : Pos} {n' : Str} (h : EvD X e σ H l n k r post) (P : Pot l n H) (kk : ∀ v y H1, DL l H H1 → Pot l (n + k) H1 → post y → r.rel H1 v y → wpSs X rest D (σ.set i (some v)) H1) (hN : X.N.Nodup) (hi : X.N[i]? = some n' := by rfl) (hx : Loc X.env.scope n' := by first | exact Or.inl rfl | exact Or.inr rfl) (hs : swapsWith e (some (.Name n' py)) s1.line X.env = pure false := by rfl)
    (hf : X.fn n' = true ∨ X.env.scope.names.lookup n' = some .local := by first | exact .inl rfl | exact .inr rfl) : wpSs X (.Assign [.Name n' py] e s1 :: rest) D σ H := ss_setW (h H (DL.refl l H) P _ fun v y H1 d P1 py rv => kk v y H1 d P1 py rv) hN hi hx hs hf
theorem ss_retD {s1 : Pos} (h : EvD X e σ H l n k r post) (P : Pot l n H) (kk : ∀ v y H1, DL l H H1 → Pot l (n + k) H1 → post y → r.rel H1 v y → D.rt v H1) : wpSs X (.Return (some e) s1 :: rest) D σ H := ss_cons (wpS_of (ps_ret wpE_pe) (h H (DL.refl l H) P _ fun v y H1 d P1 py rv => kk v y H1 d P1 py rv))
theorem ss_ifW {th el : List Stmt} {s1 : Pos} (h : wpT X c σ H fun b H1 => if b = true then wpSs X th { D with nx := wpSs X rest D } σ H1 else wpSs X el { D with nx := wpSs X rest D } σ H1) : wpSs X (.If c th el s1 :: rest) D σ H :=
  ss_cons (wpS_of (ps_if wpT_pt wpSs_pss wpSs_pss) h)
/-- x, y = a, b -/
theorem ss_parD {i j : Nat} {x y : Str} {px py pt pt2 s1 : Pos} {kt kk2 : Nat} (st : Stays l r) (ha : EvD X a σ H l n k1 r post) (hb : EvD X b σ H l (n + k1) k2 t post') (P : Pot l n H)
    (kk : ∀ v w z u H1, DL l H H1 → Pot l (n + (k1 + k2)) H1 → post z → post' u → r.rel H1 v z → t.rel H1 w u → wpSs X rest D ((σ.set i (some v)).set j (some w)) H1) (hc : X.calm = true) (hN : X.N.Nodup) (hij : i ≠ j) (hi : X.N[i]? = some x := by rfl) (hj : X.N[j]? = some y := by rfl)
    (hx : X.env.scope.names.lookup x = some .local := by rfl) (hy : X.env.scope.names.lookup y = some .local := by rfl) (hw : swappedStores [.Tuple [.Name x px, .Name y py] kt pt] (.Tuple [a, b] kk2 pt2) X.env = pure (some [x, y]) := by rfl)
    (hs : swapsWithSole [.Tuple [.Name x px, .Name y py] kt pt] (.Tuple [a, b] kk2 pt2) s1.line X.env = pure false := by rfl)
    (he : starEach [a, b] X.env = (false, eval a X.env) :: starEach [b] X.env := by rfl) (he2 : starEach [b] X.env = (false, eval b X.env) :: starEach [] X.env := by rfl) :
    wpSs X (.Assign [.Tuple [.Name x px, .Name y py] kt pt] (.Tuple [a, b] kk2 pt2) s1 :: rest) D σ H :=
  ss_par (wpA_of (pa_cons wpE_pe (pa_cons wpE_pe pa_nil he2) he) (ha H (DL.refl l H) P _ fun v z H1 d1 P1 pz rv => hb H1 d1 P1 _ fun w u H2 d2 P2 pu rw => ⟨v, w, rfl, kk v w z u H2 (d1.trans d2) (P2.mono (by omega)) pz pu (st _ _ _ _ _ P1 d2 rv) rw⟩)) hc hN hij hi hj hx hy hw hs
end
end LK
set_option maxHeartbeats 4000000
namespace LK
open PySem PySem.Spec PyProof.Rows L2
section
variable {α β γ ι κ : Type} {X : Cx} {e a b c : Expr} {es : List Expr} {σ : L2.St} {H H' : Hp} {l : Addr} {n k k1 k2 : Nat} {pos p : Pos} {nm : Str} {rest : List Stmt} {D : Ends}
variable {r : RS α} {t : RS β} {post : α → Prop} {post' : β → Prop}
theorem ead_last {po : α → Prop} (h : EvD X e σ H l n k r po) (hs : starEach [e] X.env = (false, eval e X.env) :: starEach [] X.env := by rfl) : EvAD X [e] σ H l n k (aConsS r aNil) (fun z => po z.1) := fun H1 d P Q q =>
  wpA_of (pa_cons wpE_pe pa_nil hs) (h H1 d P _ fun v y H2 d2 P2 py rv => q [v] (y, ()) H2 d2 P2 py ⟨v, [], rfl, rv, rfl⟩)
theorem ed_nat {po : Int → Prop} {p' : Nat → Prop} (h : EvD X e σ H l n k rInt.s po) (f : ∀ z, po z → ∃ m : Nat, z = (m : Int) ∧ p' m) : EvD X e σ H l n k rNat.s p' := ed_to h fun H v y py rv => by
  obtain ⟨m, e, hm⟩ := f y py
  exact ⟨m, hm, by rw [e] at rv; exact rv⟩
theorem ed_int {po : Nat → Prop} (h : EvD X e σ H l n k rNat.s po) : EvD X e σ H l n k rInt.s (fun z => ∃ m : Nat, po m ∧ z = (m : Int)) := ed_to h fun H v y py rv => ⟨(y : Int), ⟨y, py, rfl⟩, rv⟩
theorem ed_lst {r : R α} {po : List α → Prop} (h : EvD X e σ H l n k (rLstN l r) po) : EvD X e σ H l n k (rLst r) po := ed_to h fun H v y py ⟨p, vs, a, ne, b, c⟩ => ⟨y, py, p, vs, a, b, c⟩
/-- a call of a def that does not draw -/
theorem ed_callF {k0 : Nat} {A : RA ι} {t : R β} {pre : ι → Prop} {f : ι → β} {p1 : ι → Prop} (C : Cal X.prog X.w X.K X.mg X.base k0 nm (SpF A pre t f)) (hr : Room k0 X.A) (ha : EvAD X (e :: es) σ H l n k A p1) (hp : ∀ i, p1 i → pre i)
    (hg : Gl X nm := by rfl) (hdb : (nm == ("__debug__" : Str)) = false := by decide) (he : starEach (e :: es) X.env = (false, eval e X.env) :: starEach es X.env := by rfl) (hpl : (backTo pos (starEach es X.env)).any (·.1) = false := by rfl) :
    EvD X (.Call (.Name nm p) (e :: es) [] pos) σ H l n k t.s (fun y => ∃ i, p1 i ∧ y = f i) := fun H1 d P Q q =>
  wp_call C hr (ha H1 d P _ fun vs i H2 d2 P2 pi ra => ⟨i, ra, hp i pi, fun v H3 s3 rv => q v (f i) H3 (d2.trans (toD s3)) (P2.same s3) ⟨i, pi, rfl⟩ rv⟩) hg hdb he hpl
/-! plain parts among drawn ones -/
theorem ed_nm {x : α} (i : Nat) {v : V} {n' : Str} (h : σ[i]? = some (some v)) (hv : r.rel H v x) (st : Stays l r) (P0 : ∃ m, Pot l m H) (hN : X.N[i]? = some n' := by rfl) (hvi : Vis X.env.scope n' := by first | exact Or.inl rfl | exact Or.inr (Or.inl rfl) | exact Or.inr (Or.inr rfl)) (hd : (n' == ("__debug__" : Str)) = false := by decide)
    (hcd : (n' == ("__classdict__" : Str)) = false := by decide) : EvD X (.Name n' pos) σ H l n k r (fun y => y = x) := ed_of (fun H1 d P => ev_nmS i h (P0.elim fun m P0 => st m H H1 v x P0 d hv) hN hvi hd hcd) rfl
theorem ed_ci {i : Int} {j : Nat} : EvD X (.Constant (.int i) j pos) σ H l n k rInt.s (fun y => y = i) := ed_of (fun H1 d P => ev_int) rfl
theorem ed_cs {z : Str} {j : Nat} : EvD X (.Constant (.str z) j pos) σ H l n k rStr.s (fun y => y = z) := ed_of (fun H1 d P => ev_str) rfl
/-- len(x), x a list that is not the pot -/
theorem ed_lenL (i : Nat) {q : Addr} {vs : List V} {m : Nat} {n' : Str} {pn : Pos} (h : σ[i]? = some (some (.ref q))) (hq : H q = some (.lst vs)) (ne : q ≠ l) (hl : vs.length = m) (hm : X.mg "len" = none) (hN : X.N[i]? = some n' := by rfl) (hvi : Vis X.env.scope n' := by first | exact Or.inl rfl | exact Or.inr (Or.inl rfl) | exact Or.inr (Or.inr rfl)) (hd : (n' == ("__debug__" : Str)) = false := by decide)
    (hcd : (n' == ("__classdict__" : Str)) = false := by decide) (hg : Gl X "len" := by rfl) (he : starEach [.Name n' pn] X.env = (false, eval (.Name n' pn) X.env) :: starEach [] X.env := by rfl) (hpl : (backTo pos (starEach [] X.env)).any (·.1) = false := by rfl) : EvD X (.Call (.Name "len" p) [.Name n' pn] [] pos) σ H l n k rNat.s (fun y => y = m) :=
  ed_of (fun H1 d P => ev_lenK hm (ev_nm (r := rVal) i h rfl hN hvi hd hcd) (d _ _ hq ne) hl hg he hpl) rfl
/-- len(x), x a tuple -/
theorem ed_lenT {r : R α} {xs : List α} (i : Nat) {v : V} {n' : Str} {pn : Pos} (h : σ[i]? = some (some v)) (hv : (rTup r).rel H v xs) (P0 : ∃ m, Pot l m H) (hm : X.mg "len" = none) (hN : X.N[i]? = some n' := by rfl) (hvi : Vis X.env.scope n' := by first | exact Or.inl rfl | exact Or.inr (Or.inl rfl) | exact Or.inr (Or.inr rfl)) (hd : (n' == ("__debug__" : Str)) = false := by decide)
    (hcd : (n' == ("__classdict__" : Str)) = false := by decide) (hg : Gl X "len" := by rfl) (he : starEach [.Name n' pn] X.env = (false, eval (.Name n' pn) X.env) :: starEach [] X.env := by rfl) (hpl : (backTo pos (starEach [] X.env)).any (·.1) = false := by rfl) : EvD X (.Call (.Name "len" p) [.Name n' pn] [] pos) σ H l n k rNat.s (fun y => y = xs.length) :=
  ed_of (fun H1 d P => ev_lenT hm (ev_nm i h (P0.elim fun m P0 => (rTup r).up (d.T P0) hv) hN hvi hd hcd) hg he hpl) rfl
theorem op_sub' {X : Cx} : OpR X (binaryOp .Sub) (rI (fun _ _ => True) fun i j => .int (i - j)) := fun pins s σ H x y v u Q I rx ry ⟨i, j, e1, e2, _, q⟩ => op_sub pins s σ H x y v u Q I rx ry ⟨i, j, e1, e2, q⟩
theorem ed_addE {i j : Int} (ha : EvD X a σ H l n k1 rInt.s (fun y => y = i)) (hb : EvD X b σ H l (n + k1) k2 rInt.s (fun y => y = j)) : EvD X (.BinOp a .Add b pos) σ H l n (k1 + k2) rInt.s (fun y => y = i + j) := ed_wk (ed_op op_add' (fun _ _ _ _ => trivial) ha hb) (Nat.le_refl _) fun y ⟨i', j', e1, e2, e3⟩ => by rw [e3, e1, e2]
theorem ed_subE {i j : Int} (ha : EvD X a σ H l n k1 rInt.s (fun y => y = i)) (hb : EvD X b σ H l (n + k1) k2 rInt.s (fun y => y = j)) : EvD X (.BinOp a .Sub b pos) σ H l n (k1 + k2) rInt.s (fun y => y = i - j) := ed_wk (ed_op op_sub' (fun _ _ _ _ => trivial) ha hb) (Nat.le_refl _) fun y ⟨i', j', e1, e2, e3⟩ => by rw [e3, e1, e2]
theorem ed_intE {m : Nat} (h : EvD X e σ H l n k rNat.s (fun y => y = m)) : EvD X e σ H l n k rInt.s (fun y => y = (m : Int)) := ed_wk (ed_int h) (Nat.le_refl _) fun y ⟨m', e1, e2⟩ => by rw [e2, e1]
theorem ed_natE {i : Int} {m : Nat} (h : EvD X e σ H l n k rInt.s (fun y => y = i)) (hm : i = (m : Int)) : EvD X e σ H l n k rNat.s (fun y => y = m) := ed_nat h fun z e => ⟨m, by rw [e, hm], rfl⟩
/-- a pool of texts: a list that is not the pot, or a tuple -/
def rPool (l : Addr) : RS (List Str) := ⟨fun H v xs => (∃ p, v = .ref p ∧ p ≠ l ∧ H p = some (.lst (xs.map V.str))) ∨ (rTup rStr).rel H v xs, fun e h => by
  rcases h with ⟨p, a, ne, b⟩ | h
  · exact .inl ⟨p, a, ne, e _ _ b⟩
  · exact .inr ((rTup rStr).up (Same.T e) h)⟩
theorem rPool.stays : Stays l (rPool l) := fun m H H' v x P d h => by
  rcases h with ⟨p, a, ne, b⟩ | h
  · exact .inl ⟨p, a, ne, d _ _ b ne⟩
  · exact .inr ((rTup rStr).up (d.T P) h)
theorem el_listP {xs : List Str} (hm : X.mg "list" = none) (ha : EvS X a σ H (rPool l) xs) (hg : Gl X "list" := by rfl) (he : starEach [a] X.env = (false, eval a X.env) :: starEach [] X.env := by rfl) (hpl : (backTo pos (starEach [] X.env)).any (·.1) = false := by rfl) :
    EvL X (.Call (.Name "list" p) [a] [] pos) σ H rStr xs := fun H1 s Q q =>
  wpE_of (pe_callTy call_list_of hg hm (by decide +kernel) (pa_cons wpE_pe pa_nil he) (by decide) (by decide) he hpl) (ha H1 s _ fun v H2 s2 h => by
    rcases h with ⟨p, ev, ne, hp⟩ | ⟨p, vs, ev, hp, hu⟩
    · exact ⟨p, xs.map V.str, by rw [ev], .inl (SqL.of hp), fun l' hl => q l' _ _ (none_of_same s2 hl) (s2.trans (Same.new hl)) upd_same (str_us _)⟩
    · exact ⟨p, vs, by rw [ev], .inr (.inl hp), fun l' hl => q l' vs _ (none_of_same s2 hl) (s2.trans (Same.new hl)) upd_same (R.us_up (Same.T (Same.new hl)) hu)⟩)
theorem seqIx {i n : Nat} (h : i < n) : seqIndex? (i : Int) n = some i := by
  unfold seqIndex?
  have h1 : ¬ ((i : Int) < 0) := by omega
  simp [h1, h]
/-- l.append(m.pop(draw)) as a statement -/
theorem ss_appPop {q f : Addr} {vq vf : List V} {ap ap2 s1 pos2 : Pos} (hq : H q = some (.lst vq)) (hf : H f = some (.lst vf)) (P : Pot l n H) (nql : q ≠ l) (nfl : f ≠ l) (nqf : f ≠ q) (hz : vf.length < 100000) (hm : vq.length ≤ 100000) (ha : Ev X a σ H rVal (.ref f)) (hb : Ev X b σ H rVal (.ref q))
    (he : EvD X e σ H l n k rNat.s (fun y => y < vq.length)) (kk : ∀ i H1 (hi : i < vq.length), DL l H H1 → Pot l (n + k) H1 → wpSs X rest D σ (upd (upd H1 q (.lst (vq.eraseIdx i))) f (.lst (vf ++ [vq[i]]))))
    (hba : attributeBase a "append" X.env (eval a X.env) = eval a X.env := by rfl) (hbb : attributeBase b "pop" X.env (eval b X.env) = eval b X.env := by rfl)
    (hfew : ((backTo pos (starEach [.Call (.Attribute b "pop" ap2) [e] [] pos2] X.env)).all (fun x => !x.1) && (backToKw pos (keywordEach [] X.env)).all (fun x => x.1.isSome) && decide (([.Call (.Attribute b "pop" ap2) [e] [] pos2] : List Expr).length + ([] : List Keyword).length + (if ([] : List Keyword).isEmpty then 0 else 1) < 30)) = true := by rfl)
    (hfew2 : ((backTo pos2 (starEach [e] X.env)).all (fun x => !x.1) && (backToKw pos2 (keywordEach [] X.env)).all (fun x => x.1.isSome) && decide (([e] : List Expr).length + ([] : List Keyword).length + (if ([] : List Keyword).isEmpty then 0 else 1) < 30)) = true := by rfl)
    (hline : (ap.endLine == pos.line) = true := by rfl) (hline2 : (ap2.endLine == pos2.line) = true := by rfl)
    (hs : starEach [.Call (.Attribute b "pop" ap2) [e] [] pos2] X.env = (false, eval (.Call (.Attribute b "pop" ap2) [e] [] pos2) X.env) :: starEach [] X.env := by rfl) (hpl : (backTo pos (starEach [] X.env)).any (·.1) = false := by rfl)
    (hs2 : starEach [e] X.env = (false, eval e X.env) :: starEach [] X.env := by rfl) (hpl2 : (backTo pos2 (starEach [] X.env)).any (·.1) = false := by rfl)
    (hsw : swapsWith (.Call (.Attribute a "append" ap) [.Call (.Attribute b "pop" ap2) [e] [] pos2] [] pos) none s1.line X.env = pure false := by rfl) :
    wpSs X (.Expr (.Call (.Attribute a "append" ap) [.Call (.Attribute b "pop" ap2) [e] [] pos2] [] pos) s1 :: rest) D σ H :=
  ss_expr (wpE_of (pe_bm PySem.F.plainAttrs_list PySem.F.slot_list_append PySem.F.type_list_append mt_append wpE_pe (pa_cons (pe_bm PySem.F.plainAttrs_list PySem.F.slot_list_pop PySem.F.type_list_pop mt_popAt wpE_pe (pa_cons wpE_pe pa_nil hs2) hbb hfew2 hline2 hs2 hpl2) pa_nil hs) hba hfew hline hs hpl) (ha H (Same.refl H) _ fun v H2 s2 rv => by
    have rv : v = .ref f := rv
    subst rv
    refine ⟨.inl ⟨rfl, _, SqL.of (s2 _ _ hf)⟩, hb H2 s2 _ fun w H3 s3 rw' => ?_⟩
    have rw' : w = .ref q := rw'
    subst rw'
    have s23 := s2.trans s3
    refine ⟨.inl ⟨rfl, _, SqL.of (s23 _ _ hq)⟩, he H3 (toD s23) (P.same s23) _ fun w2 i H4 d4 P4 hi ri => ?_⟩
    have ri : w2 = .int (i : Int) := ri
    subst ri
    have hq4 := d4 _ _ (s23 _ _ hq) nql
    have hf4 := d4 _ _ (s23 _ _ hf) nfl
    refine ⟨q, vq, (i : Int), i, vq[i], rfl, rfl, hq4, by omega, by omega, seqIx hi, List.getElem?_eq_getElem hi, ?_⟩
    exact ⟨f, vf, vq[i], rfl, rfl, by rw [upd_ne nqf]; exact hf4, sz_lt hz, kk i H4 hi ((toD s23).trans d4) P4⟩)) hsw
theorem ed_natE' {po : Int → Prop} {p' : Nat → Prop} (h : EvD X e σ H l n k rInt.s po) (f : ∀ z, po z → ∃ m : Nat, z = (m : Int) ∧ p' m) : EvD X e σ H l n k rNat.s p' := ed_nat h f
/-- a test that draws -/
def EvDT (X : Cx) (e : Expr) (σ : L2.St) (H : Hp) (l : Addr) (n k : Nat) : Prop := ∀ H1, DL l H H1 → Pot l n H1 → ∀ Q : Bool → Hp → Prop, (∀ b H2, DL l H1 H2 → Pot l (n + k) H2 → Q b H2) → wpT X e σ H1 Q
/-- a == i, a a drawn number -/
theorem ed_eqI {po : Int → Prop} {i : Int} {j : Nat} {pc : Pos} (h : EvD X a σ H l n k rInt.s po) : EvDT X (.Compare a [.Eq] [.Constant (.int i) j pc] pos) σ H l n k := fun H1 d P Q q =>
  wpT_of (pt_cmpR op_eq wpE_pe pe_int (nomark _)) (h H1 d P _ fun v y H2 d2 P2 py rv => by
    have rv : v = .int y := rv
    subst rv
    exact ⟨rfl, _, rfl, q _ H2 d2 P2⟩)
theorem ed_ifD (hc : EvDT X c σ H l n k1) (ha : EvD X a σ H l (n + k1) k2 r post) (hb : EvD X b σ H l (n + k1) k2 r post) : EvD X (.IfExp c a b pos) σ H l n (k1 + k2) r post := fun H1 d P Q q =>
  wpE_of (pe_ifExp wpT_pt wpE_pe wpE_pe) (hc H1 d P _ fun t H2 d2 P2 => by
    cases t with
    | true => exact iteT (ha H2 (d.trans d2) P2 Q fun v y H3 d3 P3 py rv => q v y H3 (d2.trans d3) (P3.mono (by omega)) py rv)
    | false => exact iteF (hb H2 (d.trans d2) P2 Q fun v y H3 d3 P3 py rv => q v y H3 (d2.trans d3) (P3.mono (by omega)) py rv))
/-- if on a drawn test -/
theorem ss_ifD {th el : List Stmt} {s1 : Pos} (h : EvDT X c σ H l n k) (P : Pot l n H) (h1 : ∀ H1, DL l H H1 → Pot l (n + k) H1 → wpSs X th { D with nx := wpSs X rest D } σ H1) (h2 : ∀ H1, DL l H H1 → Pot l (n + k) H1 → wpSs X el { D with nx := wpSs X rest D } σ H1) : wpSs X (.If c th el s1 :: rest) D σ H :=
  ss_ifW (h H (DL.refl l H) P _ fun b H1 d1 P1 => by
    cases b with
    | true => exact iteT (h1 H1 d1 P1)
    | false => exact iteF (h2 H1 d1 P1))
end
end LK
set_option maxHeartbeats 4000000
namespace LK
open PySem PySem.Spec PyProof.Rows L2
section
variable {α β γ ι κ : Type} {X : Cx} {e a b c iter elt tg : Expr} {es : List Expr} {σ : L2.St} {H H' : Hp} {l : Addr} {n k k1 k2 : Nat} {pos p : Pos} {nm : Str} {rest : List Stmt} {D : Ends} {scope : Scope}
/-! ### walks that look at no object -/
structure WalkFree (J : It) (r : R α) (xs : List α) : Prop where
  goes : ∀ i Ha, i < xs.length → J.go i Ha
  stops : ∀ Ha, J.stop xs.length Ha
  yields : ∀ i Ha v Hb, i < xs.length → J.yld i Ha v Hb → Same Ha Hb ∧ ∃ x, xs[i]? = some x ∧ r.rel Hb v x
def EvIF (X : Cx) (tg iter : Expr) (σ : L2.St) (H : Hp) (l : Addr) (n k : Nat) (r : R α) (post : List α → Prop) : Prop := ∀ H1, DL l H H1 → Pot l n H1 → ∀ Rr : It → Hp → Prop, (∀ J xs H2, DL l H1 H2 → Pot l (n + k) H2 → post xs → WalkFree J r xs → Rr J H2) → wpI X tg iter σ H1 Rr
theorem eif_range {po : Int → Prop} {pp : Nat → Prop} (h : EvD X a σ H l n k rInt.s po) (hpo : ∀ z, po z → ∃ m : Nat, z = (m : Int) ∧ m ≤ 1000 ∧ pp m) (hm : X.mg "range" = none) (hg : Gl X "range" := by rfl) (hs : starEach [a] X.env = [(false, eval a X.env)] := by rfl) :
    EvIF X tg (.Call (.Name "range" p) [a] [] pos) σ H l n k rNat (fun xs => ∃ m, pp m ∧ xs = List.range m) := fun H1 d P Rr q =>
  wpI_of (pi_range1 hg hm (pa_cons wpE_pe pa_nil hs) hs) (h H1 d P _ fun v z H2 d2 P2 pz rv => by
    obtain ⟨m, rfl, hm, hp⟩ := hpo z pz
    have rv : v = .int (m : Int) := rv
    subst rv
    refine ⟨(m : Int), rfl, by omega, by omega, q _ (List.range m) H2 d2 P2 ⟨m, hp, rfl⟩ ⟨fun i Ha hi => walk_range.goes i Ha (by simpa using hi) trivial, fun Ha => walk_range.stops Ha trivial |> fun z => by simpa using z, fun i Ha v Hb hi y => ?_⟩⟩
    have hi' : i < m := by simpa using hi
    obtain ⟨e1, e3⟩ := walk_range.yields i Ha v Hb (by simpa using hi) trivial y
    subst e1
    exact ⟨Same.refl _, i, List.getElem?_range hi', by show v = V.int i; rw [e3]; show V.int (0 + (i : Int)) = _; rw [Int.zero_add]⟩)
theorem eif_str {po : Str → Prop} (h : EvD X e σ H l n k rStr.s po) (hi : PI X tg e (iStr (wpE X e)) := by exact pi_str wpE_pe) : EvIF X tg e σ H l n k rStr (fun xs => ∃ z, po z ∧ xs = signs z) := fun H1 d P Rr q =>
  wpI_of hi (h H1 d P _ fun v z H2 d2 P2 pz rv => ⟨z, rv, q _ (signs z) H2 d2 P2 ⟨z, pz, rfl⟩ ⟨fun i Ha hi => walk_str.goes i Ha (by rw [← signs_length]; exact hi) trivial, fun Ha => by rw [signs_length]; exact walk_str.stops Ha trivial, fun i Ha v Hb hi y => by
      obtain ⟨e1, c, e2, e3⟩ := walk_str.yields i Ha v Hb (by rw [← signs_length]; exact hi) trivial y
      subst e1
      exact ⟨Same.refl _, _, signs_get e2, e3⟩⟩⟩)
/-- [elt for y in iter], elt draws -/
theorem ed_lc1 {r : R α} {t : R β} {y : Str} {py : Pos} {j M cc : Nat} {post : List α → Prop} {p2 : β → Prop} (hc : X.calm = true) (hN : X.N.Nodup) (ok : BlkOk X.N X.env.scope scope [(y, j)]) (hi : EvIF X (.Name y py) iter σ H l n k r post) (hM : ∀ xs, post xs → xs.length ≤ M) (hM2 : M ≤ 1000)
    (he : ∀ v x H1 m, DL l H H1 → Pot l m H1 → m + cc ≤ n + (k + M * cc) → r.rel H1 v x → ∀ s H0 C cl fp, EvD (Blk X scope s H0 C cl fp) elt ((σ.set j none).set j (some v)) H1 l m cc t.s p2)
    (hj : X.N[j]? = some y := by rfl) (hl : scope.names.lookup y = some .local := by rfl) (hs : ∀ x, foldedSetIterable iter X.env x = pure x := by intro _; rfl) :
    EvD X (.ListComp elt [⟨.Name y py, iter, [], 0⟩] scope pos) σ H l n (k + M * cc) (rLstN l t) (fun ys => (∃ xs, post xs ∧ ys.length = xs.length) ∧ ∀ y ∈ ys, p2 y) := fun H1 d P Q q => by
  refine wpE_of (pe_lc (tt := wpFB X scope []) (te := wpEB X scope elt) hc hN wpI_pi ok (fun s H C cl fp => pg_name hN hj (.inl (blk_local hl)) (.inr (blk_local hl))) (fun s H C cl fp => ⟨fun pins s' σ H' Q I h => (h s H C cl fp).run pins s' I⟩) (fun s H C cl fp => ⟨fun pins s' σ H' Q I h => (h s H C cl fp).run pins s' I⟩) hs) ?_
  refine hi H1 d P _ fun J xs H2 d2 P2 hp wk => fun Dd hD => ?_
  have nDl : Dd ≠ l := P2.ne hD
  have hxM := hM xs hp
  refine lc_it (n := xs.length) (G := fun _ => True) (Y := fun i Ha v Hb => Same Ha Hb ∧ ∃ x, xs[i]? = some x ∧ r.rel Hb v x)
    ⟨fun i Ha hi _ => wk.goes i Ha hi, fun Ha _ => wk.stops Ha, fun i Ha v Hb hi _ y => wk.yields i Ha v Hb hi y⟩
    (fun i Hh => DL l H2 Hh ∧ Pot l (n + k + i * cc) Hh ∧ ∃ vs ys, Hh Dd = some (.lst vs) ∧ t.us Hh vs ys ∧ ys.length = i ∧ ∀ y ∈ ys, p2 y) ⟨DL.new hD, (by rw [Nat.zero_mul]; exact P2.upd nDl), [], [], upd_same, .nil, rfl, fun _ h => by cases h⟩ (fun i Ha _ _ => trivial) ?_ ?_
  · rintro i v Ha Hb hlt ⟨dA, PA, vs, ys, hv, us, hyl, hyp⟩ ⟨sAB, x, hx, rx⟩
    refine ⟨set_set_none, fun s' H0 C cl fp => ef_nil Hb (Same.refl _) _ fun H3 s4 => ?_⟩
    refine iteT fun s' H0 C cl fp => ?_
    have PB := PA.same sAB
    have P3 := PB.same s4
    have hle : (i + 1) * cc ≤ M * cc := Nat.mul_le_mul_right cc (by omega)
    rw [Nat.succ_mul] at hle
    refine (he v x Hb (n + k + i * cc) (((d.trans d2).trans dA).trans (toD sAB)) PB (by omega) rx s' H0 C cl fp) H3 (toD s4) P3 _ fun v' y' H4 d5 P5 py rv => ?_
    have hD3 : H3 Dd = some (.lst vs) := s4 _ _ (sAB _ _ hv)
    have hD4 : H4 Dd = some (.lst vs) := d5 _ _ hD3 nDl
    have tAll : SameT Ha (upd H4 Dd (.lst (vs ++ [v']))) := ((Same.T (sAB.trans s4)).trans (d5.T P3)).trans (SameT.upd hD4)
    refine ⟨vs, hD4, sz_lt (by rw [us_length us]; omega), ?_, ?_, vs ++ [v'], ys ++ [y'], upd_same, paired_append (R.us_up tAll us) (.cons (t.up (SameT.upd hD4) rv) .nil), by simp [hyl], fun z hz => ?_⟩
    · exact DL.mutN (dA.trans ((toD (sAB.trans s4)).trans d5)) hD
    · exact (P5.upd nDl).mono (by rw [Nat.succ_mul]; omega)
    · rcases List.mem_append.mp hz with h | h
      · exact hyp z h
      · simp at h; rw [h]; exact py
  · rintro Ha ⟨dA, PA, vs, ys, hv, us, hyl, hyp⟩
    have hle : xs.length * cc ≤ M * cc := Nat.mul_le_mul_right cc hxM
    exact q _ ys Ha (d2.trans dA) (PA.mono (by omega)) ⟨⟨xs, hp, hyl⟩, hyp⟩ ⟨Dd, vs, rfl, nDl, hv, us⟩
/-! ### pairs, unpacking -/
theorem ed_pair {r : R α} {t : R β} {pa : α → Prop} {pb : β → Prop} {x1} (ha : EvD X a σ H l n k1 r.s pa) (hb : EvD X b σ H l (n + k1) k2 t.s pb) (hs : starEach [a, b] X.env = (false, eval a X.env) :: starEach [b] X.env := by rfl) (hs2 : starEach [b] X.env = (false, eval b X.env) :: starEach [] X.env := by rfl) :
    EvD X (.Tuple [a, b] x1 pos) σ H l n (k1 + k2) (rPair r t).s (fun z => pa z.1 ∧ pb z.2) := fun H1 d P Q q =>
  wpE_of (pe_tup (pa_cons wpE_pe (pa_cons wpE_pe pa_nil hs2) hs)) (ha H1 d P _ fun v x H2 d2 P2 px rv => hb H2 (d.trans d2) P2 _ fun w y H3 d3 P3 py rw => ⟨sz_of (by simp), fun p hp =>
    q _ (x, y) _ ((d2.trans d3).trans (toD (Same.new hp))) (((P3.same (Same.new hp))).mono (by omega)) ⟨px, py⟩ ⟨p, v, w, rfl, upd_same, r.up ((d3.T P2).trans (Same.T (Same.new hp))) rv, t.up (Same.T (Same.new hp)) rw⟩⟩)
theorem ss_unpackD {r : R α} {r' : R β} {post : α × β → Prop} {i j : Nat} {x y : Str} {px py pt s1 : Pos} {kt : Nat} (h : EvD X e σ H l n k (rPair r r').s post) (P : Pot l n H) (kk : ∀ v w xy H1, DL l H H1 → Pot l (n + k) H1 → post xy → r.rel H1 v xy.1 → r'.rel H1 w xy.2 → wpSs X rest D ((σ.set i (some v)).set j (some w)) H1) (hc : X.calm = true) (hN : X.N.Nodup) (hi : X.N[i]? = some x := by rfl) (hj : X.N[j]? = some y := by rfl)
    (hx : Loc X.env.scope x := by first | exact Or.inl rfl | exact Or.inr rfl) (hy : Loc X.env.scope y := by first | exact Or.inl rfl | exact Or.inr rfl) (hs : swapsWithSole [.Tuple [.Name x px, .Name y py] kt pt] e s1.line X.env = pure false := by rfl) (hw : swappedStores [.Tuple [.Name x px, .Name y py] kt pt] e X.env = pure none := by rfl)
    (hf1 : X.fn x = true ∨ X.env.scope.names.lookup x = some .local := by first | exact .inl rfl | exact .inr rfl) (hf2 : X.fn y = true ∨ X.env.scope.names.lookup y = some .local := by first | exact .inl rfl | exact .inr rfl)
    (h1 : (assignEach [.Tuple [.Name x px, .Name y py] kt pt] X.env).map (·.2) = [assign (.Tuple [.Name x px, .Name y py] kt pt) X.env] := by rfl) : wpSs X (.Assign [.Tuple [.Name x px, .Name y py] kt pt] e s1 :: rest) D σ H :=
  ss_cons (wpS_of (ps_asg wpE_pe (pg_tup hc (pgs_cons (pg_name hN hi hx hf1) (pgs_cons (pg_name hN hj hy hf2) pgs_nil))) hs hw h1) (h H (DL.refl l H) P _ fun v xy H1 d1 P1 pxy ⟨T, v1, v2, ev, hT, r1, r2⟩ => ⟨T, [v1, v2], ev, SqT.of hT, rfl, v1, [v2], rfl, v2, [], rfl, rfl, kk v1 v2 xy H1 d1 P1 pxy r1 r2⟩))
/-! ### values of drawn tests, joins -/
theorem ed_eqV {po : Int → Prop} {i : Int} {j : Nat} {pc : Pos} (h : EvD X a σ H l n k rInt.s po) : EvD X (.Compare a [.Eq] [.Constant (.int i) j pc] pos) σ H l n k rBool.s (fun _ => True) := fun H1 d P Q q =>
  wpE_of (pe_cmpR op_eq wpE_pe pe_int (nomark _)) (h H1 d P _ fun v y H2 d2 P2 py rv => by
    have rv : v = .int y := rv
    subst rv
    exact ⟨rfl, q _ _ H2 d2 P2 trivial rfl⟩)
theorem ed_intB {po : Bool → Prop} (hm : X.mg "int" = none) (h : EvD X a σ H l n k rBool.s po) (hg : Gl X "int" := by rfl) (he : starEach [a] X.env = (false, eval a X.env) :: starEach [] X.env := by rfl) (hpl : (backTo pos (starEach [] X.env)).any (·.1) = false := by rfl) :
    EvD X (.Call (.Name "int" p) [a] [] pos) σ H l n k rInt.s (fun z => z = 0 ∨ z = 1) := fun H1 d P Q q =>
  wpE_of (pe_callTy call_int1 hg hm (by decide +kernel) (pa_cons wpE_pe pa_nil he) (by decide) (by decide) he hpl) (h H1 d P _ fun v y H2 d2 P2 py rv => .inr ⟨y, by rw [show v = _ from rv], q _ (if y then 1 else 0) H2 d2 P2 (by cases y <;> simp) (by cases y <;> rfl)⟩)
theorem ed_joinL {w : Str} {po : List Str → Prop} {ap : Pos} {j : Nat} {pw : Pos} (hz : ∀ ys, po ys → (ys.map (·.length)).sum + ys.length * w.length ≤ 16777216) (hb : EvD X b σ H l n k (rLstN l rStr) po) (hs : starEach [b] X.env = [(false, eval b X.env)] := by rfl) (hbase : attributeBase (.Constant (.str w) j pw) "join" X.env (eval (.Constant (.str w) j pw) X.env) = eval (.Constant (.str w) j pw) X.env := by rfl) (hline : (ap.endLine == pos.line) = true := by rfl) :
    EvD X (.Call (.Attribute (.Constant (.str w) j pw) "join" ap) [b] [] pos) σ H l n k rStr.s (fun z => ∃ ys, po ys ∧ z = Txt.join w ys) := fun H1 d P Q q =>
  wpE_of (pe_join pe_str wpE_pe hs hbase hline) ⟨⟨w, rfl⟩, hb H1 d P _ fun v ys H2 d2 P2 py ⟨p, vs, ev, ne, hp, hu⟩ => ⟨w, p, ys, rfl, by rw [ev], .inl (by rw [← us_str hu]; exact SqL.of hp), hz ys py, q _ _ H2 d2 P2 ⟨ys, py, rfl⟩ rfl⟩⟩
/-! ### statements on lists that are not the pot -/
theorem ss_appD {r : R α} {post : α → Prop} {q : Addr} {vs : List V} {ap s1 : Pos} (hl : H q = some (.lst vs)) (P : Pot l n H) (ne : q ≠ l) (hz : vs.length < 100000) (ha : Ev X a σ H rVal (.ref q)) (he : EvD X e σ H l n k r.s post) (kk : ∀ v y H1, DL l H H1 → Pot l (n + k) H1 → post y → r.rel H1 v y → wpSs X rest D σ (upd H1 q (.lst (vs ++ [v]))))
    (hb : attributeBase a "append" X.env (eval a X.env) = eval a X.env := by rfl)
    (hfew : ((backTo pos (starEach [e] X.env)).all (fun x => !x.1) && (backToKw pos (keywordEach [] X.env)).all (fun x => x.1.isSome) && decide (([e] : List Expr).length + ([] : List Keyword).length + (if ([] : List Keyword).isEmpty then 0 else 1) < 30)) = true := by rfl)
    (hline : (ap.endLine == pos.line) = true := by rfl) (hs : starEach [e] X.env = (false, eval e X.env) :: starEach [] X.env := by rfl) (hpl : (backTo pos (starEach [] X.env)).any (·.1) = false := by rfl)
    (hsw : swapsWith (.Call (.Attribute a "append" ap) [e] [] pos) none s1.line X.env = pure false := by rfl) :
    wpSs X (.Expr (.Call (.Attribute a "append" ap) [e] [] pos) s1 :: rest) D σ H :=
  ss_expr (wpE_of (pe_bm PySem.F.plainAttrs_list PySem.F.slot_list_append PySem.F.type_list_append mt_append wpE_pe (pa_cons wpE_pe pa_nil hs) hb hfew hline hs hpl) (ha H (Same.refl H) _ fun v H2 s2 rv => by
    have rv : v = .ref q := rv
    subst rv
    exact ⟨.inl ⟨rfl, _, SqL.of (s2 _ _ hl)⟩, he H2 (toD s2) (P.same s2) _ fun w y H3 d3 P3 py rw => ⟨q, vs, w, rfl, rfl, d3 _ _ (s2 _ _ hl) ne, sz_lt hz, kk w y H3 ((toD s2).trans d3) P3 py rw⟩⟩)) hsw
/-! known arguments -/
theorem ed_a1 {r : RS α} {x : α} (h : EvD X e σ H l n 0 r (fun y => y = x)) (hs : starEach [e] X.env = (false, eval e X.env) :: starEach [] X.env := by rfl) : EvAD X [e] σ H l n 0 (aConsS r aNil) (fun z => z = (x, ())) := fun H1 d P Q q =>
  ead_last h hs H1 d P Q fun vs i H2 d2 P2 e ra => q vs i H2 d2 P2 (by rw [← e]) ra
theorem ed_a2 {r : RS α} {t : RS β} {x : α} {y : β} (st : Stays l r) (h : EvD X a σ H l n 0 r (fun z => z = x)) (h2 : EvD X b σ H l n 0 t (fun z => z = y)) (hs : starEach [a, b] X.env = (false, eval a X.env) :: starEach [b] X.env := by rfl) (hs2 : starEach [b] X.env = (false, eval b X.env) :: starEach [] X.env := by rfl) : EvAD X [a, b] σ H l n 0 (aConsS r (aConsS t aNil)) (fun z => z = (x, y, ())) := fun H1 d P Q q =>
  ead_cons (k1 := 0) (k2 := 0) st h (ed_a1 h2 hs2) hs H1 d P Q fun vs i H2 d2 P2 e ra => q vs i H2 d2 P2 (by rw [← e.1, ← e.2]) ra
theorem ed_a3 {r : RS α} {t : RS β} {u : RS γ} {x : α} {y : β} {z : γ} (st : Stays l r) (st2 : Stays l t) (h : EvD X a σ H l n 0 r (fun z => z = x)) (h2 : EvD X b σ H l n 0 t (fun z => z = y)) (h3 : EvD X c σ H l n 0 u (fun w => w = z)) (hs : starEach [a, b, c] X.env = (false, eval a X.env) :: starEach [b, c] X.env := by rfl) (hs2 : starEach [b, c] X.env = (false, eval b X.env) :: starEach [c] X.env := by rfl) (hs3 : starEach [c] X.env = (false, eval c X.env) :: starEach [] X.env := by rfl) : EvAD X [a, b, c] σ H l n 0 (aConsS r (aConsS t (aConsS u aNil))) (fun w => w = (x, y, z, ())) := fun H1 d P Q q =>
  ead_cons (k1 := 0) (k2 := 0) st h (ed_a2 st2 h2 h3 hs2 hs3) hs H1 d P Q fun vs i H2 d2 P2 e ra => q vs i H2 d2 P2 (by rw [← e.1, ← e.2]) ra
theorem ed_callE {k0 kc j : Nat} {A : Addr → RA ι} {pre : ι → Prop} {rr : Addr → RS β} {r' : RS β} {po : ι → β → Prop} {po' : β → Prop} {i0 : ι} {pn : Str} {pp : Pos} (C : Cal X.prog X.w X.K X.mg X.base k0 nm (SpD A pre kc rr po)) (hr : Room k0 X.A) (hj : σ[j]? = some (some (.ref l))) (hn : n + kc ≤ 100000)
    (ha : EvAD X es σ H l n 0 (A l) (fun i => i = i0)) (hp : pre i0) (hpo : ∀ y, po i0 y → po' y) (hN : X.N[j]? = some pn := by rfl) (hv : Vis X.env.scope pn := by first | exact Or.inl rfl | exact Or.inr (Or.inl rfl) | exact Or.inr (Or.inr rfl)) (hd : (pn == ("__debug__" : Str)) = false := by decide) (hcd : (pn == ("__classdict__" : Str)) = false := by decide)
    (hg : Gl X nm := by rfl) (hdb : (nm == ("__debug__" : Str)) = false := by decide) (he : starEach (.Name pn pp :: es) X.env = (false, eval (.Name pn pp) X.env) :: starEach es X.env := by rfl) (hpl : (backTo pos (starEach es X.env)).any (·.1) = false := by rfl) (hrr : rr l = r' := by rfl) :
    EvD X (.Call (.Name nm p) (.Name pn pp :: es) [] pos) σ H l n kc r' po' :=
  ed_wk (ed_call (k1 := 0) (p1 := fun i => i = i0) C hr hj (by omega) ha (fun i e => by rw [e]; exact hp) hN hv hd hcd hg hdb he hpl hrr) (by omega) (fun y ⟨i, e, h⟩ => by rw [e] at h; exact hpo y h)
/-- the way on may be told apart -/
theorem wpSs_nx {sts : List Stmt} {J : L2.St → Hp → Prop} (h : wpSs X sts { D with nx := J } σ H) (hJ : ∀ σ' H', J σ' H' → D.nx σ' H') : wpSs X sts D σ H := ⟨fun pins s I => wpAny_mono (h.run pins s I) (fun f s1 q => by
  cases f with
  | next =>
    obtain ⟨σ', H', J', q2⟩ := q
    exact ⟨σ', H', J', hJ σ' H' q2⟩
  | brk => exact q
  | cont => exact q
  | ret u => exact q) fun _ _ x => x⟩
theorem ss_ifDJ {th el : List Stmt} {s1 : Pos} (J : L2.St → Hp → Prop) (h : EvDT X c σ H l n k) (P : Pot l n H) (h1 : ∀ H1, DL l H H1 → Pot l (n + k) H1 → wpSs X th { D with nx := J } σ H1) (h2 : ∀ H1, DL l H H1 → Pot l (n + k) H1 → wpSs X el { D with nx := J } σ H1) (hJ : ∀ σ' H', J σ' H' → wpSs X rest D σ' H') : wpSs X (.If c th el s1 :: rest) D σ H :=
  ss_ifD h P (fun H1 d P1 => wpSs_nx (D := { D with nx := wpSs X rest D }) (h1 H1 d P1) hJ) (fun H1 d P1 => wpSs_nx (D := { D with nx := wpSs X rest D }) (h2 H1 d P1) hJ)
end
end LK
set_option maxHeartbeats 4000000
namespace LK
open PySem PySem.Spec PyProof.Rows L2
/-! ### the mirror: small looks -/
def lotOf (names some : List Str) : List Str := names.filter fun n => decide (n ∈ some)
/-- whether an odd number of the four lowest bits are set -/
def parN (n : Nat) : Nat := (n % 2 + n / 2 % 2 + n / 4 % 2 + n / 8 % 2) % 2
def bitsOf (names some : List Str) : Nat := (((numbered names).filter fun x => decide (x.2 ∈ some)).map fun x => 2 ^ x.1).sum
def signsLow : Str := "abcdefghijklmnopqrstuvwxyz"
def isName (z : Str) : Bool := (decide (1 ≤ z.length) && decide (z.length ≤ 8)) && (z.cps.toList.all fun c => decide (c ∈ signsLow.cps.toList))
def areUnlike (xs : List Str) : Bool := ((numbered xs).map fun x => !decide (x.2 ∈ xs.take x.1)).all id
theorem sum_int_nat {α : Type} (l : List α) (f : α → Nat) : (l.map fun x => ((f x : Nat) : Int)).sum = (((l.map f).sum : Nat) : Int) := by
  induction l with
  | nil => rfl
  | cons a t ih => simp [ih]
theorem parN_step : ∀ n : Nat, n < 16 → n ≠ 0 → ∃ m : Nat, Builtin.bitAnd (n : Int) ((n : Int) - 1) = (m : Int) ∧ m < n ∧ parN m + parN n = 1 := by
  have h : ∀ n : Fin 16, n.val ≠ 0 → ∃ m : Fin 16, Builtin.bitAnd (n.val : Int) ((n.val : Int) - 1) = (m.val : Int) ∧ m.val < n.val ∧ parN m.val + parN n.val = 1 := by decide +kernel
  intro n hn h0
  obtain ⟨m, h1, h2, h3⟩ := h ⟨n, hn⟩ h0
  exact ⟨m.val, h1, h2, h3⟩
section
variable {P : Program} {w : World} {K : PySem.W.Frag} {mg : Str → Option Value} {base : Heap} {f : Addr} {fd : FuncData}
/-! lot_of -/
abbrev sLot : Stmt := top 25
abbrev nLot : List Str := ["names", "some", "name"]
theorem scLot : FnScope nLot ["names", "some"] (defScope sLot) := ⟨rfl, rfl, rfl, by decide +kernel, rfl, by decide +kernel, by decide +kernel⟩
abbrev spLot : Sp := SpF (aCons (rTup rStr) (aCons (rTup rStr) aNil)) (fun i => i.1.length ≤ 1000) (rTup rStr) fun i => lotOf i.1 i.2.1
theorem ok_lot_of (T : Glo mg) (F : Fun K "lot_of" "lot_of" sLot f fd) : FnOk P w K mg base CX0 1 f fd ["names", "some"] spLot := by
  refine F.ok (N := nLot) scLot (fun vs H Q E h => ?_) (fun cdv A outer s H vs Q E hr h => ⟨wpSs _ _, wpSs_pss, ?_⟩)
  · obtain ⟨i, ⟨v, ws, rfl, _, v2, ws2, rfl, _, rfl⟩, _⟩ := h
    rfl
  · obtain ⟨⟨ns, so, _⟩, ⟨v, _, rfl, h1, v2, _, rfl, h2, rfl⟩, hl, k⟩ := h
    exact ss_ret (ev_tuple T.tuple (el_fil1 (j := 2) rfl scLot.nd (blkOk_by (N := nLot) (sc := defScope sLot) (by decide +kernel)) (ei_tup (ev_nm 0 rfl h1)) (Nat.le_trans hl (by decide))
      (fun v x H1 hx s1 rx s H0 C cl fp => et_inT (ev_nm 2 rfl rx) (ev_nm 1 rfl ((rTup rStr).up (Same.T s1) h2))) (fun v x H1 hx s1 rx s H0 C cl fp => ev_nm 2 rfl rx))) (fun v H1 s rv => k v H1 s rv)
/-! parity -/
abbrev sPar : Stmt := top 2
abbrev nPar : List Str := ["bits", "found"]
theorem scPar : FnScope nPar ["bits"] (defScope sPar) := ⟨rfl, rfl, rfl, by decide +kernel, rfl, by decide +kernel, by decide +kernel⟩
abbrev spPar : Sp := SpF (aCons rNat aNil) (fun i => i.1 < 16) rNat fun i => parN i.1
theorem ok_parity (F : Fun K "parity" "parity" sPar f fd) : FnOk P w K mg base CX0 1 f fd ["bits"] spPar := by
  refine F.ok (N := nPar) scPar (fun vs H Q E h => ?_) (fun cdv A outer s H vs Q E hr h => ⟨wpSs _ _, wpSs_pss, ?_⟩)
  · obtain ⟨i, ⟨v, ws, rfl, _, rfl⟩, _⟩ := h
    rfl
  · obtain ⟨⟨n, _⟩, ⟨v, _, rfl, h1, rfl⟩, hl, k⟩ := h
    have h1 : v = .int (n : Int) := h1
    subst h1
    have hl : n < 16 := hl
    refine ss_set (i := 1) ev_int (fun v H1 s1 rv => ?_) scPar.nd
    have rv : v = .int 0 := rv
    subst rv
    refine ss_while PassesOwn.never (fun m σ' H' => Same H H' ∧ ∃ b g : Nat, m = b ∧ b < 16 ∧ g ≤ 1 ∧ (g + parN b) % 2 = parN n ∧ σ' = [some (.int (b : Int)), some (.int (g : Int))]) n ⟨s1, n, 0, rfl, hl, by decide, by
      show (0 + parN n) % 2 = parN n
      unfold parN; omega, rfl⟩ ?_
    rintro m σ' H' ⟨sH, b, g, rfl, hb, hg, hp, rfl⟩
    refine ⟨!decide ((m : Int) = 0), et_neI (ev_nm (r := rInt) 0 rfl rfl) ev_int, fun hq H2 s2 => ?_, fun hq H2 s2 => ?_⟩
    · have h0 : m ≠ 0 := fun e => by subst e; simp at hq
      obtain ⟨m', e1, e2, e3⟩ := parN_step m hb h0
      refine ss_par (i := 1) (j := 0) (wpA_ev (ea_cons (ev_sub ev_int (ev_nm (r := rInt) 1 rfl rfl)) (ea_cons (ev_bitand (ev_nm (r := rInt) 0 rfl rfl) (ev_sub (ev_nm (r := rInt) 0 rfl rfl) ev_int)) ea_nil)) fun vs H3 s3 ra => ?_) rfl scPar.nd (by decide)
      obtain ⟨v1, w1, rfl, r1, v2, w2, rfl, r2, rfl⟩ := ra
      have r1 : v1 = .int (1 - (g : Int)) := r1
      have r2 : v2 = .int (Builtin.bitAnd (m : Int) ((m : Int) - 1)) := r2
      subst r1
      subst r2
      refine ⟨_, _, rfl, ss_nil ⟨m', e2, (sH.trans s2).trans s3, m', 1 - g, rfl, by omega, by omega, by omega, ?_⟩⟩
      rw [e1]
      have : ((1 - g : Nat) : Int) = 1 - (g : Int) := by omega
      rw [this]
      rfl
    · have h0 : m = 0 := by simpa using hq
      subst h0
      refine ss_ret (x := parN n) (r := rNat) (ev_nm 1 rfl ?_) (fun v H3 s3 rv => k v H3 ((sH.trans s2).trans s3) rv)
      have : g = parN n := by
        have : parN 0 = 0 := rfl
        unfold parN at hp ⊢
        omega
      rw [this]
      rfl
/-! bits_of -/
abbrev sBof : Stmt := top 3
abbrev nBof : List Str := ["names", "some", "at", "name"]
theorem scBof : FnScope nBof ["names", "some"] (defScope sBof) := ⟨rfl, rfl, rfl, by decide +kernel, rfl, by decide +kernel, by decide +kernel⟩
abbrev spBof : Sp := SpF (aCons (rTup rStr) (aCons (rTup rStr) aNil)) (fun i => i.1.length ≤ 1000) rNat fun i => bitsOf i.1 i.2.1
theorem ok_bits_of (T : Glo mg) (F : Fun K "bits_of" "bits_of" sBof f fd) : FnOk P w K mg base CX0 1 f fd ["names", "some"] spBof := by
  refine F.ok (N := nBof) scBof (fun vs H Q E h => ?_) (fun cdv A outer s H vs Q E hr h => ⟨wpSs _ _, wpSs_pss, ?_⟩)
  · obtain ⟨i, ⟨v, ws, rfl, _, v2, ws2, rfl, _, rfl⟩, _⟩ := h
    rfl
  · obtain ⟨⟨ns, so, _⟩, ⟨v, _, rfl, h1, v2, _, rfl, h2, rfl⟩, hl, k⟩ := h
    have hl : ns.length ≤ 1000 := hl
    refine ss_ret (ev_sum rfl T.sum (el_fil2 (j1 := 2) (j2 := 3) (t := rInt) (q := fun x => decide (x.2 ∈ so)) (f := fun x => (((2 : Nat) ^ x.1 : Nat) : Int)) (by decide) rfl scBof.nd (blkOk_by (N := nBof) (sc := defScope sBof) (by decide +kernel)) (ei_enumT (ev_nm 0 rfl h1) T.enumerate) (by rw [numbered_length]; exact Nat.le_trans hl (by decide))
      (fun v w x H1 hx s1 r1 r2 s H0 C cl fp => et_inT (ev_nm 3 rfl r2) (ev_nm 1 rfl ((rTup rStr).up (Same.T s1) h2)))
      (fun v w x H1 hx s1 r1 r2 s H0 C cl fp => (ev_shl ⟨by omega, ?_, by decide⟩ ev_int (int_of_nat (ev_nm 2 rfl r1))).eq ?_))) (fun v H1 s rv => k v H1 s ?_)
    · have : x.1 < ns.length := by
        have := (List.of_mem_zip hx).1
        simpa using this
      omega
    · simp
    · have rv : v = .int _ := rv
      rw [rv]
      show V.int _ = V.int _
      rw [sum_int_nat]
      rfl
/-! is_word -/
abbrev sWord : Stmt := top 19
abbrev nWord : List Str := ["value", "words"]
theorem scWord : FnScope nWord ["value", "words"] (defScope sWord) := ⟨rfl, rfl, rfl, by decide +kernel, rfl, by decide +kernel, by decide +kernel⟩
abbrev spWord : Sp := SpF (aCons rStr (aCons (rTup rStr) aNil)) (fun _ => True) rBool fun i => decide (i.1 ∈ i.2.1)
theorem ok_is_word (T : Glo mg) (F : Fun K "is_word" "is_word" sWord f fd) : FnOk P w K mg base CX0 1 f fd ["value", "words"] spWord := by
  refine F.ok (N := nWord) scWord (fun vs H Q E h => ?_) (fun cdv A outer s H vs Q E hr h => ⟨wpSs _ _, wpSs_pss, ?_⟩)
  · obtain ⟨i, ⟨v, ws, rfl, _, v2, ws2, rfl, _, rfl⟩, _⟩ := h
    rfl
  · obtain ⟨⟨z, so, _⟩, ⟨v, _, rfl, h1, v2, _, rfl, h2, rfl⟩, hl, k⟩ := h
    exact ss_ret (ev_and (ev_isi T.isinstance (ev_nm 0 rfl h1) (ev_bty (by decide +kernel) T.str) rty_str kb_ss) (fun _ => ev_inT (ev_nm 0 rfl h1) (ev_nm 1 rfl h2))) (fun v H1 s rv => k v H1 s rv)
/-! is_name -/
abbrev sName : Stmt := top 20
abbrev nName : List Str := ["value", "sign"]
theorem scName : FnScope nName ["value"] (defScope sName) := ⟨rfl, rfl, rfl, by decide +kernel, rfl, by decide +kernel, by decide +kernel⟩
abbrev spName : Sp := SpF (aCons rStr aNil) (fun i => i.1.length ≤ 1000) rBool fun i => isName i.1
theorem all_signs (z : Str) (q : Nat → Bool) (g : Str → Bool) (h : ∀ c, g ⟨#[c]⟩ = q c) : ((signs z).map g).all id = z.cps.toList.all q := by
  unfold signs
  rw [List.map_map, List.all_map]
  congr 1
  funext c
  exact h c
theorem ok_is_name (T : Glo mg) (F : Fun K "is_name" "is_name" sName f fd) : FnOk P w K mg base CX0 1 f fd ["value"] spName := by
  refine F.ok (N := nName) scName (fun vs H Q E h => ?_) (fun cdv A outer s H vs Q E hr h => ⟨wpSs _ _, wpSs_pss, ?_⟩)
  · obtain ⟨i, ⟨v, ws, rfl, _, rfl⟩, _⟩ := h
    rfl
  · obtain ⟨⟨z, _⟩, ⟨v, _, rfl, h1, rfl⟩, hl, k⟩ := h
    have hl : z.length ≤ 1000 := hl
    have k : ∀ v H', Same H H' → rBool.rel H' v (isName z) → Q v H' := k
    refine ss_if (et_or (et_not (et_val (ev_isi T.isinstance (ev_nm 0 rfl h1) (ev_bty (by decide +kernel) T.str) rty_str kb_ss))) (fun _ => et_not (et_chain op_le op_le ev_int (int_of_nat (ev_lenS T.len (by omega) (ev_nm 0 rfl h1))) (ev_gI T.MOST_SIGNS)))) (fun hq H2 s2 => ?_) (fun hq H2 s2 => ss_nil ?_)
    · refine ss_ret ev_bl (fun v H3 s3 rv => k v H3 (s2.trans s3) ?_)
      have : isName z = false := by
        unfold isName
        have : (decide (1 ≤ z.length) && decide (z.length ≤ 8)) = false := by
          simp at hq ⊢
          omega
        rw [this, Bool.false_and]
      rw [this]
      exact rv
    · refine ss_ret (ev_all rfl T.all (el_map1 (j := 1) (t := rBool) (f := fun x => decide (x.cps[0]! ∈ signsLow.cps.toList)) rfl scName.nd (blkOk_by (N := nName) (sc := defScope sName) (by decide +kernel)) (ei_str (ev_nm 0 rfl h1)) (by rw [signs_length]; exact Nat.le_trans hl (by decide))
        (fun v x H1 hx s1 rx s H0 C cl fp => ?_))) (fun v H3 s3 rv => k v H3 (s2.trans s3) ?_)
      · obtain ⟨c, hc, rfl⟩ := List.mem_map.mp hx
        exact ev_inSign (ev_nm 1 rfl rx) (ev_gS T.SIGNS)
      · have e1 : (decide (1 ≤ z.length) && decide (z.length ≤ 8)) = true := by
          simp at hq ⊢
          omega
        have e2 : isName z = ((signs z).map fun x => decide (x.cps[0]! ∈ signsLow.cps.toList)).all id := by
          unfold isName
          rw [e1, Bool.true_and, all_signs z (fun c => decide (c ∈ signsLow.cps.toList)) _ (fun c => rfl)]
        rw [e2]
        exact rv
/-! are_unlike -/
abbrev sUnl : Stmt := top 21
abbrev nUnl : List Str := ["some", "at", "one"]
theorem scUnl : FnScope nUnl ["some"] (defScope sUnl) := ⟨rfl, rfl, rfl, by decide +kernel, rfl, by decide +kernel, by decide +kernel⟩
abbrev spUnl : Sp := SpF (aCons (rTup rStr) aNil) (fun i => i.1.length ≤ 1000) rBool fun i => areUnlike i.1
theorem ok_are_unlike (T : Glo mg) (F : Fun K "are_unlike" "are_unlike" sUnl f fd) : FnOk P w K mg base CX0 1 f fd ["some"] spUnl := by
  refine F.ok (N := nUnl) scUnl (fun vs H Q E h => ?_) (fun cdv A outer s H vs Q E hr h => ⟨wpSs _ _, wpSs_pss, ?_⟩)
  · obtain ⟨i, ⟨v, ws, rfl, _, rfl⟩, _⟩ := h
    rfl
  · obtain ⟨⟨so, _⟩, ⟨v, _, rfl, h1, rfl⟩, hl, k⟩ := h
    have hl : so.length ≤ 1000 := hl
    refine ss_ret (ev_all rfl T.all (el_map2 (j1 := 1) (j2 := 2) (t := rBool) (f := fun x => !decide (x.2 ∈ so.take x.1)) (by decide) rfl scUnl.nd (blkOk_by (N := nUnl) (sc := defScope sUnl) (by decide +kernel)) (ei_enumT (ev_nm 0 rfl h1) T.enumerate) (by rw [numbered_length]; exact Nat.le_trans hl (by decide))
      (fun v w x H1 hx s1 r1 r2 s H0 C cl fp => ev_ninT (ev_nm 2 rfl r2) (ev_takeT ?_ (ev_nm 0 rfl ((rTup rStr).up (Same.T s1) h1)) (int_of_nat (ev_nm 1 rfl r1)))))) (fun v H1 s rv => k v H1 s rv)
    have := (List.of_mem_zip hx).1
    exact Nat.le_of_lt (by simpa using this)
end
end LK
set_option maxHeartbeats 1000000
namespace LK
open PySem PySem.Spec PyProof.Rows L2
/-! ### the data: a shelf's parts, keepers, pieces -/
structure Lore where
  parts : List Str
  names : List Str
  pieces : List (List (List Str))
def spots (L : Lore) : List (Str × Nat) := (L.names.zip L.pieces).flatMap fun x => (List.range x.2.length).map fun i => (x.1, i)
def pieceOf (L : Lore) (spot : Str × Nat) : List Str := (L.pieces.getD (L.names.idxOf spot.1) []).getD spot.2 []
structure WF (L : Lore) : Prop where
  p1 : 1 ≤ L.parts.length
  p3 : L.parts.length ≤ 3
  n6 : L.names.length ≤ 6
  nd : L.names.Nodup
  len : L.pieces.length = L.names.length
  two : ∀ ps ∈ L.pieces, ps.length ≤ 2
  okS : ∀ n ∈ L.names, PyData.canLay0 (.str n) = true
def bitsAt (L : Lore) (spot : Str × Nat) : Nat := bitsOf L.parts (pieceOf L spot)
def recordBits (z : Str) : Nat := (((numbered (signs z)).filter fun x => decide (x.2 = ("1" : Str))).map fun x => 2 ^ x.1).sum
def valueAt (L : Lore) (spot : Str × Nat) (z : Str) : Nat := parN (bitsAt L spot &&& recordBits z)
def numS (n : Nat) : Str := (toString (n : Int) : String)
def answerOf (L : Lore) (k z : Str) : Str := Txt.join "" (((spots L).filter fun s => decide (s.1 ∈ [k])).map fun s => numS (valueAt L s z))
def markOf (b : Nat) (i : Nat) : Str := if (b : Int) / 2 ^ ((i : Int)).toNat % 2 = 1 then "1" else "0"
def recordOf (n b : Nat) : Str := Txt.join "" ((List.range n).map fun i => markOf b i)
def records (n : Nat) : List Str := (List.range (2 ^ n)).map fun b => recordOf n b
theorem sum_filter_le {α : Type} (l : List α) (q : α → Bool) (f : α → Nat) : ((l.filter q).map f).sum ≤ (l.map f).sum := by
  induction l with
  | nil => simp
  | cons a t ih =>
    by_cases h : q a = true
    · simp [List.filter_cons, h]; exact ih
    · simp [List.filter_cons, h]; omega
theorem numbered_fst {α : Type} (xs : List α) : (numbered xs).map (·.1) = List.range xs.length := by
  unfold numbered
  exact List.map_fst_zip (by simp)
theorem bitsOf_lt {names some : List Str} (h : names.length ≤ 4) : bitsOf names some < 16 := by
  unfold bitsOf
  have h1 := sum_filter_le (numbered names) (fun x => decide (x.2 ∈ some)) (fun x => 2 ^ x.1)
  have h2 : ((numbered names).map fun x => 2 ^ x.1) = (List.range names.length).map fun i => 2 ^ i := by
    rw [← numbered_fst, List.map_map]; rfl
  rw [h2] at h1
  have h3 : ∀ n : Fin 5, ((List.range n.val).map fun i => 2 ^ i).sum < 16 := by decide
  have := h3 ⟨names.length, by omega⟩
  exact Nat.lt_of_le_of_lt h1 this
theorem parN_lt (n : Nat) : parN n < 2 := by unfold parN; omega
theorem numS_len {n : Nat} (h : n < 2) : (numS n).length = 1 := by
  match n, h with
  | 0, _ => decide +kernel
  | 1, _ => decide +kernel
theorem valueAt_lt (L : Lore) (s : Str × Nat) (z : Str) : valueAt L s z < 2 := parN_lt _
theorem idxOf_zip : ∀ {names : List Str} {pieces : List (List (List Str))} {n : Str} {ps : List (List Str)}, names.Nodup → (n, ps) ∈ names.zip pieces → pieces[names.idxOf n]? = some ps ∧ names[names.idxOf n]? = some n
  | [], _, _, _, _, h => by simp at h
  | _ :: _, [], _, _, _, h => by simp at h
  | a :: r, q :: t, n, ps, nd, h => by
    rw [List.zip_cons_cons] at h
    rcases List.mem_cons.mp h with e | h
    · cases e; simp
    · have hn : n ∈ r := (List.of_mem_zip h).1
      have hne : a ≠ n := fun e => (List.nodup_cons.mp nd).1 (e ▸ hn)
      obtain ⟨h1, h2⟩ := idxOf_zip (List.nodup_cons.mp nd).2 h
      have : (a == n) = false := by simpa using hne
      rw [List.idxOf_cons, this]
      simp only [cond_false, List.getElem?_cons_succ]
      exact ⟨h1, h2⟩
theorem idxOf_first {names : List Str} {n : Str} {m : Nat} (hm : m < names.idxOf n) : names[m]? ≠ some n := by
  intro h
  have h1 := List.getElem?_eq_some_iff.mp h
  obtain ⟨hl, he⟩ := h1
  have := List.not_of_lt_findIdx (p := fun x => x == n) (xs := names) (i := m) hm
  simp [he] at this
theorem mem_spots {L : Lore} {s : Str × Nat} (W : WF L) (h : s ∈ spots L) : ∃ ps, L.pieces[L.names.idxOf s.1]? = some ps ∧ L.names[L.names.idxOf s.1]? = some s.1 ∧ s.2 < ps.length ∧ ps ∈ L.pieces := by
  obtain ⟨x, hx, h2⟩ := List.mem_flatMap.mp h
  obtain ⟨i, hi, e⟩ := List.mem_map.mp h2
  subst e
  have hi : i < x.2.length := by simpa using hi
  obtain ⟨h3, h4⟩ := idxOf_zip W.nd (n := x.1) (ps := x.2) hx
  exact ⟨x.2, h3, h4, hi, (List.of_mem_zip hx).2⟩
theorem spots_of_len {L : Lore} (W : WF L) : (spots L).length ≤ 12 := by
  have h : ∀ (names : List Str) (pieces : List (List (List Str))), (∀ ps ∈ pieces, ps.length ≤ 2) → ((names.zip pieces).flatMap fun x => (List.range x.2.length).map fun i => (x.1, i)).length ≤ 2 * names.length := by
    intro names
    induction names with
    | nil => intro pieces _; simp
    | cons a r ih =>
      intro pieces hp
      cases pieces with
      | nil => simp
      | cons q t =>
        have := ih t fun ps h => hp ps (List.mem_cons_of_mem _ h)
        have h2 := hp q List.mem_cons_self
        simp only [List.zip_cons_cons, List.flatMap_cons, List.length_append, List.length_map, List.length_range, List.length_cons]
        omega
  have := h L.names L.pieces W.two
  have := W.n6
  unfold spots
  omega
end LK
set_option maxHeartbeats 4000000
namespace LK
open PySem PySem.Spec PyProof.Rows L2
/-! ### shelves as objects -/
def ciF (pn : V) : List (Str × V) := [("own_names", pn)]
def shF (tx : Str) (pa : V) (c : Addr) (pp : V) (ls : Addr) : List (Str × V) := [("own_text", .str tx), ("own_parts", pa), ("own_circle", .ref c), ("own_pieces", pp), ("own_spots", .ref ls)]
theorem ci_names {pn : V} : (ciF pn).lookup ("own_names" : Str) = some pn := by rfl
section
variable {tx : Str} {pa pp : V} {c ls : Addr}
theorem sh_text : (shF tx pa c pp ls).lookup ("own_text" : Str) = some (.str tx) := by rfl
theorem sh_parts : (shF tx pa c pp ls).lookup ("own_parts" : Str) = some pa := by rfl
theorem sh_circle : (shF tx pa c pp ls).lookup ("own_circle" : Str) = some (.ref c) := by rfl
theorem sh_pieces : (shF tx pa c pp ls).lookup ("own_pieces" : Str) = some pp := by rfl
theorem sh_spots : (shF tx pa c pp ls).lookup ("own_spots" : Str) = some (.ref ls) := by rfl
end
/-- a Circle of these names -/
def rCirc (CC : Addr) : RS (List Str) := ⟨fun H v ns => ∃ a dx pn, v = .ref a ∧ H a = some (.ins CC dx (ciF pn)) ∧ (rTupN rStr).rel H pn ns, fun e ⟨a, dx, pn, h1, h2, h3⟩ => ⟨a, dx, pn, h1, e _ _ h2, (rTupN rStr).up (Same.T e) h3⟩⟩
/-- a Shelf -/
def rShelf (C CC : Addr) : RS Lore := ⟨fun H v L => ∃ a dx tx pa c pp ls vs, v = .ref a ∧ H a = some (.ins C dx (shF tx pa c pp ls)) ∧ (rTup rStr).rel H pa L.parts ∧ (rCirc CC).rel H (.ref c) L.names ∧ (rTup (rTup (rTup rStr))).rel H pp L.pieces ∧
    H ls = some (.lst vs) ∧ (rPair rStr rNat).us H vs (spots L),
  fun e ⟨a, dx, tx, pa, c, pp, ls, vs, h1, h2, h3, h4, h5, h6, h7⟩ => ⟨a, dx, tx, pa, c, pp, ls, vs, h1, e _ _ h2, (rTup rStr).up (Same.T e) h3, (rCirc CC).up e h4, (rTup (rTup (rTup rStr))).up (Same.T e) h5, e _ _ h6, R.us_up (Same.T e) h7⟩⟩
/-- a property of the class that hands out a field -/
def Pro (P : Program) (w : World) (K : PySem.W.Frag) (mg : Str → Option Value) (base : Heap) (C : Addr) (n fl : Str) : Prop := ∃ (p g : Addr) (fd : FuncData), PropOf K C n p g ∧ FnOk P w K mg base CX0 1 g fd ["self"] (getSp C fl) ∧ Binds K fd ["self"] []
structure ShTxt (P : Program) (w : World) (K : PySem.W.Frag) (mg : Str → Option Value) (base : Heap) (C CC : Addr) : Prop where
  cl : Cls K C
  cc : Cls K CC
  nText : NoAttr K C "own_text"
  nParts : NoAttr K C "own_parts"
  nCircle : NoAttr K C "own_circle"
  nPieces : NoAttr K C "own_pieces"
  nSpots : NoAttr K C "own_spots"
  nNames : NoAttr K CC "own_names"
  pParts : Pro P w K mg base C "parts" "own_parts"
  pCircle : Pro P w K mg base C "circle" "own_circle"
  pPieces : Pro P w K mg base C "pieces" "own_pieces"
  pNames : Pro P w K mg base CC "names" "own_names"
section
variable {X : Cx} {a : Expr} {σ : L2.St} {H : Hp} {pos : Pos} {C CC : Addr} {L : Lore}
theorem ev_parts (T : ShTxt X.prog X.w X.K X.mg X.base C CC) (hr : Room 2 X.A) (he : EvS X a σ H (rShelf C CC) L) (hab : attributeBase a "parts" X.env (eval a X.env) = eval a X.env := by rfl) : Ev X (.Attribute a "parts" pos) σ H (rTup rStr) L.parts := by
  obtain ⟨p, g, fd, hp, F, hb⟩ := T.pParts
  exact fun H1 s Q q => wpE_of (pe_prop wpE_pe T.cl hp F hr hb .nil pass0 hab) (he H1 s _ fun w H2 s2 ⟨a, dx, tx, pa, c, pp, ls, vs, h1, h2, h3, h4, h5, h6, h7⟩ => ⟨a, dx, _, h1, h2, a, dx, _, pa, rfl, h2, sh_parts, q pa H2 s2 h3⟩)
theorem ev_pieces (T : ShTxt X.prog X.w X.K X.mg X.base C CC) (hr : Room 2 X.A) (he : EvS X a σ H (rShelf C CC) L) (hab : attributeBase a "pieces" X.env (eval a X.env) = eval a X.env := by rfl) : Ev X (.Attribute a "pieces" pos) σ H (rTup (rTup (rTup rStr))) L.pieces := by
  obtain ⟨p, g, fd, hp, F, hb⟩ := T.pPieces
  exact fun H1 s Q q => wpE_of (pe_prop wpE_pe T.cl hp F hr hb .nil pass0 hab) (he H1 s _ fun w H2 s2 ⟨a, dx, tx, pa, c, pp, ls, vs, h1, h2, h3, h4, h5, h6, h7⟩ => ⟨a, dx, _, h1, h2, a, dx, _, pp, rfl, h2, sh_pieces, q pp H2 s2 h5⟩)
theorem ev_circle (T : ShTxt X.prog X.w X.K X.mg X.base C CC) (hr : Room 2 X.A) (he : EvS X a σ H (rShelf C CC) L) (hab : attributeBase a "circle" X.env (eval a X.env) = eval a X.env := by rfl) : EvS X (.Attribute a "circle" pos) σ H (rCirc CC) L.names := by
  obtain ⟨p, g, fd, hp, F, hb⟩ := T.pCircle
  exact fun H1 s Q q => wpE_of (pe_prop wpE_pe T.cl hp F hr hb .nil pass0 hab) (he H1 s _ fun w H2 s2 ⟨a, dx, tx, pa, c, pp, ls, vs, h1, h2, h3, h4, h5, h6, h7⟩ => ⟨a, dx, _, h1, h2, a, dx, _, .ref c, rfl, h2, sh_circle, q (.ref c) H2 s2 h4⟩)
theorem ev_names (T : ShTxt X.prog X.w X.K X.mg X.base C CC) (hr : Room 2 X.A) {ns : List Str} (he : EvS X a σ H (rCirc CC) ns) (hab : attributeBase a "names" X.env (eval a X.env) = eval a X.env := by rfl) : Ev X (.Attribute a "names" pos) σ H (rTupN rStr) ns := by
  obtain ⟨p, g, fd, hp, F, hb⟩ := T.pNames
  exact fun H1 s Q q => wpE_of (pe_prop wpE_pe T.cc hp F hr hb .nil pass0 hab) (he H1 s _ fun w H2 s2 ⟨a, dx, pn, h1, h2, h3⟩ => ⟨a, dx, _, h1, h2, a, dx, _, pn, rfl, h2, ci_names, q pn H2 s2 h3⟩)
theorem Ev.tup {xs : List Str} (h : Ev X a σ H (rTupN rStr) xs) : Ev X a σ H (rTup rStr) xs := h.to fun _ _ => rTupN_tup
end
end LK
set_option maxHeartbeats 4000000
namespace LK
open PySem PySem.Spec PyProof.Rows L2
section
variable {P : Program} {w : World} {K : PySem.W.Frag} {mg : Str → Option Value} {base : Heap} {f C CC : Addr} {fd : FuncData}
abbrev Cl (P : Program) (w : World) (K : PySem.W.Frag) (mg : Str → Option Value) (base : Heap) (k : Nat) (x : Str) (sp : Sp) : Prop := Cal P w K mg base k x sp
/-! spots_of -/
abbrev sSpo : Stmt := top 43
abbrev nSpo : List Str := ["shelf", "lot", "spot"]
theorem scSpo : FnScope nSpo ["shelf", "lot"] (defScope sSpo) := ⟨rfl, rfl, rfl, by decide +kernel, rfl, by decide +kernel, by decide +kernel⟩
def spotsOf (L : Lore) (lot : List Str) : List (Str × Nat) := (spots L).filter fun s => decide (s.1 ∈ lot)
abbrev spSpo (C CC : Addr) : Sp := SpL (aConsS (rShelf C CC) (aCons (rTup rStr) aNil)) (fun i => WF i.1) (rPair rStr rNat) fun i => spotsOf i.1 i.2.1
theorem ok_spots_of (T : Glo mg) (S : ShTxt P w K mg base C CC) (F : Fun K "spots_of" "spots_of" sSpo f fd) : FnOk P w K mg base CX0 1 f fd ["shelf", "lot"] (spSpo C CC) := by
  refine F.ok (N := nSpo) scSpo (fun vs H Q E h => ?_) (fun cdv A outer s H vs Q E hr h => ⟨wpSs _ _, wpSs_pss, ?_⟩)
  · obtain ⟨i, ⟨v, ws, rfl, _, v2, ws2, rfl, _, rfl⟩, _⟩ := h
    rfl
  · obtain ⟨⟨L, lot, _⟩, ⟨v, _, rfl, h1, v2, _, rfl, h2, rfl⟩, hW, k⟩ := h
    obtain ⟨a, dx, tx, pa, c, pp, ls, vs, rfl, g2, g3, g4, g5, g6, g7⟩ := h1
    have hW : WF L := hW
    exact ss_retL (el_fil1 (j := 2) rfl scSpo.nd (blkOk_by (N := nSpo) (sc := defScope sSpo) (by decide +kernel)) (ei_list (EvS.ev (ev_fldS (r := rVal.s) S.cl S.nSpots (ev_nmS 0 rfl ⟨rfl, g2⟩) sh_spots rfl)) g6 g7) (Nat.le_trans (spots_of_len hW) (by decide))
      (fun v x H1 hx s1 rx s H0 C cl fp => et_inT (ev_pair0 (ev_nm 2 rfl rx)) (ev_nm 1 rfl ((rTup rStr).up (Same.T s1) h2))) (fun v x H1 hx s1 rx s H0 C cl fp => ev_nm 2 rfl rx)) (fun p vs H1 np s hp hu => k p vs H1 np s hp hu)
/-! bits_at -/
abbrev sBat : Stmt := top 44
abbrev nBat : List Str := ["shelf", "spot", "keeper", "number"]
theorem scBat : FnScope nBat ["shelf", "spot"] (defScope sBat) := ⟨rfl, rfl, rfl, by decide +kernel, rfl, by decide +kernel, by decide +kernel⟩
abbrev spBat (C CC : Addr) : Sp := SpF (aConsS (rShelf C CC) (aCons (rPair rStr rNat) aNil)) (fun i => WF i.1 ∧ i.2.1 ∈ spots i.1) rNat fun i => bitsAt i.1 i.2.1
theorem ok_bits_at (S : ShTxt P w K mg base C CC) (F : Fun K "bits_at" "bits_at" sBat f fd) (cBof : Cal P w K mg base 1 "bits_of" spBof) : FnOk P w K mg base CX0 3 f fd ["shelf", "spot"] (spBat C CC) := by
  refine F.ok (N := nBat) scBat (fun vs H Q E h => ?_) (fun cdv A outer s H vs Q E hr h => ⟨wpSs _ _, wpSs_pss, ?_⟩)
  · obtain ⟨i, ⟨v, ws, rfl, _, v2, ws2, rfl, _, rfl⟩, _⟩ := h
    rfl
  · obtain ⟨⟨L, sp, _⟩, ⟨v, _, rfl, h1, v2, _, rfl, h2, rfl⟩, ⟨hW, hs⟩, k⟩ := h
    have hW : WF L := hW
    have hs : sp ∈ spots L := hs
    obtain ⟨ps, e1, e2, e3, e4⟩ := mem_spots hW hs
    have ep : pieceOf L sp = ps[sp.2] := by
      unfold pieceOf
      simp only [List.getD_eq_getElem?_getD, e1, Option.getD_some, List.getElem?_eq_getElem e3]
    refine ss_unpack (i := 2) (j := 3) (ev_nm 1 rfl h2) (fun v w H1 s1 r1 r2 => ?_) rfl scBat.nd
    refine ss_ret (ev_call cBof (hr.mono (by decide)) (ea_cons (ev_parts S hr (ev_nmS 0 rfl ((rShelf C CC).up s1 h1))) (ea_cons (x := pieceOf L sp) (r := rTup rStr) (ev_ixT (i := sp.2) (r := rTup rStr) (xs := ps) (by rw [ep]; exact List.getElem?_eq_getElem e3)
      (ev_ixT (i := L.names.idxOf sp.1) (r := rTup (rTup rStr)) e1 (ev_pieces S hr (ev_nmS 0 rfl ((rShelf C CC).up s1 h1))) (int_of_nat (ev_index e2 (fun m hm => idxOf_first hm) (ev_names S hr (ev_circle S hr (ev_nmS 0 rfl ((rShelf C CC).up s1 h1)))) (ev_nm 2 rfl r1)))) (int_of_nat (ev_nm 3 rfl r2))) ea_nil)) ?_) (fun v H2 s2 rv => k v H2 (s1.trans s2) rv)
    show L.parts.length ≤ 1000
    exact Nat.le_trans hW.p3 (by decide)
/-! record_bits -/
abbrev sRbi : Stmt := top 45
abbrev nRbi : List Str := ["record", "at", "mark"]
theorem scRbi : FnScope nRbi ["record"] (defScope sRbi) := ⟨rfl, rfl, rfl, by decide +kernel, rfl, by decide +kernel, by decide +kernel⟩
abbrev spRbi : Sp := SpF (aCons rStr aNil) (fun i => i.1.length ≤ 1000) rNat fun i => recordBits i.1
theorem ok_record_bits (T : Glo mg) (F : Fun K "record_bits" "record_bits" sRbi f fd) : FnOk P w K mg base CX0 1 f fd ["record"] spRbi := by
  refine F.ok (N := nRbi) scRbi (fun vs H Q E h => ?_) (fun cdv A outer s H vs Q E hr h => ⟨wpSs _ _, wpSs_pss, ?_⟩)
  · obtain ⟨i, ⟨v, ws, rfl, _, rfl⟩, _⟩ := h
    rfl
  · obtain ⟨⟨z, _⟩, ⟨v, _, rfl, h1, rfl⟩, hl, k⟩ := h
    have hl : z.cps.size ≤ 1000 := hl
    have hn : (numbered (signs z)).length = z.cps.size := by rw [numbered_length, signs_length]
    refine ss_ret (ev_sum rfl T.sum (el_fil2 (j1 := 1) (j2 := 2) (t := rInt) (q := fun x => decide (x.2 = ("1" : Str))) (f := fun x => (((2 : Nat) ^ x.1 : Nat) : Int)) (by decide) rfl scRbi.nd (blkOk_by (N := nRbi) (sc := defScope sRbi) (by decide +kernel)) (ei_enumS (ev_nm 0 rfl h1) T.enumerate) (by rw [hn]; exact Nat.le_trans hl (by decide))
      (fun v w x H1 hx s1 r1 r2 s H0 C cl fp => et_eqS (ev_nm 2 rfl r2) (ev_gS T.ONE))
      (fun v w x H1 hx s1 r1 r2 s H0 C cl fp => (ev_shl ⟨by omega, ?_, by decide⟩ ev_int (int_of_nat (ev_nm 1 rfl r1))).eq ?_))) (fun v H1 s rv => k v H1 s ?_)
    · have h3 := (List.of_mem_zip hx).1
      have : x.1 < z.cps.size := by
        have h3 : x.1 < (signs z).length := by simpa using h3
        rwa [signs_length] at h3
      omega
    · simp
    · have rv : v = .int _ := rv
      rw [rv]
      show V.int _ = V.int _
      rw [sum_int_nat]
      rfl
/-! record_of -/
abbrev sRof : Stmt := top 46
abbrev nRof : List Str := ["shelf", "bits", "at"]
theorem scRof : FnScope nRof ["shelf", "bits"] (defScope sRof) := ⟨rfl, rfl, rfl, by decide +kernel, rfl, by decide +kernel, by decide +kernel⟩
abbrev spRof (C CC : Addr) : Sp := SpF (aConsS (rShelf C CC) (aCons rNat aNil)) (fun i => WF i.1) rStr fun i => recordOf i.1.parts.length i.2.1
theorem markOf_len (b i : Nat) : (markOf b i).length = 1 := by unfold markOf; split <;> decide +kernel
theorem sum_one {l : List Str} (h : ∀ z ∈ l, z.length = 1) : (l.map (·.length)).sum = l.length := by
  induction l with
  | nil => rfl
  | cons a t ih => simp [h a List.mem_cons_self, ih fun z hz => h z (List.mem_cons_of_mem _ hz)]; omega
theorem bitAnd_one (x : Int) : Builtin.bitAnd x 1 = x % 2 := bitAnd_m1 x
theorem ok_record_of (T : Glo mg) (S : ShTxt P w K mg base C CC) (F : Fun K "record_of" "record_of" sRof f fd) : FnOk P w K mg base CX0 3 f fd ["shelf", "bits"] (spRof C CC) := by
  refine F.ok (N := nRof) scRof (fun vs H Q E h => ?_) (fun cdv A outer s H vs Q E hr h => ⟨wpSs _ _, wpSs_pss, ?_⟩)
  · obtain ⟨i, ⟨v, ws, rfl, _, v2, ws2, rfl, _, rfl⟩, _⟩ := h
    rfl
  · obtain ⟨⟨L, b, _⟩, ⟨v, _, rfl, h1, v2, _, rfl, h2, rfl⟩, hW, k⟩ := h
    have hW : WF L := hW
    have hp := hW.p3
    refine ss_ret (ev_joinL (ys := (List.range L.parts.length).map fun i => markOf b i) ?_ ev_str (el_map1 (j := 2) (t := rStr) (f := fun i => markOf b i) rfl scRof.nd (blkOk_by (N := nRof) (sc := defScope sRof) (by decide +kernel)) (ei_range (int_of_nat (ev_lenT T.len (ev_parts S hr (ev_nmS 0 rfl h1)))) (by omega) T.range) (by simp; omega)
      (fun v x H1 hx s1 rx s H0 C cl fp => ?_))) (fun v H1 s rv => k v H1 s rv)
    · rw [sum_one (fun z hz => by obtain ⟨i, _, rfl⟩ := List.mem_map.mp hz; exact markOf_len b i)]
      have h0 : (Str.ofString "").length = 0 := rfl
      rw [h0]
      simp
      omega
    · exact ev_if (k := decide (Builtin.bitAnd ((b : Int) / 2 ^ ((x : Int)).toNat) 1 = 1)) (et_eqI (ev_bitand (ev_shr (by omega) (int_of_nat (ev_nm 1 rfl (rNat.up (Same.T s1) h2))) (int_of_nat (ev_nm 2 rfl rx))) ev_int) ev_int)
        (fun hq => (ev_gS T.ONE).eq (by
          rw [bitAnd_one] at hq
          unfold markOf
          rw [if_pos (of_decide_eq_true hq)])) (fun hq => (ev_gS T.NOUGHT).eq (by
          rw [bitAnd_one] at hq
          unfold markOf
          rw [if_neg (of_decide_eq_false hq)]))
/-! records -/
abbrev sRec : Stmt := top 47
abbrev nRec : List Str := ["shelf", "bits"]
theorem scRec : FnScope nRec ["shelf"] (defScope sRec) := ⟨rfl, rfl, rfl, by decide +kernel, rfl, by decide +kernel, by decide +kernel⟩
abbrev spRec (C CC : Addr) : Sp := SpL (aConsS (rShelf C CC) aNil) (fun i => WF i.1) rStr fun i => records i.1.parts.length
theorem ok_records (T : Glo mg) (S : ShTxt P w K mg base C CC) (F : Fun K "records" "records" sRec f fd) (cRof : Cal P w K mg base 3 "record_of" (spRof C CC)) : FnOk P w K mg base CX0 4 f fd ["shelf"] (spRec C CC) := by
  refine F.ok (N := nRec) scRec (fun vs H Q E h => ?_) (fun cdv A outer s H vs Q E hr h => ⟨wpSs _ _, wpSs_pss, ?_⟩)
  · obtain ⟨i, ⟨v, ws, rfl, _, rfl⟩, _⟩ := h
    rfl
  · obtain ⟨⟨L, _⟩, ⟨v, _, rfl, h1, rfl⟩, hW, k⟩ := h
    have hW : WF L := hW
    have hp := hW.p3
    have hb : 2 ^ L.parts.length ≤ 8 := by
      have : 2 ^ L.parts.length ≤ 2 ^ 3 := Nat.pow_le_pow_right (by decide) hp
      omega
    exact ss_retL (el_map1 (j := 1) (t := rStr) (f := fun b => recordOf L.parts.length b) rfl scRec.nd (blkOk_by (N := nRec) (sc := defScope sRec) (by decide +kernel)) (ei_range (k := 2 ^ L.parts.length) ((ev_shl ⟨Int.natCast_nonneg _, (by show ((L.parts.length : Nat) : Int) ≤ 1000000; omega), by decide⟩ ev_int (int_of_nat (ev_lenT T.len (ev_parts S (hr.mono (by decide)) (ev_nmS 0 rfl h1))))).eq (by simp)) (by omega) T.range) (by simp; omega)
      (fun v x H1 hx s1 rx s H0 C' cl fp => ev_call cRof hr (ea_consS (ev_nmS 0 rfl ((rShelf C CC).up s1 h1)) (ea_cons (ev_nm 1 rfl rx) ea_nil)) hW)) (fun p vs H1 np s hp hu => k p vs H1 np s hp hu)
/-! value_at -/
abbrev sVat : Stmt := top 48
abbrev nVat : List Str := ["shelf", "spot", "record"]
theorem scVat : FnScope nVat ["shelf", "spot", "record"] (defScope sVat) := ⟨rfl, rfl, rfl, by decide +kernel, rfl, by decide +kernel, by decide +kernel⟩
abbrev spVat (C CC : Addr) : Sp := SpF (aConsS (rShelf C CC) (aCons (rPair rStr rNat) (aCons rStr aNil))) (fun i => WF i.1 ∧ i.2.1 ∈ spots i.1 ∧ i.2.2.1.length ≤ 1000) rNat fun i => valueAt i.1 i.2.1 i.2.2.1
theorem ok_value_at (F : Fun K "value_at" "value_at" sVat f fd) (cPar : Cal P w K mg base 1 "parity" spPar) (cBat : Cal P w K mg base 3 "bits_at" (spBat C CC)) (cRbi : Cal P w K mg base 1 "record_bits" spRbi) : FnOk P w K mg base CX0 4 f fd ["shelf", "spot", "record"] (spVat C CC) := by
  refine F.ok (N := nVat) scVat (fun vs H Q E h => ?_) (fun cdv A outer s H vs Q E hr h => ⟨wpSs _ _, wpSs_pss, ?_⟩)
  · obtain ⟨i, ⟨v, ws, rfl, _, v2, ws2, rfl, _, v3, ws3, rfl, _, rfl⟩, _⟩ := h
    rfl
  · obtain ⟨⟨L, sp, z, _⟩, ⟨v, _, rfl, h1, v2, _, rfl, h2, v3, _, rfl, h3, rfl⟩, ⟨hW, hs, hz⟩, k⟩ := h
    have hW : WF L := hW
    have hb : bitsAt L sp < 16 := bitsOf_lt (Nat.le_trans hW.p3 (by decide))
    refine ss_ret (ev_call cPar (hr.mono (by decide)) (ea_cons (nat_of_int ((ev_bitand (int_of_nat (ev_call cBat hr (ea_consS (ev_nmS 0 rfl h1) (ea_cons (ev_nm 1 rfl h2) ea_nil)) ⟨hW, hs⟩)) (int_of_nat (ev_call cRbi (hr.mono (by decide)) (ea_cons (ev_nm 2 rfl h3) ea_nil) hz))).eq (PySem.W.os_band _ _))) ea_nil) ?_) (fun v H1 s rv => k v H1 s rv)
    show (bitsAt L sp &&& recordBits z) < 16
    exact Nat.lt_of_le_of_lt Nat.and_le_left hb
/-! answer_of -/
abbrev sAns : Stmt := top 49
abbrev nAns : List Str := ["shelf", "keeper", "record", "spot"]
theorem scAns : FnScope nAns ["shelf", "keeper", "record"] (defScope sAns) := ⟨rfl, rfl, rfl, by decide +kernel, rfl, by decide +kernel, by decide +kernel⟩
abbrev spAns (C CC : Addr) : Sp := SpF (aConsS (rShelf C CC) (aCons rStr (aCons rStr aNil))) (fun i => WF i.1 ∧ i.2.2.1.length ≤ 1000) rStr fun i => answerOf i.1 i.2.1 i.2.2.1
theorem spotsOf_len {L : Lore} (W : WF L) (lot : List Str) : (spotsOf L lot).length ≤ 12 := Nat.le_trans (List.length_filter_le _ _) (spots_of_len W)
theorem ok_answer_of (T : Glo mg) (F : Fun K "answer_of" "answer_of" sAns f fd) (cVat : Cal P w K mg base 4 "value_at" (spVat C CC)) (cSpo : Cal P w K mg base 1 "spots_of" (spSpo C CC)) : FnOk P w K mg base CX0 5 f fd ["shelf", "keeper", "record"] (spAns C CC) := by
  refine F.ok (N := nAns) scAns (fun vs H Q E h => ?_) (fun cdv A outer s H vs Q E hr h => ⟨wpSs _ _, wpSs_pss, ?_⟩)
  · obtain ⟨i, ⟨v, ws, rfl, _, v2, ws2, rfl, _, v3, ws3, rfl, _, rfl⟩, _⟩ := h
    rfl
  · obtain ⟨⟨L, n, z, _⟩, ⟨v, _, rfl, h1, v2, _, rfl, h2, v3, _, rfl, h3, rfl⟩, ⟨hW, hz⟩, k⟩ := h
    have hW : WF L := hW
    refine ss_ret (ev_joinL (ys := (spotsOf L [n]).map fun s => numS (valueAt L s z)) ?_ ev_str (el_map1 (j := 3) (t := rStr) (f := fun s => numS (valueAt L s z)) rfl scAns.nd (blkOk_by (N := nAns) (sc := defScope sAns) (by decide +kernel))
      (ei_newlist (el_call cSpo (hr.mono (by decide)) (ea_consS (ev_nmS 0 rfl h1) (ea_cons (ev_tup (el_cons (ev_nm 1 rfl h2) el_nil) (by simp)) ea_nil)) hW)) (Nat.le_trans (spotsOf_len hW _) (by decide))
      (fun v x H1 hx s1 rx s H0 C' cl fp => ev_strI T.str ?_ (int_of_nat (ev_call cVat hr (ea_consS (ev_nmS 0 rfl ((rShelf C CC).up s1 h1)) (ea_cons (ev_nm 3 rfl rx) (ea_cons (ev_nm 2 rfl (rStr.up (Same.T s1) h3)) ea_nil))) ⟨hW, (List.mem_filter.mp hx).1, hz⟩))))) (fun v H1 s rv => k v H1 s rv)
    · rw [sum_one (fun z' hz' => by obtain ⟨i, _, rfl⟩ := List.mem_map.mp hz'; exact numS_len (valueAt_lt L i z))]
      have := spotsOf_len hW [n]
      have h0 : (Str.ofString "").length = 0 := rfl
      rw [h0]
      simp
      omega
    · have := valueAt_lt L x z
      have : valueAt L x z = 0 ∨ valueAt L x z = 1 := by omega
      rcases this with e | e <;> (simp only [e]; decide)
end
end LK
set_option maxHeartbeats 4000000
namespace LK
open PySem PySem.Spec PyProof.Rows L2
/-- any tuple, told by its length -/
def rAnyT : R Nat := ⟨fun H v n => ∃ p vs, v = .ref p ∧ Rd H p (.tup vs) ∧ vs.length = n, fun e ⟨p, vs, a, b, c⟩ => ⟨p, vs, a, e.rd b, c⟩⟩
theorem rty_any {n : Nat} : RTy rAnyT n "tuple" := fun K H v ⟨p, vs, e, h, _⟩ => by
  rw [e]
  rcases h with h | ⟨o, h⟩
  · exact .base (.tup h)
  · exact .fTuple h
theorem tup_any {α : Type} {r : R α} {H : Hp} {v : V} {xs : List α} (h : (rTup r).rel H v xs) : rAnyT.rel H v xs.length := by
  obtain ⟨p, vs, a, b, c⟩ := h
  exact ⟨p, vs, a, b, us_length c⟩
theorem pair_any {α β : Type} {r : R α} {t : R β} {H : Hp} {v : V} {x : α × β} (h : (rPair r t).rel H v x) : rAnyT.rel H v 2 := by
  obtain ⟨p, a, b, e, hp, _, _⟩ := h
  exact ⟨p, [a, b], e, .inl hp, rfl⟩
theorem pair_tup {α : Type} {r : R α} {H : Hp} {v : V} {x : α × α} (h : (rPair r r).rel H v x) : (rTup r).rel H v [x.1, x.2] := by
  obtain ⟨p, a, b, e, hp, h1, h2⟩ := h
  exact ⟨p, [a, b], e, .inl hp, .cons h1 (.cons h2 .nil)⟩
def mostOk (n : Nat) (m : V) : Bool := match m with
  | .int k => decide ((n : Int) ≤ k)
  | _ => true
def tupOk (n : Nat) (l : Int) (m : V) : Bool := decide (l ≤ (n : Int)) && mostOk n m
def isAns (L : Lore) (x : Str × Str) : Bool := decide (x.1 ∈ L.names) && (decide (x.2.length = (spotsOf L [x.1]).length) && ((signs x.2).map fun z => decide (z ∈ [("0" : Str), "1"])).all id)
def areAns (L : Lore) (as : List (Str × Str)) : Bool := (as.map (isAns L)).all id && decide (as.map (·.1) = L.names.filter fun n => decide (n ∈ as.map (·.1)))
def liarsBy (L : Lore) (as : List (Str × Str)) (z : Str) : List Str := lotOf L.names ((as.filter fun x => !decide (answerOf L x.1 z = x.2)).map (·.1))
def believedBy (L : Lore) (as : List (Str × Str)) (b : Int) : List Str := sortStr ((records L.parts.length).filter fun z => decide (((liarsBy L as z).length : Int) ≤ b))
theorem hu_of' {A : Around} {k : Nat} (hr : Room k A) : A.units + 64 < cLine := hr.units
theorem rec_len {n : Nat} {z : Str} (h : z ∈ records n) : z.length ≤ n := by
  obtain ⟨b, _, rfl⟩ := List.mem_map.mp h
  unfold recordOf
  have key : ∀ l : List Str, (∀ y ∈ l, y.length = 1) → (Txt.join "" l).length = l.length := by
    intro l hl
    rw [TL.join_eq]
    have h2 : ∀ l : List Str, (∀ y ∈ l, y.length = 1) → (Str.join "" l).length = l.length := by
      intro l
      induction l with
      | nil => intro _; rfl
      | cons a t ih =>
        intro hl
        cases t with
        | nil => show a.length = 1; exact hl a List.mem_cons_self
        | cons b r =>
          have e : (Str.join "" (a :: b :: r)).length = a.length + ("" : Str).length + (Str.join "" (b :: r)).length := by
            show (a ++ "" ++ Str.join "" (b :: r)).length = _
            show (a ++ "" ++ Str.join "" (b :: r)).cps.size = _
            show ((a.cps ++ ("" : Str).cps) ++ (Str.join "" (b :: r)).cps).size = a.cps.size + ("" : Str).cps.size + (Str.join "" (b :: r)).cps.size
            rw [Array.size_append, Array.size_append]
          rw [e, ih (fun y hy => hl y (List.mem_cons_of_mem _ hy)), hl a List.mem_cons_self]
          have : ("" : Str).length = 0 := rfl
          rw [this]
          simp only [List.length_cons]
          omega
    exact h2 l hl
  rw [key _ (fun y hy => by obtain ⟨i, _, rfl⟩ := List.mem_map.mp hy; exact markOf_len b i)]
  simp
theorem rec_len' {L : Lore} (W : WF L) {z : Str} (h : z ∈ records L.parts.length) : z.length ≤ 1000 := Nat.le_trans (rec_len h) (Nat.le_trans W.p3 (by decide))
theorem records_len {L : Lore} (W : WF L) : (records L.parts.length).length ≤ 8 := by
  unfold records
  rw [List.length_map, List.length_range]
  exact Nat.pow_le_pow_right (by decide) W.p3
section
variable {X : Cx} {a b : Expr} {σ : L2.St} {H : Hp} {pos : Pos}
theorem et_inS {z : Str} {xs : List Str} (ha : Ev X a σ H rStr z) (hb : EvS X b σ H (rLst rStr) xs) (hm : behindInMarks .In b = false := by rfl) : EvT X (.Compare a [.In] [b] pos) σ H (decide (z ∈ xs)) := fun H1 s Q q =>
  wpT_of (pt_cmpR op_in_seq wpE_pe wpE_pe hm) (ha H1 s _ fun v H2 s2 rv => hb H2 (s.trans s2) _ fun w H3 s3 ⟨p, vs, ew, hp, hu⟩ => by
    cases (show v = _ from rv)
    refine ⟨p, vs, ew, .inl (SqL.of hp), rfl, by rw [us_str hu]; exact flat_strs _, decide (z ∈ xs), ?_, q H3 (s2.trans s3)⟩
    rw [if_neg (by decide), us_str hu, inV_str])
end
section
variable {P : Program} {w : World} {K : PySem.W.Frag} {mg : Str → Option Value} {base : Heap} {f C CC : Addr} {fd : FuncData}
/-! lot_ofL -/
abbrev spLotL : Sp := SpF (aCons (rTup rStr) (aConsS (rLst rStr) aNil)) (fun i => i.1.length ≤ 1000) (rTup rStr) fun i => lotOf i.1 i.2.1
theorem ok_lot_ofL (T : Glo mg) (F : Fun K "lot_of" "lot_of" sLot f fd) : FnOk P w K mg base CX0 1 f fd ["names", "some"] spLotL := by
  refine F.ok (N := nLot) scLot (fun vs H Q E h => ?_) (fun cdv A outer s H vs Q E hr h => ⟨wpSs _ _, wpSs_pss, ?_⟩)
  · obtain ⟨i, ⟨v, ws, rfl, _, v2, ws2, rfl, _, rfl⟩, _⟩ := h
    rfl
  · obtain ⟨⟨ns, so, _⟩, ⟨v, _, rfl, h1, v2, _, rfl, h2, rfl⟩, hl, k⟩ := h
    exact ss_ret (ev_tuple T.tuple (el_fil1 (j := 2) rfl scLot.nd (blkOk_by (N := nLot) (sc := defScope sLot) (by decide +kernel)) (ei_tup (ev_nm 0 rfl h1)) (Nat.le_trans hl (by decide))
      (fun v x H1 hx s1 rx s H0 C cl fp => et_inS (ev_nm 2 rfl rx) (ev_nmS 1 rfl ((rLst rStr).up s1 h2))) (fun v x H1 hx s1 rx s H0 C cl fp => ev_nm 2 rfl rx))) (fun v H1 s rv => k v H1 s rv)
/-! is_integer -/
abbrev sInt : Stmt := top 17
abbrev nInt : List Str := ["value", "low", "high"]
theorem scInt : FnScope nInt ["value", "low", "high"] (defScope sInt) := ⟨rfl, rfl, rfl, by decide +kernel, rfl, by decide +kernel, by decide +kernel⟩
abbrev spInt : Sp := SpF (aCons rInt (aCons rInt (aCons rInt aNil))) (fun _ => True) rBool fun i => decide (i.2.1 ≤ i.1) && decide (i.1 ≤ i.2.2.1)
abbrev FI (K : PySem.W.Frag) (f : Addr) (fd : FuncData) : Prop := FunD K "is_integer" "is_integer" (defArgs sInt) (defBody sInt) (defScope sInt) [.non, .non] [] f fd
theorem int_val {X : Cx} {a : Expr} {σ : L2.St} {H : Hp} {i : Int} (h : Ev X a σ H rInt i) : Ev X a σ H rVal (.int i) := h.to fun _ _ q => q
theorem ok_is_integer (T : Glo mg) (F : FI K f fd) : FnOk P w K mg base CX0 1 f fd ["value", "low", "high"] spInt := by
  refine F.ok (N := nInt) scInt (fun vs H Q E h => ?_) (fun cdv A outer s H vs Q E hr h => ⟨_, PSs.nox wpSs_pss, ?_⟩)
  · obtain ⟨i, ⟨v, ws, rfl, _, v2, ws2, rfl, _, v3, ws3, rfl, _, rfl⟩, _⟩ := h
    rfl
  · obtain ⟨⟨i, lo, hi, _⟩, ⟨v, _, rfl, h1, v2, _, rfl, h2, v3, _, rfl, h3, rfl⟩, -, k⟩ := h
    have k : ∀ v H', Same H H' → rBool.rel H' v (decide (lo ≤ i) && decide (i ≤ hi)) → Q v H' := k
    refine ss_no ((et_or (et_not (et_val (ev_isi T.isinstance (ev_nm 0 rfl h1) (ev_bty (by decide +kernel) T.int) rty_int kb_ii))) (fun _ => et_val (ev_isi T.isinstance (ev_nm 0 rfl h1) (ev_bty (by decide +kernel) T.bool) rty_int kb_ib))).eq rfl) fun H2 s2 => ?_
    have h1 := rInt.up (Same.T s2) h1
    have h2 := rInt.up (Same.T s2) h2
    have h3 := rInt.up (Same.T s2) h3
    refine ss_ret ((ev_and (k := decide (lo ≤ i)) (l := decide (i ≤ hi)) ((ev_or (k := false) ((ev_isN (int_val (ev_nm 1 rfl h2))).eq (by simp)) (fun _ => ev_ge (ev_nm 0 rfl h1) (ev_nm 1 rfl h2))).eq (by simp)) (fun _ => (ev_or (k := false) ((ev_isN (int_val (ev_nm 2 rfl h3))).eq (by simp)) (fun _ => ev_le (ev_nm 0 rfl h1) (ev_nm 2 rfl h3))).eq (by simp)))) (fun v H3 s3 rv => k v H3 (s2.trans s3) rv)
/-! is_tuple -/
abbrev sTup : Stmt := top 18
abbrev nTup : List Str := ["value", "least", "most"]
theorem scTup : FnScope nTup ["value", "least", "most"] (defScope sTup) := ⟨rfl, rfl, rfl, by decide +kernel, rfl, by decide +kernel, by decide +kernel⟩
abbrev spTup3 : Sp := SpF (aCons rAnyT (aCons rInt (aCons rVal aNil))) (fun i => i.1 ≤ 1000 ∧ (i.2.2.1 = .non ∨ ∃ k, i.2.2.1 = .int k)) rBool fun i => tupOk i.1 i.2.1 i.2.2.1
abbrev FT (K : PySem.W.Frag) (f : Addr) (fd : FuncData) : Prop := FunD K "is_tuple" "is_tuple" (defArgs sTup) (defBody sTup) (defScope sTup) [.int 0, .non] [] f fd
theorem ok_is_tuple (T : Glo mg) (F : FT K f fd) : FnOk P w K mg base CX0 1 f fd ["value", "least", "most"] spTup3 := by
  refine F.ok (N := nTup) scTup (fun vs H Q E h => ?_) (fun cdv A outer s H vs Q E hr h => ⟨_, PSs.nox wpSs_pss, ?_⟩)
  · obtain ⟨i, ⟨v, ws, rfl, _, v2, ws2, rfl, _, v3, ws3, rfl, _, rfl⟩, _⟩ := h
    rfl
  · obtain ⟨⟨n, lo, m, _⟩, ⟨v, _, rfl, h1, v2, _, rfl, h2, v3, _, rfl, h3, rfl⟩, ⟨hn, hm⟩, k⟩ := h
    have h3 : v3 = m := h3
    subst h3
    have e1 : ∀ {X : Cx} {a : Expr} {σ : L2.St} {pos p : Pos} (hm : X.mg "len" = none) (ha : Ev X a σ H rAnyT n) (hg : Gl X "len") (he : starEach [a] X.env = (false, eval a X.env) :: starEach [] X.env) (hpl : (backTo pos (starEach [] X.env)).any (·.1) = false), Ev X (.Call (.Name "len" p) [a] [] pos) σ H rNat n :=
      fun hm ha hg he hpl => ev_b1 call_len_seq PySem.boot_len hm ha (fun v H1 Q s ⟨p, vs, ev, hp, hu⟩ q => ⟨p, vs, by rw [ev], .inr (.inl hp), q _ H1 (Same.refl _) (by rw [hu]; rfl)⟩) hg (by decide) (by decide) he hpl
    refine ss_ret ((ev_and3 (k := true) (l := decide (lo ≤ (n : Int))) (m := mostOk n v3) (ev_isi T.isinstance (ev_nm 0 rfl h1) (ev_bty (by decide +kernel) T.tuple) rty_any kb_tt) (fun _ => ev_ge (int_of_nat (e1 T.len (ev_nm 0 rfl h1) (by rfl) (by rfl) (by rfl))) (ev_nm 1 rfl h2)) (fun _ _ => ?_)).eq ?_) (fun v H1 s rv => k v H1 s rv)
    · rcases hm with e | ⟨q, e⟩
      · have e : v3 = .non := e
        subst e
        exact (ev_or (k := true) (l := true) ((ev_isN (ev_nm (r := rVal) 2 rfl rfl)).eq (by simp)) (fun z => Bool.noConfusion z)).eq (by simp [mostOk])
      · have e : v3 = .int q := e
        subst e
        exact (ev_or (k := false) ((ev_isN (ev_nm (r := rVal) 2 rfl rfl)).eq (by simp)) (fun _ => ev_le (int_of_nat (e1 T.len (ev_nm 0 rfl h1) (by rfl) (by rfl) (by rfl))) (ev_nm (r := rInt) 2 rfl rfl))).eq (by simp [mostOk])
    · unfold tupOk
      simp
/-! is_answer -/
abbrev sIan : Stmt := top 52
abbrev nIan : List Str := ["shelf", "value", "many", "mark"]
theorem scIan : FnScope nIan ["shelf", "value"] (defScope sIan) := ⟨rfl, rfl, rfl, by decide +kernel, rfl, by decide +kernel, by decide +kernel⟩
abbrev spIan (C CC : Addr) : Sp := SpF (aConsS (rShelf C CC) (aCons (rPair rStr rStr) aNil)) (fun i => WF i.1 ∧ i.2.1.2.length ≤ 1000) rBool fun i => isAns i.1 i.2.1
abbrev spTupP : Sp := spTup3
theorem ok_is_answer (T : Glo mg) (S : ShTxt P w K mg base C CC) (F : Fun K "is_answer" "is_answer" sIan f fd) (cTup : Cal P w K mg base 1 "is_tuple" spTup3) (cWord : Cal P w K mg base 1 "is_word" spWord) (cSpo : Cal P w K mg base 1 "spots_of" (spSpo C CC)) : FnOk P w K mg base CX0 3 f fd ["shelf", "value"] (spIan C CC) := by
  refine F.ok (N := nIan) scIan (fun vs H Q E h => ?_) (fun cdv A outer s H vs Q E hr h => ⟨wpSs _ _, wpSs_pss, ?_⟩)
  · obtain ⟨i, ⟨v, ws, rfl, _, v2, ws2, rfl, _, rfl⟩, _⟩ := h
    rfl
  · obtain ⟨⟨L, x, _⟩, ⟨v, _, rfl, h1, v2, _, rfl, h2, rfl⟩, ⟨hW, hx⟩, k⟩ := h
    have hW : WF L := hW
    have hx : x.2.length ≤ 1000 := hx
    have k : ∀ v H', Same H H' → rBool.rel H' v (isAns L x) → Q v H' := k
    refine ss_if (k := !decide (x.1 ∈ L.names)) ((et_or3 (k := false) (l := !decide (x.1 ∈ L.names)) (m := false) ((et_not (et_val (ev_call cTup (hr.mono (by decide)) (o := true) (ea_cons (ev_nm 1 rfl (pair_any h2)) (ea_cons (ev_gI T.PAIR_answers) (ea_cons (int_val (ev_gI T.PAIR_answers)) ea_nil))) ⟨by decide, .inr ⟨_, rfl⟩⟩ rfl))).eq rfl)
      (fun _ => et_not (et_val (ev_call cWord (hr.mono (by decide)) (ea_cons (ev_pair0 (ev_nm 1 rfl h2)) (ea_cons (ev_names S hr (ev_circle S hr (ev_nmS 0 rfl h1))).tup ea_nil)) trivial)))
      (fun _ _ => (et_not (et_val (ev_isi T.isinstance (ev_pair1 (ev_nm 1 rfl h2)) (ev_bty (by decide +kernel) T.str) rty_str kb_ss))).eq rfl)).eq (by simp)) (fun hq H2 s2 => ?_) (fun hq H2 s2 => ss_nil ?_)
    · refine ss_ret ev_bl (fun v H3 s3 rv => k v H3 (s2.trans s3) ?_)
      have : isAns L x = false := by
        unfold isAns
        have : decide (x.1 ∈ L.names) = false := by simpa using hq
        rw [this, Bool.false_and]
      rw [this]
      exact rv
    · have hq : decide (x.1 ∈ L.names) = true := by simpa using hq
      have h1 := (rShelf C CC).up s2 h1
      have h2 := (rPair rStr rStr).up (Same.T s2) h2
      refine ss_set (i := 2) (ev_lenL T.len (el_call cSpo (hr.mono (by decide)) (ea_consS (ev_nmS 0 rfl h1) (ea_cons (ev_takeT (k := 1) (xs := [x.1, x.2]) (by simp) (ev_nm 1 rfl (pair_tup h2)) ev_int) ea_nil)) hW)) (fun v H3 s3 rv => ?_) scIan.nd
      have h2 := (rPair rStr rStr).up (Same.T s3) h2
      refine ss_ret ((ev_and (ev_eqI (int_of_nat (ev_lenS T.len (by omega) (ev_pair1 (ev_nm 1 rfl h2)))) (int_of_nat (ev_nm 2 rfl rv))) (fun _ => ev_all rfl T.all (el_map1 (j := 3) (t := rBool) (f := fun z => decide (z ∈ [("0" : Str), "1"])) rfl scIan.nd (blkOk_by (N := nIan) (sc := defScope sIan) (by decide +kernel)) (ei_str (ev_pair1 (ev_nm 1 rfl h2))) (by rw [signs_length]; exact Nat.le_trans hx (by decide))
        (fun v x H1 hx s1 rx s H0 C cl fp => ev_inT (ev_nm 3 rfl rx) (ev_tup (el_cons (ev_gS T.NOUGHT) (el_cons (ev_gS T.ONE) el_nil)) (by simp)))))).eq ?_) (fun v H4 s4 rv => k v H4 ((s2.trans s3).trans s4) rv)
      unfold isAns
      rw [hq, Bool.true_and]
      congr 1
      exact (show decide (((x.2.length : Nat) : Int) = (((spotsOf L [x.1]).length : Nat) : Int)) = decide (x.2.length = (spotsOf L [x.1]).length) from decide_eq_decide.mpr (by omega))
/-! are_answers -/
abbrev sAre : Stmt := top 53
abbrev nAre : List Str := ["shelf", "value", "keepers", "row", "keeper", "values"]
theorem scAre : FnScope nAre ["shelf", "value"] (defScope sAre) := ⟨rfl, rfl, rfl, by decide +kernel, rfl, by decide +kernel, by decide +kernel⟩
abbrev rAs : R (List (Str × Str)) := rTup (rPair rStr rStr)
abbrev spAre (C CC : Addr) : Sp := SpF (aConsS (rShelf C CC) (aCons rAs aNil)) (fun i => WF i.1 ∧ i.2.1.length ≤ 100 ∧ ∀ x ∈ i.2.1, x.2.length ≤ 1000) rBool fun i => areAns i.1 i.2.1
theorem eqv_all_str : ∀ xs ys : List Str, PyData.eqvAll (xs.map PyData.str) (ys.map PyData.str) = decide (xs = ys)
  | [], [] => rfl
  | [], _ :: _ => by simp [PyData.eqvAll]
  | _ :: _, [] => by simp [PyData.eqvAll]
  | x :: xs, y :: ys => by
    simp only [List.map_cons, PyData.eqvAll, PyData.eqv, eqv_all_str xs ys]
    by_cases h : x = y
    · subst h; simp
    · simp [h]
theorem lay_strs : ∀ xs : List Str, (∀ n ∈ xs, PyData.canLay0 (.str n) = true) → PyData.canLayAll0 (xs.map PyData.str) = true
  | [], _ => rfl
  | x :: xs, h => by
    simp only [List.map_cons, PyData.canLayAll0, lay_strs xs fun n hn => h n (List.mem_cons_of_mem _ hn), Bool.and_true]
    exact h x List.mem_cons_self
theorem depth_strs : ∀ xs : List Str, PyData.depthAll (xs.map PyData.str) = 0
  | [] => rfl
  | x :: xs => by simp [PyData.depthAll, PyData.depth, depth_strs xs]
theorem shaped_strs (xs : List Str) (h : ∀ n ∈ xs, PyData.canLay0 (.str n) = true) : SeqAt.shaped (.list (xs.map PyData.str)) = true := by
  simp [SeqAt.shaped, PyData.canLay0, PyData.depth, lay_strs xs h, depth_strs]
theorem shaped_strsT (xs : List Str) (h : ∀ n ∈ xs, PyData.canLay0 (.str n) = true) : SeqAt.shaped (.tuple (xs.map PyData.str)) = true := by
  simp [SeqAt.shaped, PyData.canLay0, PyData.depth, lay_strs xs h, depth_strs]
theorem ok_are_answers (T : Glo mg) (S : ShTxt P w K mg base C CC) (F : Fun K "are_answers" "are_answers" sAre f fd) (cTup1 : Cal P w K mg base 1 "is_tuple" (SpF (aCons rAnyT aNil) (fun i => i.1 ≤ 1000) rBool fun _ => true)) (cIan : Cal P w K mg base 3 "is_answer" (spIan C CC)) : FnOk P w K mg base CX0 4 f fd ["shelf", "value"] (spAre C CC) := by
  refine F.ok (N := nAre) scAre (fun vs H Q E h => ?_) (fun cdv A outer s H vs Q E hr h => ⟨wpSs _ _, wpSs_pss, ?_⟩)
  · obtain ⟨i, ⟨v, ws, rfl, _, v2, ws2, rfl, _, rfl⟩, _⟩ := h
    rfl
  · obtain ⟨⟨L, as, _⟩, ⟨v, _, rfl, h1, v2, _, rfl, h2, rfl⟩, ⟨hW, hn, hz⟩, k⟩ := h
    have hW : WF L := hW
    have hn : as.length ≤ 100 := hn
    have hz : ∀ x ∈ as, x.2.length ≤ 1000 := hz
    have k : ∀ v H', Same H H' → rBool.rel H' v (areAns L as) → Q v H' := k
    refine ss_if (k := !(as.map (isAns L)).all id) ((et_or (k := false) ((et_not (et_val (ev_call cTup1 (hr.mono (by decide)) (o := true) (ea_cons (ev_nm 1 rfl (tup_any h2)) ea_nil) (Nat.le_trans hn (by decide)) rfl))).eq rfl)
      (fun _ => et_not (et_val (ev_all rfl T.all (el_map1 (j := 3) (t := rBool) (f := isAns L) rfl scAre.nd (blkOk_by (N := nAre) (sc := defScope sAre) (by decide +kernel)) (ei_tup (ev_nm 1 rfl h2)) (Nat.le_trans hn (by decide))
        (fun v x H1 hx s1 rx s H0 C' cl fp => ev_call cIan hr (ea_consS (ev_nmS 0 rfl ((rShelf C CC).up s1 h1)) (ea_cons (ev_nm 3 rfl rx) ea_nil)) ⟨hW, hz x hx⟩)))))).eq (by simp)) (fun hq H2 s2 => ?_) (fun hq H2 s2 => ss_nil ?_)
    · refine ss_ret ev_bl (fun v H3 s3 rv => k v H3 (s2.trans s3) ?_)
      have : areAns L as = false := by
        unfold areAns
        have : (as.map (isAns L)).all id = false := by simpa using hq
        rw [this, Bool.false_and]
      rw [this]
      exact rv
    · have hq : (as.map (isAns L)).all id = true := by simpa using hq
      have hok : ∀ n ∈ as.map (·.1), PyData.canLay0 (.str n) = true := fun n hn => by
        obtain ⟨x, hx, rfl⟩ := List.mem_map.mp hn
        have h4 := List.all_eq_true.mp hq (isAns L x) (List.mem_map.mpr ⟨x, hx, rfl⟩)
        have h4 : isAns L x = true := h4
        unfold isAns at h4
        simp only [Bool.and_eq_true, decide_eq_true_eq] at h4
        exact hW.okS _ h4.1
      have h1 := (rShelf C CC).up s2 h1
      have h2 := rAs.up (Same.T s2) h2
      refine ss_setL (i := 2) (el_map2 (j1 := 4) (j2 := 5) (t := rStr) (f := fun x => x.1) (by decide) rfl scAre.nd (blkOk_by (N := nAre) (sc := defScope sAre) (by decide +kernel)) (ei_tup (ev_nm 1 rfl h2)) (Nat.le_trans hn (by decide)) (fun v w x H1 hx s1 r1 r2 s H0 C' cl fp => ev_nm 4 rfl r1)) (fun p vs H3 np s3 hp hu => ?_) scAre.nd
      have h1 := (rShelf C CC).up s3 h1
      have hus := us_str hu
      refine ss_ret (ev_eqLL (k := decide (as.map (·.1) = L.names.filter fun n => decide (n ∈ as.map (·.1)))) (hu_of' hr) enc_str (ev_nm 2 rfl rfl) hp hu (el_fil1 (j := 4) rfl scAre.nd (blkOk_by (N := nAre) (sc := defScope sAre) (by decide +kernel)) (ei_tup (ev_names S (hr.mono (by decide)) (ev_circle S (hr.mono (by decide)) (ev_nmS 0 rfl h1))).tup) (Nat.le_trans hW.n6 (by decide))
        (fun v x H1 hx s1 rx s H0 C' cl fp => et_inL (ev_nm 4 rfl rx) (ev_nm (r := rVal) 2 rfl rfl) (by rw [← hus]; exact s1 _ _ hp)) (fun v x H1 hx s1 rx s H0 C' cl fp => ev_nm 4 rfl rx)) (shaped_strs _ hok) (shaped_strs _ fun n hn => hW.okS n (List.mem_filter.mp hn).1) (eqv_all_str _ _)) (fun v H4 s4 rv => k v H4 ((s2.trans s3).trans s4) ?_)
      have : areAns L as = decide (as.map (·.1) = L.names.filter fun n => decide (n ∈ as.map (·.1))) := by
        unfold areAns
        rw [hq, Bool.true_and]
      rw [this]
      exact rv
/-! check_answers -/
abbrev sChk : Stmt := top 54
abbrev nChk : List Str := ["shelf", "value"]
theorem scChk : FnScope nChk ["shelf", "value"] (defScope sChk) := ⟨rfl, rfl, rfl, by decide +kernel, rfl, by decide +kernel, by decide +kernel⟩
/-- answers that are told as they should -/
structure Good (L : Lore) (as : List (Str × Str)) : Prop where
  few : as.length ≤ 6
  short : ∀ x ∈ as, x.2.length ≤ 2
  ok : areAns L as = true
abbrev spChk (C CC : Addr) : Sp := SpF (aConsS (rShelf C CC) (aCons rAs aNil)) (fun i => WF i.1 ∧ Good i.1 i.2.1) rVal fun _ => .non
theorem ok_check_answers (F : Fun K "check_answers" "check_answers" sChk f fd) (cAre : Cal P w K mg base 4 "are_answers" (spAre C CC)) : FnOk P w K mg base CX0 5 f fd ["shelf", "value"] (spChk C CC) := by
  refine F.ok (N := nChk) scChk (fun vs H Q E h => ?_) (fun cdv A outer s H vs Q E hr h => ⟨wpSs _ _, wpSs_pss, ?_⟩)
  · obtain ⟨i, ⟨v, ws, rfl, _, v2, ws2, rfl, _, rfl⟩, _⟩ := h
    rfl
  · obtain ⟨⟨L, as, _⟩, ⟨v, _, rfl, h1, v2, _, rfl, h2, rfl⟩, ⟨hW, hG⟩, k⟩ := h
    have hG : Good L as := hG
    exact ss_no ((et_not (et_val (ev_call cAre hr (o := true) (ea_consS (ev_nmS 0 rfl h1) (ea_cons (ev_nm 1 rfl h2) ea_nil)) ⟨hW, Nat.le_trans hG.few (by decide), fun x hx => Nat.le_trans (hG.short x hx) (by decide)⟩ hG.ok))).eq rfl) fun H2 s2 => ss_nil (k _ H2 s2 rfl)
/-! check_bound -/
abbrev sChb : Stmt := top 57
abbrev nChb : List Str := ["value"]
theorem scChb : FnScope nChb ["value"] (defScope sChb) := ⟨rfl, rfl, rfl, by decide +kernel, rfl, by decide +kernel, by decide +kernel⟩
abbrev spChb : Sp := SpF (aCons rInt aNil) (fun i => 0 ≤ i.1 ∧ i.1 ≤ 3) rVal fun _ => .non
theorem ok_check_bound (T : Glo mg) (F : Fun K "check_bound" "check_bound" sChb f fd) (cInt : Cal P w K mg base 1 "is_integer" spInt) : FnOk P w K mg base CX0 2 f fd ["value"] spChb := by
  refine F.ok (N := nChb) scChb (fun vs H Q E h => ?_) (fun cdv A outer s H vs Q E hr h => ⟨wpSs _ _, wpSs_pss, ?_⟩)
  · obtain ⟨i, ⟨v, ws, rfl, _, rfl⟩, _⟩ := h
    rfl
  · obtain ⟨⟨i, _⟩, ⟨v, _, rfl, h1, rfl⟩, ⟨h0, h3⟩, k⟩ := h
    exact ss_no ((et_not (et_val (ev_call cInt hr (o := true) (ea_cons (ev_nm 0 rfl h1) (ea_cons ev_int (ea_cons (ev_gI T.MOST_LIES) ea_nil))) trivial (by
      show (decide (0 ≤ i) && decide (i ≤ 3)) = true
      rw [decide_eq_true h0, decide_eq_true h3] <;> rfl)))).eq rfl) fun H2 s2 => ss_nil (k _ H2 s2 rfl)
/-! liars_by -/
abbrev sLia : Stmt := top 58
abbrev nLia : List Str := ["shelf", "answers", "record", "some", "keeper", "values"]
theorem scLia : FnScope nLia ["shelf", "answers", "record"] (defScope sLia) := ⟨rfl, rfl, rfl, by decide +kernel, rfl, by decide +kernel, by decide +kernel⟩
abbrev spLia (C CC : Addr) : Sp := SpF (aConsS (rShelf C CC) (aCons rAs (aCons rStr aNil))) (fun i => WF i.1 ∧ i.2.1.length ≤ 100 ∧ i.2.2.1.length ≤ 1000) (rTup rStr) fun i => liarsBy i.1 i.2.1 i.2.2.1
theorem ok_liars_by (S : ShTxt P w K mg base C CC) (F : Fun K "liars_by" "liars_by" sLia f fd) (cAns : Cal P w K mg base 5 "answer_of" (spAns C CC)) (cLot : Cal P w K mg base 1 "lot_of" spLotL) : FnOk P w K mg base CX0 6 f fd ["shelf", "answers", "record"] (spLia C CC) := by
  refine F.ok (N := nLia) scLia (fun vs H Q E h => ?_) (fun cdv A outer s H vs Q E hr h => ⟨wpSs _ _, wpSs_pss, ?_⟩)
  · obtain ⟨i, ⟨v, ws, rfl, _, v2, ws2, rfl, _, v3, ws3, rfl, _, rfl⟩, _⟩ := h
    rfl
  · obtain ⟨⟨L, as, z, _⟩, ⟨v, _, rfl, h1, v2, _, rfl, h2, v3, _, rfl, h3, rfl⟩, ⟨hW, hn, hz⟩, k⟩ := h
    have hW : WF L := hW
    have hn : as.length ≤ 100 := hn
    refine ss_setLc2 (i := 3) (j1 := 4) (j2 := 5) (t := rStr) (f := fun x => x.1) (q := fun x => !decide (answerOf L x.1 z = x.2)) (by decide) rfl scLia.nd (blkOk_by (N := nLia) (sc := defScope sLia) (by decide +kernel)) (ei_tup (ev_nm 1 rfl h2)) (Nat.le_trans hn (by decide))
      (fun v w x H1 hx s1 r1 r2 s H0 C' cl fp => ⟨ef_one (et_neS (ev_call cAns hr (ea_consS (ev_nmS 0 rfl ((rShelf C CC).up s1 h1)) (ea_cons (ev_nm 4 rfl r1) (ea_cons (ev_nm 2 rfl (rStr.up (Same.T s1) h3)) ea_nil))) ⟨hW, hz⟩) (ev_nm 5 rfl r2)), fun _ => ev_nm 4 rfl r1⟩) (fun p vs H1 np s1 hp hu => ?_) (sw_true rfl rfl rfl (by decide +kernel))
    exact ss_ret (ev_call cLot (hr.mono (by decide)) (ea_cons (ev_names S (hr.mono (by decide)) (ev_circle S (hr.mono (by decide)) (ev_nmS 0 rfl ((rShelf C CC).up s1 h1)))).tup (ea_consS (r := rLst rStr) (ev_nmS 3 rfl ⟨p, vs, rfl, hp, hu⟩) ea_nil)) (Nat.le_trans hW.n6 (by decide))) (fun v H2 s2 rv => k v H2 (s1.trans s2) rv)
/-! believed_by -/
abbrev sBby : Stmt := top 59
abbrev nBby : List Str := ["shelf", "answers", "bound", "record"]
theorem scBby : FnScope nBby ["shelf", "answers", "bound"] (defScope sBby) := ⟨rfl, rfl, rfl, by decide +kernel, rfl, by decide +kernel, by decide +kernel⟩
abbrev spBby (C CC : Addr) : Sp := SpL (aConsS (rShelf C CC) (aCons rAs (aCons rInt aNil))) (fun i => WF i.1 ∧ i.2.1.length ≤ 100) rStr fun i => believedBy i.1 i.2.1 i.2.2.1
theorem ok_believed_by (T : Glo mg) (F : Fun K "believed_by" "believed_by" sBby f fd) (cRec : Cal P w K mg base 4 "records" (spRec C CC)) (cLia : Cal P w K mg base 6 "liars_by" (spLia C CC)) : FnOk P w K mg base CX0 7 f fd ["shelf", "answers", "bound"] (spBby C CC) := by
  refine F.ok (N := nBby) scBby (fun vs H Q E h => ?_) (fun cdv A outer s H vs Q E hr h => ⟨wpSs _ _, wpSs_pss, ?_⟩)
  · obtain ⟨i, ⟨v, ws, rfl, _, v2, ws2, rfl, _, v3, ws3, rfl, _, rfl⟩, _⟩ := h
    rfl
  · obtain ⟨⟨L, as, b, _⟩, ⟨v, _, rfl, h1, v2, _, rfl, h2, v3, _, rfl, h3, rfl⟩, ⟨hW, hn⟩, k⟩ := h
    have hW : WF L := hW
    have h8 := records_len hW
    exact ss_retL (el_sorted T.sorted (Nat.lt_of_le_of_lt (List.length_filter_le _ _) (by omega)) (el_fil1 (j := 3) (q := fun z => decide (((liarsBy L as z).length : Int) ≤ b)) rfl scBby.nd (blkOk_by (N := nBby) (sc := defScope sBby) (by decide +kernel)) (ei_newlist (el_call cRec (hr.mono (by decide)) (ea_consS (ev_nmS 0 rfl h1) ea_nil) hW)) (Nat.le_trans h8 (by decide))
      (fun v x H1 hx s1 rx s H0 C' cl fp => et_le (int_of_nat (ev_lenT T.len (ev_call cLia hr (ea_consS (ev_nmS 0 rfl ((rShelf C CC).up s1 h1)) (ea_cons (ev_nm 1 rfl (rAs.up (Same.T s1) h2)) (ea_cons (ev_nm 3 rfl rx) ea_nil))) ⟨hW, hn, rec_len' hW hx⟩))) (ev_nm 2 rfl (rInt.up (Same.T s1) h3))) (fun v x H1 hx s1 rx s H0 C' cl fp => ev_nm 3 rfl rx))) (fun p vs H1 np s hp hu => k p vs H1 np s hp hu)
/-! believed -/
abbrev sBel : Stmt := top 60
abbrev nBel : List Str := ["shelf", "answers", "bound"]
theorem scBel : FnScope nBel ["shelf", "answers", "bound"] (defScope sBel) := ⟨rfl, rfl, rfl, by decide +kernel, rfl, by decide +kernel, by decide +kernel⟩
abbrev spBel (C CC : Addr) : Sp := SpF (aConsS (rShelf C CC) (aCons rAs (aCons rInt aNil))) (fun i => WF i.1 ∧ Good i.1 i.2.1 ∧ 0 ≤ i.2.2.1 ∧ i.2.2.1 ≤ 3) (rTup rStr) fun i => believedBy i.1 i.2.1 i.2.2.1
theorem ok_believed (T : Glo mg) (F : Fun K "believed" "believed" sBel f fd) (cChk : Cal P w K mg base 5 "check_answers" (spChk C CC)) (cChb : Cal P w K mg base 2 "check_bound" spChb) (cBby : Cal P w K mg base 7 "believed_by" (spBby C CC)) : FnOk P w K mg base CX0 8 f fd ["shelf", "answers", "bound"] (spBel C CC) := by
  refine F.ok (N := nBel) scBel (fun vs H Q E h => ?_) (fun cdv A outer s H vs Q E hr h => ⟨wpSs _ _, wpSs_pss, ?_⟩)
  · obtain ⟨i, ⟨v, ws, rfl, _, v2, ws2, rfl, _, v3, ws3, rfl, _, rfl⟩, _⟩ := h
    rfl
  · obtain ⟨⟨L, as, b, _⟩, ⟨v, _, rfl, h1, v2, _, rfl, h2, v3, _, rfl, h3, rfl⟩, ⟨hW, hG, hb0, hb3⟩, k⟩ := h
    have hG : Good L as := hG
    refine ss_exprE (ev_call cChk (hr.mono (by decide)) (ea_consS (ev_nmS 0 rfl h1) (ea_cons (ev_nm 1 rfl h2) ea_nil)) ⟨hW, hG⟩) fun H1 s1 => ?_
    refine ss_exprE (ev_call cChb (hr.mono (by decide)) (ea_cons (ev_nm 2 rfl (rInt.up (Same.T s1) h3)) ea_nil) ⟨hb0, hb3⟩) fun H2 s2 => ?_
    have s12 := s1.trans s2
    exact ss_ret (ev_tuple T.tuple (el_call cBby hr (ea_consS (ev_nmS 0 rfl ((rShelf C CC).up s12 h1)) (ea_cons (ev_nm 1 rfl (rAs.up (Same.T s12) h2)) (ea_cons (ev_nm 2 rfl (rInt.up (Same.T s12) h3)) ea_nil))) ⟨hW, Nat.le_trans hG.few (by decide)⟩)) (fun v H3 s3 rv => k v H3 (s12.trans s3) rv)
end
end LK
set_option maxHeartbeats 4000000
namespace LK
open PySem PySem.Spec PyProof.Rows L2
def blank : Str := " "
def feed : Str := "\n"
def plus : Str := "+"
structure PartsOk (z : Str) (ws : List Str) : Prop where
  len : z.length ≤ 1000
  sp : Txt.split z blank = ("parts" : Str) :: ws
  one : 1 ≤ ws.length
  four : ws.length ≤ 4
  unl : areUnlike ws = true
  nm : ∀ n ∈ ws, n.length ≤ 1000 ∧ isName n = true
structure PieceOk (parts : List Str) (z : Str) (ps : List Str) : Prop where
  len : z.length ≤ 1000
  few : parts.length ≤ 1000
  sp : Txt.split z plus = ps
  eq : ps = parts.filter fun n => decide (n ∈ ps)
  okS : ∀ n ∈ ps, PyData.canLay0 (.str n) = true
structure KeeperOk (parts : List Str) (z name : Str) (ws : List Str) (pss : List (List Str)) : Prop where
  len : z.length ≤ 1000
  sp : Txt.split z blank = ("keeper" : Str) :: name :: ws
  one : 1 ≤ ws.length
  two : ws.length ≤ 2
  nml : name.length ≤ 1000
  nm : isName name = true
  eq : ws.map (fun w => Txt.split w plus) = pss
  pcs : ∀ w ∈ ws, PieceOk parts w (Txt.split w plus)
theorem hu65 {A : Around} {k : Nat} (hr : Room k A) : A.units + 65 < cLine := by have := hr.un; omega
theorem all_true {α : Type} {l : List α} {f : α → Bool} (h : ∀ x ∈ l, f x = true) : (l.map f).all id = true := by
  rw [List.all_eq_true]
  intro b hb
  obtain ⟨x, hx, rfl⟩ := List.mem_map.mp hb
  exact h x hx
section
variable {P : Program} {w : World} {K : PySem.W.Frag} {mg : Str → Option Value} {base : Heap} {f C CC : Addr} {fd : FuncData}
/-! read_parts -/
abbrev sRpa : Stmt := top 37
abbrev nRpa : List Str := ["line", "words", "names", "name"]
theorem scRpa : FnScope nRpa ["line"] (defScope sRpa) := ⟨rfl, rfl, rfl, by decide +kernel, rfl, by decide +kernel, by decide +kernel⟩
abbrev spRpa : Sp := SpF (aCons rStr aNil) (fun i => PartsOk i.1 ((Txt.split i.1 blank).drop 1)) (rTup rStr) fun i => (Txt.split i.1 blank).drop 1
theorem ok_read_parts (T : Glo mg) (F : Fun K "read_parts" "read_parts" sRpa f fd) (cUnl : Cal P w K mg base 1 "are_unlike" spUnl) (cName : Cal P w K mg base 1 "is_name" spName) : FnOk P w K mg base CX0 2 f fd ["line"] spRpa := by
  refine F.ok (N := nRpa) scRpa (fun vs H Q E h => ?_) (fun cdv A outer s H vs Q E hr h => ⟨wpSs _ _, wpSs_pss, ?_⟩)
  · obtain ⟨i, ⟨v, ws, rfl, _, rfl⟩, _⟩ := h
    rfl
  · obtain ⟨⟨z, _⟩, ⟨v, _, rfl, h1, rfl⟩, hp, k⟩ := h
    have hp : PartsOk z ((Txt.split z blank).drop 1) := hp
    have k : ∀ v H', Same H H' → (rTup rStr).rel H' v ((Txt.split z blank).drop 1) → Q v H' := k
    generalize ews : (Txt.split z blank).drop 1 = ws at hp k
    refine ss_setL (i := 1) (el_split (w := blank) (by decide) (Nat.le_trans hp.len (by decide)) (ev_nm 0 rfl h1) (ev_gS T.BLANK)) (fun l vs H1 np s1 hl hu => ?_) scRpa.nd
    rw [hp.sp] at hu
    have hln : vs.length = ws.length + 1 := by rw [us_length hu]; simp
    refine ss_set (i := 2) ((ev_tuple T.tuple (el_dropL (k := 1) (xs := ("parts" : Str) :: ws) (by simp) (ev_nm (r := rVal) 1 rfl rfl) hl hu ev_int)).eq (x' := ws) rfl) (fun v H2 s2 rv => ?_) scRpa.nd
    refine ss_no ((et_or3 (k := false) (l := false) (m := false) ((et_neS (ev_ixL (i := 0) (x := ("parts" : Str)) rfl (ev_nm (r := rVal) 1 rfl rfl) (s2 _ _ hl) (R.us_up (Same.T s2) hu) ev_int) (ev_gS T.PARTS)).eq (by simp))
      (fun _ => (et_not (et_chain op_le op_le ev_int (int_of_nat (ev_lenT T.len (ev_nm 2 rfl rv))) (ev_gI T.MOST_PARTS))).eq (by
        have h1 := hp.one
        have h2 := hp.four
        have : (decide ((1 : Int) ≤ (ws.length : Int)) && decide ((ws.length : Int) ≤ 4)) = true := by simp; omega
        rw [this]; rfl))
      (fun _ _ => (et_not (et_val (ev_call cUnl (hr.mono (by decide)) (o := true) (ea_cons (ev_nm 2 rfl rv) ea_nil) (Nat.le_trans hp.four (by decide)) hp.unl))).eq rfl)).eq rfl) fun H3 s3 => ?_
    have rv3 := (rTup rStr).up (Same.T s3) rv
    refine ss_ret (ev_if (k := true) ((et_val (ev_all rfl T.all (el_map1 (j := 3) (t := rBool) (f := isName) rfl scRpa.nd (blkOk_by (N := nRpa) (sc := defScope sRpa) (by decide +kernel)) (ei_tup (ev_nm 2 rfl rv3)) (Nat.le_trans hp.four (by decide))
      (fun v x H1 hx s1 rx s H0 C cl fp => ev_call cName hr (ea_cons (ev_nm 3 rfl rx) ea_nil) (hp.nm x hx).1)))).eq (all_true fun x hx => (hp.nm x hx).2)) (fun _ => ev_nm 2 rfl rv3) (fun z => Bool.noConfusion z)) (fun v H4 s4 rv => k v H4 (((s1.trans s2).trans s3).trans s4) rv)
/-! read_piece -/
abbrev sRpi : Stmt := top 38
abbrev nRpi : List Str := ["parts", "word", "some", "part"]
theorem scRpi : FnScope nRpi ["parts", "word"] (defScope sRpi) := ⟨rfl, rfl, rfl, by decide +kernel, rfl, by decide +kernel, by decide +kernel⟩
abbrev spRpi : Sp := SpF (aCons (rTup rStr) (aCons rStr aNil)) (fun i => PieceOk i.1 i.2.1 (Txt.split i.2.1 plus)) (rTup rStr) fun i => Txt.split i.2.1 plus
theorem eqv_allT (xs ys : List Str) (h : xs = ys) : PyData.eqv (.tuple (xs.map PyData.str)) (.tuple (ys.map PyData.str)) = true := by
  simp only [PyData.eqv, eqv_all_str, h, decide_true]
theorem ok_read_piece (T : Glo mg) (F : Fun K "read_piece" "read_piece" sRpi f fd) : FnOk P w K mg base CX0 1 f fd ["parts", "word"] spRpi := by
  refine F.ok (N := nRpi) scRpi (fun vs H Q E h => ?_) (fun cdv A outer s H vs Q E hr h => ⟨wpSs _ _, wpSs_pss, ?_⟩)
  · obtain ⟨i, ⟨v, ws, rfl, _, v2, ws2, rfl, _, rfl⟩, _⟩ := h
    rfl
  · obtain ⟨⟨parts, z, _⟩, ⟨v, _, rfl, h1, v2, _, rfl, h2, rfl⟩, hp, k⟩ := h
    have hp : PieceOk parts z (Txt.split z plus) := hp
    have k : ∀ v H', Same H H' → (rTup rStr).rel H' v (Txt.split z plus) → Q v H' := k
    generalize Txt.split z plus = ps at hp k
    refine ss_set (i := 2) ((ev_tuple T.tuple (el_split (w := plus) (by decide) (Nat.le_trans hp.len (by decide)) (ev_nm 1 rfl h2) (ev_gS T.PLUS))).eq (x' := ps) hp.sp) (fun v H2 s2 rv => ?_) scRpi.nd
    have h1 := (rTup rStr).up (Same.T s2) h1
    refine ss_ret (ev_if (k := true) (et_eqD (hu_of' hr) (enc_tup enc_str) (enc_tup enc_str) (ev_nm 2 rfl rv) (ev_tuple T.tuple (el_fil1 (j := 3) (q := fun n => decide (n ∈ ps)) rfl scRpi.nd (blkOk_by (N := nRpi) (sc := defScope sRpi) (by decide +kernel)) (ei_tup (ev_nm 0 rfl h1)) (Nat.le_trans hp.few (by decide))
        (fun v x H1 hx s1 rx s H0 C cl fp => et_inT (ev_nm 3 rfl rx) (ev_nm 2 rfl ((rTup rStr).up (Same.T s1) rv))) (fun v x H1 hx s1 rx s H0 C cl fp => ev_nm 3 rfl rx)))
      (shaped_strsT _ hp.okS) (shaped_strsT _ fun n hn => hp.okS n (by simpa using (List.mem_filter.mp hn).2)) (eqv_allT _ _ hp.eq)) (fun _ => ev_nm 2 rfl rv) (fun z => Bool.noConfusion z)) (fun v H4 s4 rv => k v H4 (s2.trans s4) rv)
/-! read_keeper -/
abbrev sRke : Stmt := top 39
abbrev nRke : List Str := ["parts", "line", "words", "pieces", "word"]
theorem scRke : FnScope nRke ["parts", "line"] (defScope sRke) := ⟨rfl, rfl, rfl, by decide +kernel, rfl, by decide +kernel, by decide +kernel⟩
abbrev rKe : R (Str × List (List Str)) := rPair rStr (rTup (rTup rStr))
structure KIn where
  line : Str
  name : Str
  ws : List Str
  pss : List (List Str)
def rKIn : R KIn := ⟨fun _ v i => v = .str i.line, fun _ h => h⟩
abbrev spRke : Sp := SpF (aCons (rTup rStr) (aCons rKIn aNil)) (fun i => KeeperOk i.1 i.2.1.line i.2.1.name i.2.1.ws i.2.1.pss) rKe fun i => (i.2.1.name, i.2.1.pss)
theorem lay_split {parts : List Str} {ws : List Str} (h : ∀ w ∈ ws, PieceOk parts w (Txt.split w plus)) : PyData.canLayAll0 ((ws.map fun w => Txt.split w plus).map fun xs => PyData.tuple (xs.map PyData.str)) = true := by
  induction ws with
  | nil => rfl
  | cons a t ih =>
    simp only [List.map_cons, PyData.canLayAll0, PyData.canLay0, ih fun w hw => h w (List.mem_cons_of_mem _ hw), Bool.and_true]
    exact lay_strs _ (h a List.mem_cons_self).okS
theorem ok_read_keeper (T : Glo mg) (F : Fun K "read_keeper" "read_keeper" sRke f fd) (cName : Cal P w K mg base 1 "is_name" spName) (cRpi : Cal P w K mg base 1 "read_piece" spRpi) : FnOk P w K mg base CX0 2 f fd ["parts", "line"] spRke := by
  refine F.ok (N := nRke) scRke (fun vs H Q E h => ?_) (fun cdv A outer s H vs Q E hr h => ⟨wpSs _ _, wpSs_pss, ?_⟩)
  · obtain ⟨i, ⟨v, ws, rfl, _, v2, ws2, rfl, _, rfl⟩, _⟩ := h
    rfl
  · obtain ⟨⟨parts, ⟨z, name, ws, pss⟩, _⟩, ⟨v, _, rfl, h1, v2, _, rfl, h2, rfl⟩, hp, k⟩ := h
    have hp : KeeperOk parts z name ws pss := hp
    have h2 : v2 = .str z := h2
    have k : ∀ v H', Same H H' → rKe.rel H' v (name, pss) → Q v H' := k
    refine ss_setL (i := 2) (el_split (w := blank) (by decide) (Nat.le_trans hp.len (by decide)) (ev_nm (r := rStr) 1 rfl h2) (ev_gS T.BLANK)) (fun l vs H1 np s1 hl hu => ?_) scRke.nd
    rw [hp.sp] at hu
    have hln : vs.length = ws.length + 2 := by rw [us_length hu]; simp
    have h1 := (rTup rStr).up (Same.T s1) h1
    refine ss_no ((et_or3 (k := false) (l := false) (m := false) ((et_neS (ev_ixL (i := 0) (x := ("keeper" : Str)) rfl (ev_nm (r := rVal) 2 rfl rfl) hl hu ev_int) (ev_gS T.KEEPER)).eq (by simp))
      (fun _ => (et_not (et_chain op_lt op_le (ev_gI T.PAIR_shelves) (int_of_nat (ev_lenK T.len (ev_nm (r := rVal) 2 rfl rfl) hl hln)) (ev_add (ev_gI T.PAIR_shelves) (ev_gI T.MOST_PIECES)))).eq (by
        have h1 := hp.one
        have h2 := hp.two
        have : (decide ((2 : Int) < ((ws.length + 2 : Nat) : Int)) && decide (((ws.length + 2 : Nat) : Int) ≤ 2 + 2)) = true := by simp; omega
        rw [this]; rfl))
      (fun _ _ => (et_not (et_val (ev_call cName (hr.mono (by decide)) (o := true) (ea_cons (ev_ixL (i := 1) (x := name) rfl (ev_nm (r := rVal) 2 rfl rfl) hl hu ev_int) ea_nil) hp.nml hp.nm))).eq rfl)).eq rfl) fun H2 s2 => ?_
    have h1 := (rTup rStr).up (Same.T s2) h1
    have hl := s2 _ _ hl
    have hu := R.us_up (Same.T s2) hu
    refine ss_set (i := 3) ((ev_tuple T.tuple (el_map1 (j := 4) (t := rTup rStr) (f := fun w => Txt.split w plus) rfl scRke.nd (blkOk_by (N := nRke) (sc := defScope sRke) (by decide +kernel)) (ei_newlist (el_dropL (k := 2) (xs := ("keeper" : Str) :: name :: ws) (by simp) (ev_nm (r := rVal) 2 rfl rfl) hl hu (ev_gI T.PAIR_shelves))) (Nat.le_trans hp.two (by decide))
      (fun v x H1 hx s1 rx s H0 C cl fp => ev_call cRpi hr (ea_cons (ev_nm 0 rfl ((rTup rStr).up (Same.T s1) h1)) (ea_cons (ev_nm 4 rfl rx) ea_nil)) (hp.pcs x hx)))).eq (x' := pss) hp.eq) (fun v H3 s3 rv => ?_) scRke.nd
    refine ss_ret (ev_if (k := false) (et_noneIn (hu65 hr) (enc_tup enc_str) (ev_nm 3 rfl rv) (by rw [← hp.eq]; exact lay_split hp.pcs) (fun x hx => by simp [PyData.eqv])) (fun z => Bool.noConfusion z)
      (fun _ => ev_pair (ev_ixL (i := 1) (x := name) rfl (ev_nm (r := rVal) 2 rfl rfl) (s3 _ _ hl) (R.us_up (Same.T s3) hu) ev_int) (ev_nm 3 rfl rv))) (fun v H4 s4 rv => k v H4 (((s1.trans s2).trans s3).trans s4) rv)
end
end LK
set_option maxHeartbeats 4000000
namespace LK
open PySem PySem.Spec PyProof.Rows L2
structure TIn where
  text : Str
  l0 : Str
  parts : List Str
  ks : List KIn
structure TextOk (i : TIn) : Prop where
  len : i.text.length ≤ 100000
  sp : Txt.split i.text feed = i.l0 :: i.ks.map (·.line)
  ps : PartsOk i.l0 i.parts
  keep : ∀ k ∈ i.ks, KeeperOk i.parts k.line k.name k.ws k.pss
  nd : (i.ks.map (·.name)).Nodup
  two : 2 ≤ i.ks.length
  six : i.ks.length ≤ 6
def rTIn : R TIn := ⟨fun _ v i => v = .str i.text, fun _ h => h⟩
def loreOf (i : TIn) : Lore := ⟨i.parts, i.ks.map (·.name), i.ks.map (·.pss)⟩
theorem take_succ_map {α β : Type} {xs : List α} {i : Nat} {x : α} (f : α → β) (h : xs[i]? = some x) : (xs.take (i + 1)).map f = (xs.take i).map f ++ [f x] := by
  rw [List.take_add_one, h]; simp
theorem line_us {H : Hp} {vs : List V} {ks : List KIn} (h : rStr.us H vs (ks.map (·.line))) : rKIn.us H vs ks := by
  induction ks generalizing vs with
  | nil => cases h; exact .nil
  | cons k t ih =>
    cases h with
    | cons a b => exact .cons a (ih b)
theorem numbered_snd {α : Type} {xs : List α} {m : Nat} {x : Nat × α} (h : (numbered xs)[m]? = some x) : xs[m]? = some x.2 := by
  unfold numbered at h
  rw [List.getElem?_zip_eq_some] at h
  exact h.2
theorem not_mem_take {ks : List KIn} {m : Nat} {x : KIn} (nd : (ks.map (·.name)).Nodup) (h : ks[m]? = some x) : x.name ∉ (ks.take m).map (·.name) := by
  intro hm
  obtain ⟨hlt, hx⟩ := List.getElem?_eq_some_iff.mp h
  have e : ks.map (·.name) = (ks.take m).map (·.name) ++ x.name :: (ks.drop (m + 1)).map (·.name) := by
    rw [← List.map_cons (f := fun k : KIn => k.name), ← List.map_append, ← hx, ← List.drop_eq_getElem_cons hlt, List.take_append_drop]
  rw [e] at nd
  exact (List.nodup_append.mp nd).2.2 _ hm _ List.mem_cons_self rfl
section
variable {P : Program} {w : World} {K : PySem.W.Frag} {mg : Str → Option Value} {base : Heap} {f C CC : Addr} {fd : FuncData}
/-! read_lines -/
abbrev sRli : Stmt := top 40
abbrev nRli : List Str := ["text", "lines", "parts", "names", "pieces", "at", "line", "told"]
theorem scRli : FnScope nRli ["text"] (defScope sRli) := ⟨rfl, rfl, rfl, by decide +kernel, rfl, by decide +kernel, by decide +kernel⟩
abbrev rRead : R (List Str × List Str × List (List (List Str))) := rTri (rTup rStr) (rTupN rStr) (rTup (rTup (rTup rStr)))
abbrev spRli : Sp := SpF (aCons rTIn aNil) (fun i => TextOk i.1) rRead fun i => ((loreOf i.1).parts, (loreOf i.1).names, (loreOf i.1).pieces)
theorem ok_read_lines (T : Glo mg) (F : Fun K "read_lines" "read_lines" sRli f fd) (cRpa : Cal P w K mg base 2 "read_parts" spRpa) (cRke : Cal P w K mg base 2 "read_keeper" spRke) : FnOk P w K mg base CX0 3 f fd ["text"] spRli := by
  refine F.ok (N := nRli) scRli (fun vs H Q E h => ?_) (fun cdv A outer s H vs Q E hr h => ⟨wpSs _ _, wpSs_pss, ?_⟩)
  · obtain ⟨i, ⟨v, ws, rfl, _, rfl⟩, _⟩ := h
    rfl
  · obtain ⟨⟨i, _⟩, ⟨v, _, rfl, h1, rfl⟩, hT, k⟩ := h
    have hT : TextOk i := hT
    have h1 : v = .str i.text := h1
    subst h1
    have k : ∀ v H', Same H H' → rRead.rel H' v (i.parts, i.ks.map (·.name), i.ks.map (·.pss)) → Q v H' := k
    refine ss_no ((et_not (et_val (ev_isi T.isinstance (ev_nm (r := rStr) 0 rfl rfl) (ev_bty (by decide +kernel) T.str) rty_str kb_ss))).eq rfl) fun H0 s0 => ?_
    refine ss_setL (i := 1) (el_split (w := feed) (by decide) hT.len (ev_nm (r := rStr) 0 rfl rfl) (ev_gS T.FEED)) (fun l vs H1 np s1 hl hu => ?_) scRli.nd
    rw [hT.sp] at hu
    have hws : (Txt.split i.l0 blank).drop 1 = i.parts := by rw [hT.ps.sp]; rfl
    refine ss_set (i := 2) (ev_call cRpa hr (o := i.parts) (ea_cons (ev_ixL (i := 0) (x := i.l0) rfl (ev_nm (r := rVal) 1 rfl rfl) hl hu ev_int) ea_nil) (by show PartsOk i.l0 _; rw [hws]; exact hT.ps) hws) (fun v2 H2 s2 rv2 => ?_) scRli.nd
    obtain ⟨pp, pvs, rfl, hpp, hpu⟩ := rv2
    have rv2 : (rTup rStr).rel H2 (.ref pp) i.parts := ⟨pp, pvs, rfl, hpp, hpu⟩
    refine ss_no ((et_isN (r := rVal) (ev_nm (r := rVal) 2 rfl rfl)).eq (by simp)) fun H3 s3 => ?_
    have rv2 := (rTup rStr).up (Same.T s3) rv2
    have hl := s3 _ _ (s2 _ _ hl)
    have hu := R.us_up (Same.T (s2.trans s3)) hu
    have s03 := ((s0.trans s1).trans s2).trans s3
    have h6 := hT.six
    refine ss_parLL (i := 3) (j := 4) (r := rStr) (t := rTup (rTup rStr)) (el_lst el_nil (by simp)) (el_lst el_nil (by simp)) (fun ln lp vn vp H4 nn np' hne s4 hln hlp hun hup => ?_) rfl scRli.nd (by decide)
    cases hun
    cases hup
    have hsame : Same H3 (wo (wo H4 ln) lp) := fun b o e => by
      rw [wo_ne (ne_of_none e np'), wo_ne (ne_of_none e nn)]
      exact s4 _ _ e
    refine ss_for2 (j1 := 5) (j2 := 6) (r := rNat) (r' := rKIn) (xs := numbered i.ks) (Hb := wo (wo H4 ln) lp) ((wo_same _ _).trans (wo_same _ _))
      (ei_enumL (el_dropL (k := 1) (xs := ({ line := i.l0, name := i.l0, ws := [], pss := [] } : KIn) :: i.ks) (by simp) (ev_nm (r := rVal) 1 rfl rfl) (hsame _ _ hl) (line_us (ks := ({ line := i.l0, name := i.l0, ws := [], pss := [] } : KIn) :: i.ks) (R.us_up (Same.T hsame) hu)) ev_int) T.enumerate) rfl PassesOwn.never scRli.nd
      (fun B H5 b1 b2 b3 fr => ?_)
    have bn : B ln = none := fr ln (by rw [hln]; simp) (by rw [wo_ne hne, wo_at])
    have bp : B lp = none := fr lp (by rw [hlp]; simp) (wo_at _ _)
    have hlen : (numbered i.ks).length = i.ks.length := numbered_length _
    refine ⟨fun m σ' H' => Same B H' ∧ SameT H5 H' ∧ ∃ vn vp o1 o2 o3, H' ln = some (.lst vn) ∧ H' lp = some (.lst vp) ∧ rStr.us H' vn ((i.ks.take m).map (·.name)) ∧ (rTup (rTup rStr)).us H' vp ((i.ks.take m).map (·.pss)) ∧ σ' = [some (.str i.text), some (.ref l), some (.ref pp), some (.ref ln), some (.ref lp), o1, o2, o3],
      ⟨b2, SameT.refl _, [], [], _, _, _, b3 _ _ hln, b3 _ _ hlp, .nil, .nil, rfl⟩, fun m σ' H' h => ⟨h.1, h.2.1⟩, ?_, ?_⟩
    · rintro m ⟨m', kin⟩ v1 w1 σ' Ha Hc hx ⟨sB, sT, vn, vp, o1, o2, o3, en, ep, un, up, rfl⟩ sA r1 r2
      have hm : i.ks[m]? = some kin := by
        have := numbered_snd hx
        exact this
      have hmem : kin ∈ i.ks := List.mem_of_getElem? hm
      have hlt : m < i.ks.length := (List.getElem?_eq_some_iff.mp hm).1
      have sBc : Same B Hc := sB.trans sA
      have s3c : SameT H3 Hc := ((Same.T s4).trans (Same.T b3)).trans (sT.trans (Same.T sA))
      refine ss_set (i := 7) (ev_call cRke hr (ea_cons (ev_nm 2 rfl ((rTup rStr).up s3c rv2)) (ea_cons (ev_nm 6 rfl r2) ea_nil)) (hT.keep kin hmem)) (fun v6 H6 s6 rv6 => ?_) scRli.nd
      have rv6 : rKe.rel H6 v6 (kin.name, kin.pss) := rv6
      have hv6 : v6 ≠ .non := by
        obtain ⟨q, _, _, e, _⟩ := rv6
        rw [e]; simp
      have en6 := s6 _ _ (sA _ _ en)
      have ep6 := s6 _ _ (sA _ _ ep)
      have un6 := R.us_up (Same.T (sA.trans s6)) un
      have up6 := R.us_up (Same.T (sA.trans s6)) up
      have lenn : vn.length = m := by rw [us_length un, List.length_map, List.length_take]; omega
      have lenp : vp.length = m := by rw [us_length up, List.length_map, List.length_take]; omega
      have hnew : kin.name ∉ (i.ks.take m).map (·.name) := not_mem_take hT.nd hm
      refine ss_no ((et_or3 (k := false) (l := false) (m := false) ((et_isN (r := rVal) (ev_nm (r := rVal) 7 rfl rfl)).eq (by simp [hv6])) (fun _ => (et_inL (ev_pair0 (ev_nm 7 rfl rv6)) (ev_nm (r := rVal) 3 rfl rfl) (by rw [← us_str un6]; exact en6)).eq (by simpa using hnew))
        (fun _ _ => (et_eqI (int_of_nat (ev_lenK T.len (ev_nm (r := rVal) 3 rfl rfl) en6 lenn)) (ev_gI T.MOST_KEEPERS_shelves)).eq (by have := hT.six; simp; omega))).eq rfl) fun H7 s7 => ?_
      refine ss_app (s7 _ _ en6) (by omega) (ev_nm (r := rVal) 3 rfl rfl) (ev_pair0 (ev_nm 7 rfl (rKe.up (Same.T s7) rv6))) fun v8 H8 s8 rv8 => ?_
      have en8 := s8 _ _ (s7 _ _ en6)
      have ep8 := s8 _ _ (s7 _ _ ep6)
      have t68 : SameT H6 (upd H8 ln (.lst (vn ++ [v8]))) := (Same.T (s7.trans s8)).trans (SameT.upd en8)
      refine ss_app (l := lp) (by rw [upd_ne hne.symm]; exact ep8) (by omega) (ev_nm (r := rVal) 4 rfl rfl) (ev_pair1 (ev_nm 7 rfl (rKe.up t68 rv6))) fun v9 H9 s9 rv9 => ?_
      have en9 : H9 ln = some (.lst (vn ++ [v8])) := s9 _ _ upd_same
      have ep9 : H9 lp = some (.lst vp) := s9 _ _ (by rw [upd_ne hne.symm]; exact ep8)
      have t69 : SameT H6 (upd H9 lp (.lst (vp ++ [v9]))) := (t68.trans (Same.T s9)).trans (SameT.upd ep9)
      refine ss_nil ⟨Same.mut ((Same.mut (sBc.trans (s6.trans (s7.trans s8))) bn).trans s9) bp, (sT.trans (Same.T (sA.trans s6))).trans t69, vn ++ [v8], vp ++ [v9], _, _, _, by rw [upd_ne hne]; exact en9, upd_same, ?_, ?_, rfl⟩
      · rw [take_succ_map _ hm]
        exact paired_append (R.us_up t69 un6) (.cons rv8 .nil)
      · rw [take_succ_map _ hm]
        exact paired_append (R.us_up t69 up6) (.cons ((rTup (rTup rStr)).up (SameT.upd ep9) rv9) .nil)
    · rintro σ' H' ⟨sB, sT, vn, vp, o1, o2, o3, en, ep, un, up, rfl⟩
      rw [hlen, List.take_length] at un up
      have lenn : vn.length = i.ks.length := by rw [us_length un, List.length_map]
      refine ss_no ((et_lt (int_of_nat (ev_lenK T.len (ev_nm (r := rVal) 3 rfl rfl) en lenn)) (ev_gI T.FEWEST_KEEPERS_shelves)).eq (by have := hT.two; simp; omega)) fun H7 s7 => ?_
      have s37 : SameT H3 H7 := (((Same.T s4).trans (Same.T b3)).trans sT).trans (Same.T s7)
      have sfin : Same H3 H7 := ((hsame.trans b1).trans sB).trans s7
      refine ss_ret (ev_tri (ev_nm 2 rfl ((rTup rStr).up s37 rv2)) (ev_tupleK T.tuple (ev_nm (r := rVal) 3 rfl rfl) (s7 _ _ en) (R.us_up (Same.T s7) un)) (ev_tupleK T.tuple (ev_nm (r := rVal) 4 rfl rfl) (s7 _ _ ep) (R.us_up (Same.T s7) up)).tupN) (fun v8 H8 s8 rv8 => k v8 H8 ((s03.trans sfin).trans s8) rv8)
/-! all_spots -/
abbrev sAsp : Stmt := top 41
abbrev nAsp : List Str := ["names", "pieces", "found", "keeper", "some", "number"]
theorem scAsp : FnScope nAsp ["names", "pieces"] (defScope sAsp) := ⟨rfl, rfl, rfl, by decide +kernel, rfl, by decide +kernel, by decide +kernel⟩
abbrev spAsp : Sp := SpL (aCons (rTup rStr) (aCons (rTup (rTup (rTup rStr))) aNil)) (fun i => i.1.length = i.2.1.length ∧ i.1.length ≤ 6 ∧ ∀ ps ∈ i.2.1, ps.length ≤ 2) (rPair rStr rNat) fun i => (i.1.zip i.2.1).flatMap fun x => (List.range x.2.length).map fun j => (x.1, j)
theorem ok_all_spots (T : Glo mg) (F : Fun K "all_spots" "all_spots" sAsp f fd) : FnOk P w K mg base CX0 1 f fd ["names", "pieces"] spAsp := by
  refine F.ok (N := nAsp) scAsp (fun vs H Q E h => ?_) (fun cdv A outer s H vs Q E hr h => ⟨wpSs _ _, wpSs_pss, ?_⟩)
  · obtain ⟨i, ⟨v, ws, rfl, _, v2, ws2, rfl, _, rfl⟩, _⟩ := h
    rfl
  · obtain ⟨⟨ns, pcs, _⟩, ⟨v, _, rfl, h1, v2, _, rfl, h2, rfl⟩, ⟨hl, h6, hps⟩, k⟩ := h
    have hl : ns.length = pcs.length := hl
    have h6 : ns.length ≤ 6 := h6
    have hps : ∀ ps ∈ pcs, ps.length ≤ 2 := hps
    refine ss_setL (i := 2) (r := rPair rStr rNat) (el_lst el_nil (by simp)) (fun l vs H1 np s1 hl1 hu => ?_) scAsp.nd
    cases hu
    have hsame : Same H (wo H1 l) := fun b o e => by
      rw [wo_ne (ne_of_none e np)]
      exact s1 _ _ e
    refine ss_for2 (j1 := 3) (j2 := 4) (r := rStr) (r' := rTup (rTup rStr)) (xs := ns.zip pcs) (Hb := wo H1 l) (wo_same _ _) (ei_zipT (ev_nm 0 rfl ((rTup rStr).up (Same.T hsame) h1)) (ev_nm 1 rfl ((rTup (rTup (rTup rStr))).up (Same.T hsame) h2)) hl T.zip) rfl PassesOwn.never scAsp.nd (fun B H5 b1 b2 b3 fr => ?_)
    have bn : B l = none := fr l (by rw [hl1]; simp) (wo_at _ _)
    have hlen : (ns.zip pcs).length = ns.length := by rw [List.length_zip]; omega
    refine ⟨fun m σ' H' => Same B H' ∧ SameT H5 H' ∧ ∃ vn o1 o2 o3, H' l = some (.lst vn) ∧ vn.length ≤ 2 * m ∧ (rPair rStr rNat).us H' vn (((ns.zip pcs).take m).flatMap fun x => (List.range x.2.length).map fun j => (x.1, j)) ∧ σ' = [some v, some v2, some (.ref l), o1, o2, o3],
      ⟨b2, SameT.refl _, [], _, _, _, b3 _ _ hl1, by simp, .nil, rfl⟩, fun m σ' H' h => ⟨h.1, h.2.1⟩, ?_, ?_⟩
    · rintro m x v1 w1 σ' Ha Hc hx ⟨sB, sT, vn, o1, o2, o3, en, hle, un, rfl⟩ sA r1 r2
      have hmem := List.mem_of_getElem? hx
      have hx2 : x.2.length ≤ 2 := hps _ (List.of_mem_zip hmem).2
      have hm : m < ns.length := by rw [← hlen]; exact (List.getElem?_eq_some_iff.mp hx).1
      refine ss_ext (xs := (List.range x.2.length).map fun j => (x.1, j)) (r := rPair rStr rNat) (sA _ _ en) (by simp; omega) (ev_nm (r := rVal) 2 rfl rfl)
        (el_map1 (j := 5) (t := rPair rStr rNat) (f := fun j => (x.1, j)) rfl scAsp.nd (blkOk_by (N := nAsp) (sc := defScope sAsp) (by decide +kernel)) (ei_range (int_of_nat (ev_lenT T.len (ev_nm 4 rfl r2))) (by omega) T.range) (by simp; omega)
          (fun v x' H1 hx s1 rx s H0 C cl fp => ev_pair (ev_nm 3 rfl (rStr.up (Same.T s1) r1)) (ev_nm 5 rfl rx))) fun ws H6 s6 hu6 => ?_
      have en6 := s6 _ _ (sA _ _ en)
      refine ss_nil ⟨Same.mut (sB.trans (sA.trans s6)) bn, (sT.trans (Same.T (sA.trans s6))).trans (SameT.upd en6), vn ++ ws, _, _, _, upd_same, ?_, ?_, rfl⟩
      · have := us_length hu6
        simp at this ⊢
        omega
      · rw [List.take_add_one, hx]
        simp only [Option.toList, List.flatMap_append, List.flatMap_cons, List.flatMap_nil, List.append_nil]
        exact paired_append (R.us_up ((Same.T (sA.trans s6)).trans (SameT.upd en6)) un) (R.us_up (SameT.upd en6) hu6)
    · rintro σ' H' ⟨sB, sT, vn, o1, o2, o3, en, hle, un, rfl⟩
      rw [List.take_length] at un
      refine ss_ret (r := rVal) (x := .ref l) (ev_nm 2 rfl rfl) fun v H7 s7 rv => ?_
      have rv : v = .ref l := rv
      subst rv
      exact k l vn H7 np (((hsame.trans b1).trans sB).trans s7) (s7 _ _ en) (R.us_up (Same.T s7) un)
end
end LK
set_option maxHeartbeats 4000000
namespace LK
open PySem PySem.Spec PyProof.Rows L2
theorem pl {f : Str} {v : V} {fs : List (Str × V)} {n : Nat} (h : fs.length < n) : (putF f v fs).length < n + 1 := by
  have := length_putF f v fs
  omega
structure NamesOk (ns : List Str) : Prop where
  two : 2 ≤ ns.length
  six : ns.length ≤ 6
  nm : ∀ n ∈ ns, n.length ≤ 1000 ∧ isName n = true
  unl : areUnlike ns = true
/-- a class as it is called at the module's name x -/
structure Mkl (P : Program) (w : World) (K : PySem.W.Frag) (mg : Str → Option Value) (base : Heap) (k : Nat) (x : Str) (C : Addr) (sp : Sp) : Prop where
  ex : ∃ (f : Addr) (fd : FuncData) (ps : List Str), Mk K C f ∧ FnOk P w K mg base CX0 k f fd ps sp ∧ mg x = some (.ref C) ∧ Binds K fd ps []
theorem wo_mut {H H1 : Hp} {a : Addr} {o : HO} (h : Same (wo H a) H1) : Same (wo H a) (upd H1 a o) := Same.mut h (wo_at H a)
theorem wo_init {H : Hp} {a dx : Addr} {o u : HO} (ha : H a = none) (hd : H dx = none) : Same H (wo (upd (upd H dx u) a o) a) := fun b o' e => by
  have h1 : b ≠ a := ne_of_none e ha
  rw [wo_ne h1, upd_ne h1, upd_ne (ne_of_none e hd)]
  exact e
section
variable {P : Program} {w : World} {K : PySem.W.Frag} {mg : Str → Option Value} {base : Heap} {f C CC : Addr} {fd : FuncData}
/-! Circle -/
abbrev sCir : Stmt := mem 26 0
abbrev nCir : List Str := ["self", "names", "name"]
theorem scCir : FnScope nCir ["self", "names"] (defScope sCir) := ⟨rfl, rfl, rfl, by decide +kernel, rfl, by decide +kernel, by decide +kernel⟩
def spCir (CC : Addr) : Sp := fun vs H Q _ => ∃ a dx v ns, vs = [.ref a, v] ∧ H a = some (.ins CC dx []) ∧ (rTupN rStr).rel H v ns ∧ NamesOk ns ∧ ∀ H1, Same (wo H a) H1 → H1 a = some (.ins CC dx (ciF v)) → Q .non H1
theorem ok_Circle (T : Glo mg) (cc : Cls K CC) (nn : NoAttr K CC "own_names") (F : Fun K "__init__" "Circle.__init__" sCir f fd) (cTup : Cal P w K mg base 1 "is_tuple" spTup3) (cName : Cal P w K mg base 1 "is_name" spName) (cUnl : Cal P w K mg base 1 "are_unlike" spUnl) : FnOk P w K mg base CX0 2 f fd ["self", "names"] (spCir CC) := by
  refine F.ok (N := nCir) scCir (fun vs H Q E h => ?_) (fun cdv A outer s H vs Q E hr h => ⟨wpSs _ _, wpSs_pss, ?_⟩)
  · obtain ⟨a, dx, v, ns, rfl, _⟩ := h
    rfl
  · obtain ⟨a, dx, v, ns, rfl, ha, h1, hN, k⟩ := h
    have hT := rTupN_tup h1
    have h6 := hN.six
    have h2 := hN.two
    refine ss_no ((et_or (k := false) (l := false) ((et_not (et_val (ev_call cTup hr (o := true) (ea_cons (ev_nm 1 rfl (tup_any hT)) (ea_cons (ev_gI T.FEWEST_KEEPERS_circles) (ea_cons (int_val (ev_gI T.MOST_KEEPERS_circles)) ea_nil))) ⟨by show ns.length ≤ 1000; omega, .inr ⟨_, rfl⟩⟩ (by
        show (decide ((2 : Int) ≤ (ns.length : Int)) && decide ((ns.length : Int) ≤ 6)) = true
        simp; omega)))).eq rfl)
      (fun _ => (et_not (et_val (ev_all rfl T.all (el_map1 (j := 2) (t := rBool) (f := isName) rfl scCir.nd (blkOk_by (N := nCir) (sc := defScope sCir) (by decide +kernel)) (ei_tup (ev_nm 1 rfl hT)) (by omega)
        (fun v x H1 hx s1 rx s H0 C cl fp => ev_call cName hr (ea_cons (ev_nm 2 rfl rx) ea_nil) (hN.nm x hx).1))))).eq (by rw [all_true fun x hx => (hN.nm x hx).2]; rfl))).eq rfl) fun H2 s2 => ?_
    refine ss_no ((et_not (et_val (ev_call cUnl hr (o := true) (ea_cons (ev_nm 1 rfl ((rTup rStr).up (Same.T s2) hT)) ea_nil) (by show ns.length ≤ 1000; omega) hN.unl))).eq rfl) fun H3 s3 => ?_
    refine ss_fldE (r := rVal) (x := v) cc nn (by decide) (s3 _ _ (s2 _ _ ha)) (ev_nm 1 rfl rfl) (ev_nm 0 rfl rfl) (fun v' H4 s4 rv => ?_)
    have rv : v' = v := rv
    subst rv
    exact ss_nil (k _ (wo_mut ((wo_same _ _).trans ((s2.trans s3).trans s4))) upd_same)
/-! Shelf -/
abbrev sShe : Stmt := mem 42 0
abbrev nShe : List Str := ["self", "text", "told"]
theorem scShe : FnScope nShe ["self", "text"] (defScope sShe) := ⟨rfl, rfl, rfl, by decide +kernel, rfl, by decide +kernel, by decide +kernel⟩
structure ShelfOk (i : TIn) : Prop where
  tx : TextOk i
  ns : NamesOk (loreOf i).names
  two : ∀ ps ∈ (loreOf i).pieces, ps.length ≤ 2
def spShe (C CC : Addr) : Sp := fun vs H Q _ => ∃ a dx i, vs = [.ref a, .str i.text] ∧ H a = some (.ins C dx []) ∧ ShelfOk i ∧ ∀ H1, Same (wo H a) H1 → (rShelf C CC).rel H1 (.ref a) (loreOf i) → Q .non H1
theorem ev_newCirc {X : Cx} {σ : L2.St} {H : Hp} {e : Expr} {ns : List Str} {p pos : Pos} (M : Mkl X.prog X.w X.K X.mg X.base 2 "Circle" CC (spCir CC)) (hr : Room 3 X.A) (he : Ev X e σ H (rTupN rStr) ns) (hN : NamesOk ns) (hg : Gl X "Circle" := by rfl)
    (hs : starEach [e] X.env = (false, eval e X.env) :: starEach [] X.env := by rfl) (hpl : (backTo pos (starEach [] X.env)).any (·.1) = false := by rfl) : EvS X (.Call (.Name "Circle" p) [e] [] pos) σ H (rCirc CC) ns := by
  obtain ⟨f, fd, ps, M, F, hm, hb⟩ := M.ex
  exact fun H1 s Q q => wpE_of (pe_make M F hr hg hm hb .nil pass0 (pa_cons wpE_pe pa_nil hs) (by decide) hs hpl) (he H1 s _ fun v H2 s2 rv => fun a dx ha hd hne => ⟨a, dx, v, ns, rfl, upd_same, (rTupN rStr).up (Same.T ((Same.new hd).trans (Same.new (by rw [upd_ne hne.symm]; exact ha)))) rv, hN, fun H3 s3 h3 =>
    ⟨rfl, q _ H3 (s2.trans ((wo_init ha hd).trans s3)) ⟨a, dx, v, rfl, h3, (rTupN rStr).up (Same.T ((wo_init ha hd).trans s3)) rv⟩⟩⟩)
theorem ok_Shelf (T : Glo mg) (S : ShTxt P w K mg base C CC) (F : Fun K "__init__" "Shelf.__init__" sShe f fd) (cRli : Cal P w K mg base 3 "read_lines" spRli) (M : Mkl P w K mg base 2 "Circle" CC (spCir CC)) (cAsp : Cal P w K mg base 1 "all_spots" spAsp) : FnOk P w K mg base CX0 4 f fd ["self", "text"] (spShe C CC) := by
  refine F.ok (N := nShe) scShe (fun vs H Q E h => ?_) (fun cdv A outer s H vs Q E hr h => ⟨wpSs _ _, wpSs_pss, ?_⟩)
  · obtain ⟨a, dx, i, rfl, _⟩ := h
    rfl
  · obtain ⟨a, dx, i, rfl, ha, hS, k⟩ := h
    have hl0 : (loreOf i).names.length = (loreOf i).pieces.length := by simp [loreOf]
    refine ss_set (i := 2) (ev_call cRli hr (ea_cons (r := rTIn) (x := i) (ev_nm 1 rfl rfl) ea_nil) hS.tx) (fun v2 H2 s2 rv => ?_) scShe.nd
    refine ss_fldE (r := rStr) (x := i.text) S.cl S.nText (by decide) (s2 _ _ ha) (ev_nm 1 rfl rfl) (ev_nm 0 rfl rfl) (fun vt H3 s3 rt => ?_)
    have ha3 := s3 _ _ (s2 _ _ ha)
    have t3 : SameT H2 (upd H3 a (.ins C dx (putF "own_text" vt []))) := (Same.T s3).trans (SameT_updI ha3)
    have w3 : Same (wo H a) (upd H3 a (.ins C dx (putF "own_text" vt []))) := wo_mut ((wo_same _ _).trans (s2.trans s3))
    have rv3 := rRead.up t3 rv
    refine ss_fldE S.cl S.nParts (pl (n := 999) (by decide)) upd_same (ev_tri0 (ev_nm 2 rfl rv3)) (ev_nm 0 rfl rfl) (fun vp H4 s4 rp => ?_)
    have ha4 := s4 _ _ upd_same
    have t4 : SameT H4 (upd H4 a (.ins C dx (putF "own_parts" vp (putF "own_text" vt [])))) := SameT_updI ha4
    have w4 : Same (wo H a) (upd H4 a (.ins C dx (putF "own_parts" vp (putF "own_text" vt [])))) := wo_mut (w3.trans s4)
    have rv4 := rRead.up ((Same.T s4).trans t4) rv3
    have rp4 := (rTup rStr).up t4 rp
    refine ss_fldS S.cl S.nCircle (pl (n := 999) (pl (n := 998) (by decide))) upd_same (ev_newCirc M (hr.mono (by decide)) (ev_tri1 (ev_nm 2 rfl rv4)) hS.ns) (ev_nm 0 rfl rfl) (fun vc H5 s5 rc => ?_)
    have ha5 := s5 _ _ upd_same
    have t5 : SameT H5 (upd H5 a (.ins C dx (putF "own_circle" vc (putF "own_parts" vp (putF "own_text" vt []))))) := SameT_updI ha5
    have w5 : Same (wo H a) (upd H5 a (.ins C dx (putF "own_circle" vc (putF "own_parts" vp (putF "own_text" vt []))))) := wo_mut (w4.trans s5)
    have rv5 := rRead.up ((Same.T s5).trans t5) rv4
    have rp5 := (rTup rStr).up ((Same.T s5).trans t5) rp4
    obtain ⟨ac, dc, pn, rfl, hc1, hc2⟩ := rc
    have nac : ac ≠ a := fun e => by
      rw [e, ha5] at hc1
      cases hc1
    refine ss_fldE S.cl S.nPieces (pl (n := 999) (pl (n := 998) (pl (n := 997) (by decide)))) upd_same (ev_tri2 (ev_nm 2 rfl rv5) (ev_gI T.PAIR_shelves)) (ev_nm 0 rfl rfl) (fun vq H6 s6 rq => ?_)
    have ha6 := s6 _ _ upd_same
    have t6 : SameT H6 (upd H6 a (.ins C dx (putF "own_pieces" vq (putF "own_circle" (.ref ac) (putF "own_parts" vp (putF "own_text" vt [])))))) := SameT_updI ha6
    have w6 : Same (wo H a) (upd H6 a (.ins C dx (putF "own_pieces" vq (putF "own_circle" (.ref ac) (putF "own_parts" vp (putF "own_text" vt [])))))) := wo_mut (w5.trans s6)
    have rv6 := rRead.up ((Same.T s6).trans t6) rv5
    have rp6 := (rTup rStr).up ((Same.T s6).trans t6) rp5
    have rq6 := (rTup (rTup (rTup rStr))).up t6 rq
    have hc6 : upd H6 a (.ins C dx (putF "own_pieces" vq (putF "own_circle" (.ref ac) (putF "own_parts" vp (putF "own_text" vt []))))) ac = some (.ins CC dc (ciF pn)) := by
      rw [upd_ne nac]
      exact s6 _ _ (by rw [upd_ne nac]; exact hc1)
    have hn6 := (rTupN rStr).up (t5.trans ((Same.T s6).trans t6)) hc2
    refine ss_fldS (r := rLst (rPair rStr rNat)) S.cl S.nSpots (pl (n := 999) (pl (n := 998) (pl (n := 997) (pl (n := 996) (by decide))))) upd_same (el_call cAsp (hr.mono (by decide)) (ea_cons (ev_tri1 (ev_nm 2 rfl rv6)).tupN (ea_cons (ev_tri2 (ev_nm 2 rfl rv6) (ev_gI T.PAIR_shelves)) ea_nil)) ⟨hl0, hS.ns.six, hS.two⟩).s (ev_nm 0 rfl rfl) (fun vl H7 s7 rl => ?_)
    obtain ⟨ls, lvs, rfl, hls, hlu⟩ := rl
    have ha7 := s7 _ _ upd_same
    have nls : ls ≠ a := fun e => by
      rw [e, ha7] at hls
      cases hls
    have t7 : SameT H7 (upd H7 a (.ins C dx (shF i.text vp ac vq ls))) := SameT_updI ha7
    have rt : vt = .str i.text := rt
    subst rt
    refine ss_nil (k _ (wo_mut (w6.trans s7)) ⟨a, dx, i.text, vp, ac, vq, ls, lvs, rfl, upd_same, (rTup rStr).up ((Same.T s7).trans t7) rp6, ⟨ac, dc, pn, rfl, ?_, (rTupN rStr).up ((Same.T s7).trans t7) hn6⟩, (rTup (rTup (rTup rStr))).up ((Same.T s7).trans t7) rq6, ?_, R.us_up t7 hlu⟩)
    · rw [upd_ne nac]
      exact s7 _ _ hc6
    · rw [upd_ne nls]
      exact hls
theorem ev_newShelf {X : Cx} {σ : L2.St} {H : Hp} {e : Expr} {i : TIn} {p pos : Pos} (M : Mkl X.prog X.w X.K X.mg X.base 4 "Shelf" C (spShe C CC)) (hr : Room 5 X.A) (he : Ev X e σ H rStr i.text) (hS : ShelfOk i) (hg : Gl X "Shelf" := by rfl)
    (hs : starEach [e] X.env = (false, eval e X.env) :: starEach [] X.env := by rfl) (hpl : (backTo pos (starEach [] X.env)).any (·.1) = false := by rfl) : EvS X (.Call (.Name "Shelf" p) [e] [] pos) σ H (rShelf C CC) (loreOf i) := by
  obtain ⟨f, fd, ps, M, F, hm, hb⟩ := M.ex
  exact fun H1 s Q q => wpE_of (pe_make M F hr hg hm hb .nil pass0 (pa_cons wpE_pe pa_nil hs) (by decide) hs hpl) (he H1 s _ fun v H2 s2 rv => fun a dx ha hd hne => ⟨a, dx, i, by rw [show v = _ from rv]; rfl, upd_same, hS, fun H3 s3 h3 =>
    ⟨rfl, q _ H3 (s2.trans ((wo_init ha hd).trans s3)) h3⟩⟩)
end
end LK
set_option maxHeartbeats 4000000
namespace LK
open PySem PySem.Spec PyProof.Rows L2
def lieTab (L : Lore) (as : List (Str × Str)) : List (Str × Nat) := (records L.parts.length).map fun z => (z, (liarsBy L as z).length)
def leastOf : List Nat → Nat
  | [] => 0
  | [a] => a
  | a :: r => min a (leastOf r)
def nearestOf (L : Lore) (as : List (Str × Str)) : Nat × List Str := (leastOf ((lieTab L as).map (·.2)), sortStr (((lieTab L as).filter fun x => decide (x.2 = leastOf ((lieTab L as).map (·.2)))).map (·.1)))
theorem leastOf_mem : ∀ {l : List Nat}, l ≠ [] → leastOf l ∈ l
  | [], h => absurd rfl h
  | [a], _ => by simp [leastOf]
  | a :: b :: r, _ => by
    have ih := leastOf_mem (l := b :: r) (by simp)
    show min a (leastOf (b :: r)) ∈ a :: b :: r
    by_cases h : a ≤ leastOf (b :: r)
    · rw [Nat.min_eq_left h]; simp
    · rw [Nat.min_eq_right (by omega)]; exact List.mem_cons_of_mem _ ih
theorem leastOf_le : ∀ {l : List Nat} {y : Nat}, y ∈ l → leastOf l ≤ y
  | [], _, h => by cases h
  | [a], y, h => by simp at h; subst h; exact Nat.le_refl _
  | a :: b :: r, y, h => by
    show min a (leastOf (b :: r)) ≤ y
    rcases List.mem_cons.mp h with e | h
    · subst e; exact Nat.min_le_left _ _
    · exact Nat.le_trans (Nat.min_le_right _ _) (leastOf_le h)
theorem records_nd : ∀ {n : Nat}, n ≤ 3 → (records n).Nodup := by
  intro n hn
  match n, hn with
  | 0, _ => decide +kernel
  | 1, _ => decide +kernel
  | 2, _ => decide +kernel
  | 3, _ => decide +kernel
def valuesBy : Nat → List Str
  | 0 => [""]
  | n + 1 => (valuesBy n).flatMap fun a => [("0" : Str), "1"].map fun m => a ++ m
section
variable {P : Program} {w : World} {K : PySem.W.Frag} {mg : Str → Option Value} {base : Heap} {f C CC : Addr} {fd : FuncData}
/-! nearest -/
abbrev sNea : Stmt := top 61
abbrev nNea : List Str := ["shelf", "answers", "table", "number", "record", "lies"]
theorem scNea : FnScope nNea ["shelf", "answers"] (defScope sNea) := ⟨rfl, rfl, rfl, by decide +kernel, rfl, by decide +kernel, by decide +kernel⟩
abbrev spNea (C CC : Addr) : Sp := SpF (aConsS (rShelf C CC) (aCons rAs aNil)) (fun i => WF i.1 ∧ Good i.1 i.2.1) (rPair rNat (rTup rStr)) fun i => nearestOf i.1 i.2.1
theorem ok_nearest (T : Glo mg) (F : Fun K "nearest" "nearest" sNea f fd) (cChk : Cal P w K mg base 5 "check_answers" (spChk C CC)) (cRec : Cal P w K mg base 4 "records" (spRec C CC)) (cLia : Cal P w K mg base 6 "liars_by" (spLia C CC)) : FnOk P w K mg base CX0 7 f fd ["shelf", "answers"] (spNea C CC) := by
  refine F.ok (N := nNea) scNea (fun vs H Q E h => ?_) (fun cdv A outer s H vs Q E hr h => ⟨wpSs _ _, wpSs_pss, ?_⟩)
  · obtain ⟨i, ⟨v, ws, rfl, _, v2, ws2, rfl, _, rfl⟩, _⟩ := h
    rfl
  · obtain ⟨⟨L, as, _⟩, ⟨v, _, rfl, h1, v2, _, rfl, h2, rfl⟩, ⟨hW, hG⟩, k⟩ := h
    have hW : WF L := hW
    have hG : Good L as := hG
    have hf := hG.few
    have h8 := records_len hW
    have h8' : (lieTab L as).length ≤ 8 := by unfold lieTab; simpa using h8
    have k : ∀ v H', Same H H' → (rPair rNat (rTup rStr)).rel H' v (nearestOf L as) → Q v H' := k
    have hne : ((lieTab L as).map (·.2)) ≠ [] := by
      unfold lieTab records
      simp
    refine ss_exprE (ev_call cChk (hr.mono (by decide)) (ea_consS (ev_nmS 0 rfl h1) (ea_cons (ev_nm 1 rfl h2) ea_nil)) ⟨hW, hG⟩) fun H1 s1 => ?_
    have h1 := (rShelf C CC).up s1 h1
    have h2 := rAs.up (Same.T s1) h2
    refine ss_set (i := 2) (r := rDct rNat) (x := lieTab L as) (ev_dictP rfl T.dict (by unfold lieTab; rw [List.map_map]; simpa [Function.comp_def] using records_nd hW.p3) (el_map1 (j := 4) (t := rPair rStr rNat) (f := fun z => (z, (liarsBy L as z).length)) rfl scNea.nd (blkOk_by (N := nNea) (sc := defScope sNea) (by decide +kernel)) (ei_newlist (el_call cRec (hr.mono (by decide)) (ea_consS (ev_nmS 0 rfl h1) ea_nil) hW)) (by omega)
      (fun v x H1 hx s1 rx s H0 C' cl fp => ev_pair (ev_nm 4 rfl rx) (ev_lenT T.len (ev_call cLia hr (ea_consS (ev_nmS 0 rfl ((rShelf C CC).up s1 h1)) (ea_cons (ev_nm 1 rfl (rAs.up (Same.T s1) h2)) (ea_cons (ev_nm 4 rfl rx) ea_nil))) ⟨hW, Nat.le_trans hf (by decide), rec_len' hW hx⟩))))) (fun v2 H2 s2 rv => ?_) scNea.nd
    refine ss_set (i := 3) (r := rNat) (x := leastOf ((lieTab L as).map (·.2))) (ev_minL rfl T.min (leastOf_mem hne) (fun y hy => leastOf_le hy) (el_dvals rfl T.list (ev_nm 2 rfl rv))) (fun v3 H3 s3 rv3 => ?_) scNea.nd
    obtain ⟨d, kvs, rfl, hd, hp⟩ := rv
    have ek := dct_nat hp
    subst ek
    refine ss_ret (ev_pair (ev_nm 3 rfl rv3) (ev_tuple T.tuple (el_sorted T.sorted (xs := ((lieTab L as).filter fun x : Str × Nat => decide (x.2 = leastOf ((lieTab L as).map (·.2)))).map fun x : Str × Nat => x.1) (by rw [List.length_map]; exact Nat.lt_of_le_of_lt (List.length_filter_le _ _) (by omega)) (el_itemsFil (j1 := 4) (j2 := 5) (q := fun x : Str × Nat => decide (x.2 = leastOf ((lieTab L as).map (·.2)))) (by decide) rfl scNea.nd (blkOk_by (N := nNea) (sc := defScope sNea) (by decide +kernel)) (s3 _ _ hd) (fun L => ev_nm (r := rVal) 2 rfl rfl) (by omega)
      (fun v w x H1 hx r1 r2 s H0 C' cl fp => (et_eqI (int_of_nat (ev_nm 5 rfl r2)) (int_of_nat (ev_nm 3 rfl rv3))).eq (decide_eq_decide.mpr (by omega))) (fun v w x H1 hx r1 r2 s H0 C' cl fp => ev_nm 4 rfl r1))))) (fun v H4 s4 rv => k v H4 (((s1.trans s2).trans s3).trans s4) rv)
/-! values_by -/
abbrev sVby : Stmt := top 65
abbrev nVby : List Str := ["many", "found", "turn", "ahead", "mark"]
theorem scVby : FnScope nVby ["many"] (defScope sVby) := ⟨rfl, rfl, rfl, by decide +kernel, rfl, by decide +kernel, by decide +kernel⟩
abbrev spVby : Sp := SpL (aCons rNat aNil) (fun i => i.1 ≤ 12) rStr fun i => valuesBy i.1
theorem valuesBy_len : ∀ n, (valuesBy n).length = 2 ^ n
  | 0 => rfl
  | n + 1 => by
    have ih := valuesBy_len n
    show ((valuesBy n).flatMap fun a => [("0" : Str), "1"].map fun m => a ++ m).length = _
    have : ∀ l : List Str, (l.flatMap fun a => [("0" : Str), "1"].map fun m => a ++ m).length = l.length * 2 := by
      intro l
      induction l with
      | nil => rfl
      | cons a t ih => simp only [List.flatMap_cons, List.length_append, ih, List.length_map, List.length_cons, List.length_nil]; omega
    rw [this, ih, Nat.pow_succ]
theorem app_len (a b : Str) : (a ++ b).length = a.length + b.length := by
  show (a ++ b).cps.size = a.cps.size + b.cps.size
  show (a.cps ++ b.cps).size = _
  rw [Array.size_append]
theorem valuesBy_str : ∀ {n : Nat} {z : Str}, z ∈ valuesBy n → z.length = n
  | 0, z, h => by
    have : z = "" := by simpa [valuesBy] using h
    subst this; rfl
  | n + 1, z, h => by
    obtain ⟨a, ha, h⟩ := List.mem_flatMap.mp (show z ∈ (valuesBy n).flatMap _ from h)
    obtain ⟨m, hm, rfl⟩ := List.mem_map.mp h
    have hm1 : m.length = 1 := by
      rcases List.mem_cons.mp hm with rfl | hm
      · rfl
      · have : m = "1" := by simpa using hm
        subst this; rfl
    rw [app_len, valuesBy_str ha, hm1]
theorem ok_values_by (T : Glo mg) (F : Fun K "values_by" "values_by" sVby f fd) : FnOk P w K mg base CX0 1 f fd ["many"] spVby := by
  refine F.ok (N := nVby) scVby (fun vs H Q E h => ?_) (fun cdv A outer s H vs Q E hr h => ⟨wpSs _ _, wpSs_pss, ?_⟩)
  · obtain ⟨i, ⟨v, ws, rfl, _, rfl⟩, _⟩ := h
    rfl
  · obtain ⟨⟨n, _⟩, ⟨v, _, rfl, h1, rfl⟩, h8, k⟩ := h
    have h8 : n ≤ 12 := h8
    have h1 : v = .int (n : Nat) := h1
    subst h1
    have k : ∀ p vs H', H p = none → Same H H' → H' p = some (.lst vs) → rStr.us H' vs (valuesBy n) → Q (.ref p) H' := k
    refine ss_setL (i := 1) (r := rStr) (el_lst (el_cons ev_str el_nil) (by simp)) (fun l vs H1 np s1 hl1 hu => ?_) scVby.nd
    refine ss_for1 (j := 2) (r := rNat) (xs := List.range n) (Hb := H) s1 (ei_range (ev_nm (r := rInt) 0 rfl rfl) (by omega) T.range) rfl PassesOwn.never scVby.nd (fun B H2 b1 b2 b3 fr => ?_)
    refine ⟨fun m σ' H' => Same B H' ∧ SameT H2 H' ∧ ∃ l vs o1 o2 o3, H l = none ∧ H' l = some (.lst vs) ∧ rStr.us H' vs (valuesBy m) ∧ σ' = [some (.int (n : Nat)), some (.ref l), o1, o2, o3],
      ⟨b2, SameT.refl _, l, vs, _, _, _, np, b3 _ _ hl1, R.us_up (Same.T b3) hu, rfl⟩, fun m σ' H' h => ⟨h.1, h.2.1⟩, ?_, ?_⟩
    · rintro m x v σ' Ha Hc hx ⟨sB, sT, l, vs, o1, o2, o3, hn, hl, hu, rfl⟩ sA rx
      have hm : m < n := by simpa using (List.getElem?_eq_some_iff.mp hx).1
      have hlen := valuesBy_len m
      have h2m : 2 ^ m ≤ 2 ^ 12 := Nat.pow_le_pow_right (by decide) (by omega)
      refine ss_setLc22 (i := 1) (j1 := 3) (j2 := 4) (r := rStr) (t := rStr) (u := rStr) (ys := [("0" : Str), "1"]) (f := fun a m => a ++ m) (by decide) rfl scVby.nd (blkOk_by (N := nVby) (sc := defScope sVby) (by decide +kernel)) (ei_list (ev_nm (r := rVal) 1 rfl rfl) (sA _ _ hl) (R.us_up (Same.T sA) hu)) (by rw [hlen]; simp; omega)
        (fun v H1 s1 s H0 C cl fp => ei_tup (ev_tup (el_cons (ev_gS T.NOUGHT) (el_cons (ev_gS T.ONE) el_nil)) (by simp)))
        (fun v x w y H1 hx hy s1 r1 r2 s H0 C cl fp => ev_addS (by
          rw [valuesBy_str hx]
          have : y.length = 1 := by
            rcases List.mem_cons.mp hy with rfl | hy
            · rfl
            · have : y = "1" := by simpa using hy
              subst this; rfl
          omega) (ev_nm 3 rfl r1) (ev_nm 4 rfl r2))
        (fun p' vs' H3 np' s3 hp' hu' => ss_nil ⟨sB.trans (sA.trans s3), sT.trans (Same.T (sA.trans s3)), p', vs', _, _, _, ?_, hp', hu', rfl⟩) (sw_true rfl rfl rfl (by decide +kernel))
      exact none_of_same (b1.trans (sB.trans sA)) np'
    · rintro σ' H' ⟨sB, sT, l, vs, o1, o2, o3, hn, hl, hu, rfl⟩
      rw [List.length_range] at hu
      refine ss_ret (r := rVal) (x := .ref l) (ev_nm 1 rfl rfl) fun v H7 s7 rv => ?_
      have rv : v = .ref l := rv
      subst rv
      exact k l vs H7 hn ((b1.trans sB).trans s7) (s7 _ _ hl) (R.us_up (Same.T s7) hu)
/-! lot_ofD -/
abbrev spLotD : Sp := SpF (aCons (rTup rStr) (aCons (rDct rStr) aNil)) (fun i => i.1.length ≤ 1000) (rTup rStr) fun i => lotOf i.1 (i.2.1.map (·.1))
theorem ok_lot_ofD (T : Glo mg) (F : Fun K "lot_of" "lot_of" sLot f fd) : FnOk P w K mg base CX0 1 f fd ["names", "some"] spLotD := by
  refine F.ok (N := nLot) scLot (fun vs H Q E h => ?_) (fun cdv A outer s H vs Q E hr h => ⟨wpSs _ _, wpSs_pss, ?_⟩)
  · obtain ⟨i, ⟨v, ws, rfl, _, v2, ws2, rfl, _, rfl⟩, _⟩ := h
    rfl
  · obtain ⟨⟨ns, so, _⟩, ⟨v, _, rfl, h1, v2, _, rfl, h2, rfl⟩, hl, k⟩ := h
    have hu : (A.deeper (envOfC "lot_of" (defScope sLot) s.heap.objs.size f cdv)).units + 1 < cLine := by have := hr.units; omega
    exact ss_ret (ev_tuple T.tuple (el_fil1 (j := 2) rfl scLot.nd (blkOk_by (N := nLot) (sc := defScope sLot) (by decide +kernel)) (ei_tup (ev_nm 0 rfl h1)) (Nat.le_trans hl (by decide))
      (fun v x H1 hx s1 rx s H0 C cl fp => et_inD hu (ev_nm 2 rfl rx) (ev_nm 1 rfl ((rDct rStr).up (Same.T s1) h2))) (fun v x H1 hx s1 rx s H0 C cl fp => ev_nm 2 rfl rx))) (fun v H1 s rv => k v H1 s rv)
/-! with_answer -/
abbrev sWan : Stmt := top 66
abbrev nWan : List Str := ["shelf", "answers", "keeper", "values", "table", "name"]
theorem scWan : FnScope nWan ["shelf", "answers", "keeper", "values"] (defScope sWan) := ⟨rfl, rfl, rfl, by decide +kernel, rfl, by decide +kernel, by decide +kernel⟩
def withAns (L : Lore) (as : List (Str × Str)) (n z : Str) : List (Str × Str) := (lotOf L.names ((as ++ [(n, z)]).map (·.1))).map fun m => (m, ((as ++ [(n, z)]).lookup m).getD "")
abbrev spWan (C CC : Addr) : Sp := SpF (aConsS (rShelf C CC) (aCons rAs (aCons rStr (aCons rStr aNil)))) (fun i => WF i.1 ∧ i.2.1.length ≤ 100 ∧ ((i.2.1 ++ [(i.2.2.1, i.2.2.2.1)]).map (·.1)).Nodup) rAs fun i => withAns i.1 i.2.1 i.2.2.1 i.2.2.2.1
theorem ok_with_answer (T : Glo mg) (S : ShTxt P w K mg base C CC) (F : Fun K "with_answer" "with_answer" sWan f fd) (cLot : Cal P w K mg base 1 "lot_of" spLotD) : FnOk P w K mg base CX0 3 f fd ["shelf", "answers", "keeper", "values"] (spWan C CC) := by
  refine F.ok (N := nWan) scWan (fun vs H Q E h => ?_) (fun cdv A outer s H vs Q E hr h => ⟨wpSs _ _, wpSs_pss, ?_⟩)
  · obtain ⟨i, ⟨v, ws, rfl, _, v2, ws2, rfl, _, v3, ws3, rfl, _, v4, ws4, rfl, _, rfl⟩, _⟩ := h
    rfl
  · obtain ⟨⟨L, as, n, z, _⟩, ⟨v, _, rfl, h1, v2, _, rfl, h2, v3, _, rfl, h3, v4, _, rfl, h4, rfl⟩, ⟨hW, hn, nd⟩, k⟩ := h
    have hW : WF L := hW
    have hn : as.length ≤ 100 := hn
    have nd : ((as ++ [(n, z)]).map (·.1)).Nodup := nd
    have hu : (A.deeper (envOfC "with_answer" (defScope sWan) s.heap.objs.size f cdv)).units + 1 < cLine := by have := hr.units; omega
    have k : ∀ v H', Same H H' → rAs.rel H' v (withAns L as n z) → Q v H' := k
    refine ss_set (i := 4) (r := rDct rStr) (x := as ++ [(n, z)]) (ev_dictP rfl T.dict nd (el_starT (ev_nm 1 rfl h2) (ev_pair (ev_nm 2 rfl h3) (ev_nm 3 rfl h4)) (by omega))) (fun v5 H5 s5 rv => ?_) scWan.nd
    refine ss_ret (ev_tuple T.tuple (el_map1 (j := 5) (t := rPair rStr rStr) (f := fun m => (m, ((as ++ [(n, z)]).lookup m).getD "")) rfl scWan.nd (blkOk_by (N := nWan) (sc := defScope sWan) (by decide +kernel)) (ei_tup (ev_call cLot (hr.mono (by decide)) (o := lotOf L.names ((as ++ [(n, z)]).map (·.1))) (ea_cons (ev_names S hr (ev_circle S hr (ev_nmS 0 rfl ((rShelf C CC).up s5 h1)))).tup (ea_cons (ev_nm 4 rfl rv) ea_nil)) (Nat.le_trans hW.n6 (by decide)))) (Nat.le_trans (List.length_filter_le _ _) (Nat.le_trans hW.n6 (by decide)))
      (fun v x H1 hx s1 rx s H0 C' cl fp => ev_pair (ev_nm 5 rfl rx) (ev_dget hu (y := ((as ++ [(n, z)]).lookup x).getD "") ?_ (ev_nm 4 rfl ((rDct rStr).up (Same.T s1) rv)) (ev_nm 5 rfl rx))))) (fun v H6 s6 rv => k v H6 (s5.trans s6) rv)
    have hx2 : x ∈ (as ++ [(n, z)]).map (·.1) := by simpa using (List.mem_filter.mp hx).2
    obtain ⟨y, hy⟩ := lookup_mem hx2
    rw [hy]; rfl
end
end LK
set_option maxHeartbeats 4000000
namespace LK
open PySem PySem.Spec PyProof.Rows L2
def lessens (L : Lore) (as : List (Str × Str)) (b : Int) (n : Str) : Bool := (valuesBy (spotsOf L [n]).length).all fun z => !decide ((believedBy L (withAns L as n z) b).length = (believedBy L as b).length)
theorem withAns_len {L : Lore} (W : WF L) (as : List (Str × Str)) (n z : Str) : (withAns L as n z).length ≤ 100 := by
  unfold withAns
  rw [List.length_map]
  exact Nat.le_trans (List.length_filter_le _ _) (Nat.le_trans W.n6 (by decide))
section
variable {P : Program} {w : World} {K : PySem.W.Frag} {mg : Str → Option Value} {base : Heap} {f C CC : Addr} {fd : FuncData}
/-! does_lessen -/
abbrev sDle : Stmt := top 67
abbrev nDle : List Str := ["shelf", "answers", "bound", "keeper", "many", "values"]
theorem scDle : FnScope nDle ["shelf", "answers", "bound", "keeper"] (defScope sDle) := ⟨rfl, rfl, rfl, by decide +kernel, rfl, by decide +kernel, by decide +kernel⟩
abbrev spDle (C CC : Addr) : Sp := SpF (aConsS (rShelf C CC) (aCons rAs (aCons rInt (aCons rStr aNil)))) (fun i => WF i.1 ∧ i.2.1.length ≤ 100 ∧ ((i.2.1.map (·.1)) ++ [i.2.2.2.1]).Nodup) rBool fun i => lessens i.1 i.2.1 i.2.2.1 i.2.2.2.1
theorem ok_does_lessen (T : Glo mg) (F : Fun K "does_lessen" "does_lessen" sDle f fd) (cBby : Cal P w K mg base 7 "believed_by" (spBby C CC)) (cVby : Cal P w K mg base 1 "values_by" spVby) (cSpo : Cal P w K mg base 1 "spots_of" (spSpo C CC)) (cWan : Cal P w K mg base 3 "with_answer" (spWan C CC)) : FnOk P w K mg base CX0 8 f fd ["shelf", "answers", "bound", "keeper"] (spDle C CC) := by
  refine F.ok (N := nDle) scDle (fun vs H Q E h => ?_) (fun cdv A outer s H vs Q E hr h => ⟨wpSs _ _, wpSs_pss, ?_⟩)
  · obtain ⟨i, ⟨v, ws, rfl, _, v2, ws2, rfl, _, v3, ws3, rfl, _, v4, ws4, rfl, _, rfl⟩, _⟩ := h
    rfl
  · obtain ⟨⟨L, as, b, n, _⟩, ⟨v, _, rfl, h1, v2, _, rfl, h2, v3, _, rfl, h3, v4, _, rfl, h4, rfl⟩, ⟨hW, hn, nd⟩, k⟩ := h
    have hW : WF L := hW
    have hn : as.length ≤ 100 := hn
    have nd : ((as.map (·.1)) ++ [n]).Nodup := nd
    have h3 : v3 = .int b := h3
    have h4 : v4 = .str n := h4
    subst h3
    subst h4
    have k : ∀ v H', Same H H' → rBool.rel H' v (lessens L as b n) → Q v H' := k
    have hsl := spotsOf_len hW [n]
    refine ss_set (i := 4) (ev_lenL T.len (el_call cBby hr (ea_consS (ev_nmS 0 rfl h1) (ea_cons (ev_nm 1 rfl h2) (ea_cons (ev_nm (r := rInt) 2 rfl rfl) ea_nil))) ⟨hW, hn⟩)) (fun v5 H5 s5 rv => ?_) scDle.nd
    have rv : v5 = .int ((believedBy L as b).length : Nat) := rv
    subst rv
    have h1 := (rShelf C CC).up s5 h1
    have h2 := rAs.up (Same.T s5) h2
    refine ss_for1 (j := 5) (r := rStr) (xs := valuesBy (spotsOf L [n]).length) (Hb := H5) (Same.refl _) (ei_newlist (el_call cVby (hr.mono (by decide)) (ea_cons (r := rNat) (x := (spotsOf L [n]).length) (ev_lenL T.len (el_call cSpo (hr.mono (by decide)) (ea_consS (ev_nmS 0 rfl h1) (ea_cons (ev_tup (el_cons (ev_nm (r := rStr) 3 rfl rfl) el_nil) (by simp)) ea_nil)) hW)) ea_nil) hsl)) rfl PassesOwn.never scDle.nd (fun B H2 b1 b2 b3 fr => ?_)
    refine ⟨fun m σ' H' => Same H2 H' ∧ (((valuesBy (spotsOf L [n]).length).take m).all fun z => !decide ((believedBy L (withAns L as n z) b).length = (believedBy L as b).length)) = true ∧ ∃ o, σ' = [some v, some v2, some (.int b), some (.str n), some (.int ((believedBy L as b).length : Nat)), o],
      ⟨Same.refl _, by simp, _, rfl⟩, fun m σ' H' h => ⟨b2.trans h.1, Same.T h.1⟩, ?_, ?_⟩
    · rintro m z v6 σ' Ha Hc hx ⟨sB, hall, o, rfl⟩ sA rx
      have h1 := (rShelf C CC).up (b3.trans (sB.trans sA)) h1
      have h2 := rAs.up (Same.T (b3.trans (sB.trans sA))) h2
      refine ss_if (k := decide ((believedBy L (withAns L as n z) b).length = (believedBy L as b).length)) ((et_eqI (int_of_nat (ev_lenL T.len (el_call cBby hr (o := believedBy L (withAns L as n z) b) (ea_consS (ev_nmS 0 rfl h1) (ea_cons (ev_call cWan (hr.mono (by decide)) (o := withAns L as n z) (ea_consS (ev_nmS 0 rfl h1) (ea_cons (ev_nm 1 rfl h2) (ea_cons (ev_nm (r := rStr) 3 rfl rfl) (ea_cons (ev_nm 5 rfl rx) ea_nil)))) ⟨hW, hn, by
          show ((as ++ [(n, z)]).map (·.1)).Nodup
          rw [List.map_append]; exact nd⟩) (ea_cons (ev_nm (r := rInt) 2 rfl rfl) ea_nil))) ⟨hW, withAns_len hW as n z⟩))) (ev_nm (r := rInt) 4 rfl rfl)).eq (decide_eq_decide.mpr (by omega))) (fun hq H7 s7 => ?_) (fun hq H7 s7 => ss_nil (ss_nil ?_))
      · refine ss_ret ev_bl (fun v8 H8 s8 rv => k v8 H8 ((((s5.trans b3).trans (sB.trans sA)).trans s7).trans s8) ?_)
        have : lessens L as b n = false := by
          unfold lessens
          rw [List.all_eq_false]
          exact ⟨z, List.mem_of_getElem? hx, by simpa using hq⟩
        rw [this]
        exact rv
      · refine ⟨sB.trans (sA.trans s7), ?_, _, rfl⟩
        rw [List.take_add_one, hx, List.all_append, hall]
        simpa using hq
    · rintro σ' H' ⟨sB, hall, o, rfl⟩
      rw [List.take_length] at hall
      refine ss_ret ev_bl (fun v8 H8 s8 rv => k v8 H8 (((s5.trans b3).trans sB).trans s8) ?_)
      have : lessens L as b n = true := hall
      rw [this]
      exact rv
end
end LK
set_option maxHeartbeats 4000000
namespace LK
open PySem PySem.Spec PyProof.Rows L2
/-- the law's own lore: a dict -/
def rLore : R Lore := ⟨fun H v L => ∃ p kvs pa na pc, v = .ref p ∧ H p = some (.dK kvs) ∧ valV kvs (.inr "parts") = some pa ∧ valV kvs (.inr "names") = some na ∧ valV kvs (.inr "pieces") = some pc ∧ (rTup rStr).rel H pa L.parts ∧ (rTupN rStr).rel H na L.names ∧ (rTup (rTup (rTup rStr))).rel H pc L.pieces,
  fun e ⟨p, kvs, pa, na, pc, a, b, c1, c2, c3, d1, d2, d3⟩ => ⟨p, kvs, pa, na, pc, a, e _ _ b trivial, c1, c2, c3, (rTup rStr).up e d1, (rTupN rStr).up e d2, (rTup (rTup (rTup rStr))).up e d3⟩⟩
section
variable {X : Cx} {a b : Expr} {σ : L2.St} {H : Hp} {pos : Pos} {L : Lore}
theorem ev_lparts {j : Nat} {q : Pos} (hu : X.A.units + 1 < cLine) (ha : Ev X a σ H rLore L) : Ev X (.Subscript a (.Constant (.str "parts") j q) pos) σ H (rTup rStr) L.parts := fun H1 s Q k =>
  wpE_of (pe_dget hu wpE_pe pe_str (fun _ _ => rfl)) (ha H1 s _ fun v H2 s2 ⟨p, kvs, pa, na, pc, ev, b, c1, c2, c3, d1, d2, d3⟩ => ⟨p, pa, ev, by rw [← c1]; exact DGet.k (k := .inr "parts") b, k pa H2 s2 d1⟩)
theorem ev_lnames {j : Nat} {q : Pos} (hu : X.A.units + 1 < cLine) (ha : Ev X a σ H rLore L) : Ev X (.Subscript a (.Constant (.str "names") j q) pos) σ H (rTupN rStr) L.names := fun H1 s Q k =>
  wpE_of (pe_dget hu wpE_pe pe_str (fun _ _ => rfl)) (ha H1 s _ fun v H2 s2 ⟨p, kvs, pa, na, pc, ev, b, c1, c2, c3, d1, d2, d3⟩ => ⟨p, na, ev, by rw [← c2]; exact DGet.k (k := .inr "names") b, k na H2 s2 d2⟩)
theorem ev_lpieces {j : Nat} {q : Pos} (hu : X.A.units + 1 < cLine) (ha : Ev X a σ H rLore L) : Ev X (.Subscript a (.Constant (.str "pieces") j q) pos) σ H (rTup (rTup (rTup rStr))) L.pieces := fun H1 s Q k =>
  wpE_of (pe_dget hu wpE_pe pe_str (fun _ _ => rfl)) (ha H1 s _ fun v H2 s2 ⟨p, kvs, pa, na, pc, ev, b, c1, c2, c3, d1, d2, d3⟩ => ⟨p, pc, ev, by rw [← c3]; exact DGet.k (k := .inr "pieces") b, k pc H2 s2 d3⟩)
end
/-! ### the mirror of the law's own looks -/
def isMark (z : Str) : Bool := decide (z = "0") || decide (z = "1")
/-- a record: one mark a part -/
structure IsRec (n : Nat) (z : Str) : Prop where
  len : z.cps.size = n
  mks : ∀ c ∈ signs z, c = ("0" : Str) ∨ c = "1"
def pieceVal (parts piece : List Str) (z : Str) : Int := (((parts.zip (signs z)).filter fun x => decide (x.1 ∈ piece)).map fun x => if x.2 = ("1" : Str) then (1 : Int) else 0).sum % 2
def lawAns (L : Lore) (n z : Str) : Str := Txt.join "" ((L.pieces.getD (L.names.idxOf n) []).map fun pc => toString (pieceVal L.parts pc z))
def lawLies (L : Lore) (as : List (Str × Str)) (z : Str) : List Str := (as.filter fun x => !decide (lawAns L x.1 z = x.2)).map (·.1)
def lawBel (L : Lore) (as : List (Str × Str)) (b : Int) : List Str := (valuesBy L.parts.length).filter fun z => decide (((lawLies L as z).length : Int) ≤ b)
theorem signs_app (a b : Str) : signs (a ++ b) = signs a ++ signs b := by
  show ((a.cps ++ b.cps).toList.map _) = _
  simp [signs]
theorem rec_of : ∀ {n : Nat} {z : Str}, z ∈ valuesBy n → IsRec n z
  | 0, z, h => by
    have : z = "" := by simpa [valuesBy] using h
    subst this
    exact ⟨rfl, fun c hc => by cases hc⟩
  | n + 1, z, h0 => by
    obtain ⟨a, ha, h⟩ := List.mem_flatMap.mp (show z ∈ (valuesBy n).flatMap _ from h0)
    obtain ⟨m, hm, rfl⟩ := List.mem_map.mp h
    have ih := rec_of ha
    have hm' : m = ("0" : Str) ∨ m = "1" := by simpa using hm
    have hsm : signs m = [m] := by rcases hm' with rfl | rfl <;> rfl
    refine ⟨?_, fun c hc => ?_⟩
    · have : (a ++ m).length = n + 1 := valuesBy_str (n := n + 1) h0
      exact this
    · rw [signs_app, hsm] at hc
      rcases List.mem_append.mp hc with hc | hc
      · exact ih.mks c hc
      · have : c = m := by simpa using hc
        subst this; exact hm'
theorem pieceVal_two (parts piece : List Str) (z : Str) : pieceVal parts piece z = 0 ∨ pieceVal parts piece z = 1 := by
  unfold pieceVal
  omega
end LK
set_option maxHeartbeats 4000000
namespace LK
open PySem PySem.Spec PyProof.Rows L2
def isInside (xs ys : List Str) : Bool := (xs.map fun n => decide (n ∈ ys)).all id
theorem sum_small {α : Type} (l : List α) (f : α → Int) : True := trivial
section
variable {P : Program} {w : World} {K : PySem.W.Frag} {mg : Str → Option Value} {base : Heap} {f C CC : Addr} {fd : FuncData}
/-! law_is_inside -/
abbrev sLii : Stmt := top 79
abbrev nLii : List Str := ["_law_one", "_law_other", "_law_name"]
theorem scLii : FnScope nLii ["_law_one", "_law_other"] (defScope sLii) := ⟨rfl, rfl, rfl, by decide +kernel, rfl, by decide +kernel, by decide +kernel⟩
abbrev spLii : Sp := SpF (aCons (rTup rStr) (aCons (rTup rStr) aNil)) (fun i => i.1.length ≤ 1000) rBool fun i => isInside i.1 i.2.1
theorem ok_law_is_inside (T : Glo mg) (F : Fun K "_law_is_inside" "_law_is_inside" sLii f fd) : FnOk P w K mg base CX0 1 f fd ["_law_one", "_law_other"] spLii := by
  refine F.ok (N := nLii) scLii (fun vs H Q E h => ?_) (fun cdv A outer s H vs Q E hr h => ⟨wpSs _ _, wpSs_pss, ?_⟩)
  · obtain ⟨i, ⟨v, ws, rfl, _, v2, ws2, rfl, _, rfl⟩, _⟩ := h
    rfl
  · obtain ⟨⟨xs, ys, _⟩, ⟨v, _, rfl, h1, v2, _, rfl, h2, rfl⟩, hl, k⟩ := h
    exact ss_ret (ev_all rfl T.all (el_map1 (j := 2) (t := rBool) (f := fun n => decide (n ∈ ys)) rfl scLii.nd (blkOk_by (N := nLii) (sc := defScope sLii) (by decide +kernel)) (ei_tup (ev_nm 0 rfl h1)) (Nat.le_trans hl (by decide))
      (fun v x H1 hx s1 rx s H0 C cl fp => ev_inT (ev_nm 2 rfl rx) (ev_nm 1 rfl ((rTup rStr).up (Same.T s1) h2))))) (fun v H1 s rv => k v H1 s rv)
/-! law_lot_of -/
abbrev sLlo : Stmt := top 78
abbrev nLlo : List Str := ["_law_names_here", "_law_some_here", "_law_name"]
theorem scLlo : FnScope nLlo ["_law_names_here", "_law_some_here"] (defScope sLlo) := ⟨rfl, rfl, rfl, by decide +kernel, rfl, by decide +kernel, by decide +kernel⟩
abbrev spLlo : Sp := SpF (aCons (rTup rStr) (aConsS (rLst rStr) aNil)) (fun i => i.1.length ≤ 1000) (rTup rStr) fun i => lotOf i.1 i.2.1
theorem ok_law_lot_of (T : Glo mg) (F : Fun K "_law_lot_of" "_law_lot_of" sLlo f fd) : FnOk P w K mg base CX0 1 f fd ["_law_names_here", "_law_some_here"] spLlo := by
  refine F.ok (N := nLlo) scLlo (fun vs H Q E h => ?_) (fun cdv A outer s H vs Q E hr h => ⟨wpSs _ _, wpSs_pss, ?_⟩)
  · obtain ⟨i, ⟨v, ws, rfl, _, v2, ws2, rfl, _, rfl⟩, _⟩ := h
    rfl
  · obtain ⟨⟨ns, so, _⟩, ⟨v, _, rfl, h1, v2, _, rfl, h2, rfl⟩, hl, k⟩ := h
    exact ss_ret (ev_tuple T.tuple (el_fil1 (j := 2) rfl scLlo.nd (blkOk_by (N := nLlo) (sc := defScope sLlo) (by decide +kernel)) (ei_tup (ev_nm 0 rfl h1)) (Nat.le_trans hl (by decide))
      (fun v x H1 hx s1 rx s H0 C cl fp => et_inS (ev_nm 2 rfl rx) (ev_nmS 1 rfl ((rLst rStr).up s1 h2))) (fun v x H1 hx s1 rx s H0 C cl fp => ev_nm 2 rfl rx))) (fun v H1 s rv => k v H1 s rv)
/-! law_is_int -/
abbrev sLin : Stmt := top 76
abbrev nLin : List Str := ["_law_value", "_law_low", "_law_high"]
theorem scLin : FnScope nLin ["_law_value", "_law_low", "_law_high"] (defScope sLin) := ⟨rfl, rfl, rfl, by decide +kernel, rfl, by decide +kernel, by decide +kernel⟩
abbrev spLin : Sp := SpF (aCons rInt (aCons rInt (aCons rInt aNil))) (fun _ => True) rBool fun i => decide (i.2.1 ≤ i.1) && decide (i.1 ≤ i.2.2.1)
abbrev FLI (K : PySem.W.Frag) (f : Addr) (fd : FuncData) : Prop := FunD K "_law_is_int" "_law_is_int" (defArgs sLin) (defBody sLin) (defScope sLin) [.non] [] f fd
theorem ok_law_is_int (T : Glo mg) (F : FLI K f fd) : FnOk P w K mg base CX0 1 f fd ["_law_value", "_law_low", "_law_high"] spLin := by
  refine F.ok (N := nLin) scLin (fun vs H Q E h => ?_) (fun cdv A outer s H vs Q E hr h => ⟨_, PSs.nox wpSs_pss, ?_⟩)
  · obtain ⟨i, ⟨v, ws, rfl, _, v2, ws2, rfl, _, v3, ws3, rfl, _, rfl⟩, _⟩ := h
    rfl
  · obtain ⟨⟨i, lo, hi, _⟩, ⟨v, _, rfl, h1, v2, _, rfl, h2, v3, _, rfl, h3, rfl⟩, -, k⟩ := h
    refine ss_no ((et_or (et_not (et_val (ev_isi T.isinstance (ev_nm 0 rfl h1) (ev_bty (by decide +kernel) T.int) rty_int kb_ii))) (fun _ => et_val (ev_isi T.isinstance (ev_nm 0 rfl h1) (ev_bty (by decide +kernel) T.bool) rty_int kb_ib))).eq rfl) fun H2 s2 => ?_
    have h1 := rInt.up (Same.T s2) h1
    have h2 := rInt.up (Same.T s2) h2
    have h3 := rInt.up (Same.T s2) h3
    refine ss_ret ((ev_and (k := decide (lo ≤ i)) (l := decide (i ≤ hi)) (ev_le (ev_nm 1 rfl h2) (ev_nm 0 rfl h1)) (fun _ => (ev_or (k := false) ((ev_isN (int_val (ev_nm 2 rfl h3))).eq (by simp)) (fun _ => ev_le (ev_nm 0 rfl h1) (ev_nm 2 rfl h3))).eq (by simp)))) (fun v H3 s3 rv => k v H3 (s2.trans s3) rv)
/-! law_records -/
abbrev sLre : Stmt := top 85
abbrev nLre : List Str := ["_law_lore", "_law_found", "_law_part", "_law_longer", "_law_record", "_law_mark"]
theorem scLre : FnScope nLre ["_law_lore"] (defScope sLre) := ⟨rfl, rfl, rfl, by decide +kernel, rfl, by decide +kernel, by decide +kernel⟩
abbrev spLre : Sp := SpL (aCons rLore aNil) (fun i => i.1.parts.length ≤ 3) rStr fun i => valuesBy i.1.parts.length
theorem ok_law_records (T : Glo mg) (F : Fun K "_law_records" "_law_records" sLre f fd) : FnOk P w K mg base CX0 1 f fd ["_law_lore"] spLre := by
  refine F.ok (N := nLre) scLre (fun vs H Q E h => ?_) (fun cdv A outer s H vs Q E hr h => ⟨wpSs _ _, wpSs_pss, ?_⟩)
  · obtain ⟨i, ⟨v, ws, rfl, _, rfl⟩, _⟩ := h
    rfl
  · obtain ⟨⟨L, _⟩, ⟨v, _, rfl, h1, rfl⟩, h3, k⟩ := h
    have h3 : L.parts.length ≤ 3 := h3
    have hu : (A.deeper (envOfC "_law_records" (defScope sLre) s.heap.objs.size f cdv)).units + 1 < cLine := by have := hr.units; omega
    have k : ∀ p vs H', H p = none → Same H H' → H' p = some (.lst vs) → rStr.us H' vs (valuesBy L.parts.length) → Q (.ref p) H' := k
    refine ss_setL (i := 1) (r := rStr) (el_lst (el_cons ev_str el_nil) (by simp)) (fun l vs H1 np s1 hl1 hu1 => ?_) scLre.nd
    refine ss_for1 (j := 2) (r := rStr) (xs := L.parts) (Hb := H) s1 (ei_tup (ev_lparts hu (ev_nm 0 rfl h1))) rfl PassesOwn.never scLre.nd (fun B H2 b1 b2 b3 fr => ?_)
    refine ⟨fun m σ' H' => Same B H' ∧ SameT H2 H' ∧ ∃ l vs o1 o2 o3 o4, H l = none ∧ H' l = some (.lst vs) ∧ rStr.us H' vs (valuesBy m) ∧ σ' = [some v, some (.ref l), o1, o2, o3, o4],
      ⟨b2, SameT.refl _, l, vs, _, _, _, _, np, b3 _ _ hl1, R.us_up (Same.T b3) hu1, rfl⟩, fun m σ' H' h => ⟨h.1, h.2.1⟩, ?_, ?_⟩
    · rintro m x v6 σ' Ha Hc hx ⟨sB, sT, l, vs, o1, o2, o3, o4, hn, hl, hu1, rfl⟩ sA rx
      have hm : m < L.parts.length := (List.getElem?_eq_some_iff.mp hx).1
      have hlen := valuesBy_len m
      have h2m : 2 ^ m ≤ 2 ^ 3 := Nat.pow_le_pow_right (by decide) (by omega)
      refine ss_setL (i := 3) (r := rStr) (el_lst el_nil (by simp)) (fun l2 vs2 H3 np2 s3 hl2 hu2 => ?_) scLre.nd
      cases hu2
      have hw : Same Hc (wo H3 l2) := fun b o e => by
        rw [wo_ne (ne_of_none e np2)]
        exact s3 _ _ e
      refine ss_for1 (j := 4) (r := rStr) (xs := valuesBy m) (Hb := wo H3 l2) (wo_same _ _) (ei_list (ev_nm (r := rVal) 1 rfl rfl) (hw _ _ (sA _ _ hl)) (R.us_up (Same.T hw) (R.us_up (Same.T sA) hu1))) rfl PassesOwn.never scLre.nd (fun B' H4 c1 c2 c3 fr' => ?_)
      have bn : B' l2 = none := fr' l2 (by rw [hl2]; simp) (wo_at _ _)
      refine ⟨fun q σ' H' => Same B' H' ∧ SameT H4 H' ∧ ∃ ws p4 p5, H' l2 = some (.lst ws) ∧ rStr.us H' ws (((valuesBy m).take q).flatMap fun a => [("0" : Str), "1"].map fun z => a ++ z) ∧ ws.length ≤ 2 * q ∧ σ' = [some v, some (.ref l), some v6, some (.ref l2), p4, p5],
        ⟨c2, SameT.refl _, [], _, _, c3 _ _ hl2, .nil, by simp, rfl⟩, fun q σ' H' h => ⟨h.1, h.2.1⟩, ?_, ?_⟩
      · rintro q a v7 σ' Hd He hq ⟨sB', sT', ws, p4, p5, hws, uws, wl, rfl⟩ sDE ra
        have hqm : q < 2 ^ m := by rw [← hlen]; exact (List.getElem?_eq_some_iff.mp hq).1
        have hamem := List.mem_of_getElem? hq
        refine ss_ext (l := l2) (xs := [("0" : Str), "1"].map fun z => a ++ z) (r := rStr) (sDE _ _ hws) (by simp; omega) (ev_nm (r := rVal) 3 rfl rfl)
          (el_map1 (xs := [("0" : Str), "1"]) (j := 5) (t := rStr) (f := fun z => a ++ z) rfl scLre.nd (blkOk_by (N := nLre) (sc := defScope sLre) (by decide +kernel)) (ei_str (z := ("01" : Str)) ev_str) (by simp)
            (fun v x H1 hx s1 rx s H0 C cl fp => ev_addS (by
              rw [valuesBy_str hamem]
              have : x.length = 1 := by
                rcases List.mem_cons.mp hx with rfl | hx
                · rfl
                · have : x = "1" := by simpa using hx
                  subst this; rfl
              omega) (ev_nm 4 rfl (rStr.up (Same.T s1) ra)) (ev_nm 5 rfl rx))) fun ws' H6 s6 hu6 => ?_
        have en6 := s6 _ _ (sDE _ _ hws)
        refine ss_nil ⟨Same.mut (sB'.trans (sDE.trans s6)) bn, (sT'.trans (Same.T (sDE.trans s6))).trans (SameT.upd en6), ws ++ ws', _, _, upd_same, ?_, ?_, rfl⟩
        · rw [take_succ_flat hq]
          exact paired_append (R.us_up ((Same.T (sDE.trans s6)).trans (SameT.upd en6)) uws) (R.us_up (SameT.upd en6) hu6)
        · have := us_length hu6
          simp at this ⊢
          omega
      · rintro σ' Hd ⟨sB', sT', ws, p4, p5, hws, uws, wl, rfl⟩
        rw [List.take_length] at uws
        refine ss_set (i := 1) (r := rVal) (x := .ref l2) (ev_nm 3 rfl rfl) (fun v9 H9 s9 rv9 => ss_nil ?_) scLre.nd
        have rv9 : v9 = .ref l2 := rv9
        subst rv9
        have sBd : Same Hc Hd := (hw.trans c1).trans sB'
        refine ⟨sB.trans (sA.trans (sBd.trans s9)), ((sT.trans (Same.T sA)).trans (Same.T (sBd.trans s9))), l2, ws, _, _, _, _, ?_, s9 _ _ hws, R.us_up (Same.T s9) uws, rfl⟩
        exact none_of_same (b1.trans (sB.trans sA)) np2
    · rintro σ' H' ⟨sB, sT, l, vs, o1, o2, o3, o4, hn, hl, hu1, rfl⟩
      refine ss_ret (r := rVal) (x := .ref l) (ev_nm 1 rfl rfl) fun v H7 s7 rv => ?_
      have rv : v = .ref l := rv
      subst rv
      exact k l vs H7 hn ((b1.trans sB).trans s7) (s7 _ _ hl) (R.us_up (Same.T s7) hu1)
/-! law_piece_value -/
abbrev sLpv : Stmt := top 86
abbrev nLpv : List Str := ["_law_lore", "_law_piece_here", "_law_record", "_law_part", "_law_mark"]
theorem scLpv : FnScope nLpv ["_law_lore", "_law_piece_here", "_law_record"] (defScope sLpv) := ⟨rfl, rfl, rfl, by decide +kernel, rfl, by decide +kernel, by decide +kernel⟩
abbrev spLpv : Sp := SpF (aCons rLore (aCons (rTup rStr) (aCons rStr aNil))) (fun i => i.1.parts.length ≤ 1000 ∧ IsRec i.1.parts.length i.2.2.1) rInt fun i => pieceVal i.1.parts i.2.1 i.2.2.1
theorem ok_law_piece_value (T : Glo mg) (F : Fun K "_law_piece_value" "_law_piece_value" sLpv f fd) : FnOk P w K mg base CX0 1 f fd ["_law_lore", "_law_piece_here", "_law_record"] spLpv := by
  refine F.ok (N := nLpv) scLpv (fun vs H Q E h => ?_) (fun cdv A outer s H vs Q E hr h => ⟨wpSs _ _, wpSs_pss, ?_⟩)
  · obtain ⟨i, ⟨v, ws, rfl, _, v2, ws2, rfl, _, v3, ws3, rfl, _, rfl⟩, _⟩ := h
    rfl
  · obtain ⟨⟨L, pc, z, _⟩, ⟨v, _, rfl, h1, v2, _, rfl, h2, v3, _, rfl, h3, rfl⟩, ⟨hl, hz⟩, k⟩ := h
    have hl : L.parts.length ≤ 1000 := hl
    have hz : IsRec L.parts.length z := hz
    have hu : (A.deeper (envOfC "_law_piece_value" (defScope sLpv) s.heap.objs.size f cdv)).units + 1 < cLine := by have := hr.units; omega
    refine ss_ret (ev_mod (by decide) (ev_sum rfl T.sum (el_lc2 (j1 := 3) (j2 := 4) (t := rInt) (q := fun x => decide (x.1 ∈ pc)) (f := fun x => if x.2 = ("1" : Str) then (1 : Int) else 0) (by decide) rfl scLpv.nd (blkOk_by (N := nLpv) (sc := defScope sLpv) (by decide +kernel)) (ei_zipTS (ev_lparts hu (ev_nm 0 rfl h1)) (ev_nm 2 rfl h3) hz.len.symm T.zip) (by rw [List.length_zip]; omega)
      (fun v w x H1 hx s1 r1 r2 s H0 C cl fp => ⟨ef_one (et_inT (ev_nm 3 rfl r1) (ev_nm 1 rfl ((rTup rStr).up (Same.T s1) h2))), fun _ => ev_intS T.int ?_ ?_ (ev_nm 4 rfl r2)⟩))) ev_int) (fun v H1 s rv => k v H1 s rv)
    · rcases hz.mks x.2 (List.of_mem_zip hx).2 with e | e <;> (rw [e]; decide +kernel)
    · rcases hz.mks x.2 (List.of_mem_zip hx).2 with e | e <;> (rw [e]; decide)
/-! law_answer -/
abbrev sLan : Stmt := top 87
abbrev nLan : List Str := ["_law_lore", "_law_name", "_law_record", "_law_some_here", "_law_piece_here"]
theorem scLan : FnScope nLan ["_law_lore", "_law_name", "_law_record"] (defScope sLan) := ⟨rfl, rfl, rfl, by decide +kernel, rfl, by decide +kernel, by decide +kernel⟩
abbrev spLan : Sp := SpF (aCons rLore (aCons rStr (aCons rStr aNil))) (fun i => WF i.1 ∧ i.2.1 ∈ i.1.names ∧ IsRec i.1.parts.length i.2.2.1) rStr fun i => lawAns i.1 i.2.1 i.2.2.1
theorem names_get {L : Lore} (W : WF L) {n : Str} (h : n ∈ L.names) : ∃ ps, L.pieces[L.names.idxOf n]? = some ps ∧ L.names[L.names.idxOf n]? = some n ∧ ps ∈ L.pieces := by
  have hi : L.names.idxOf n < L.names.length := List.idxOf_lt_length_of_mem h
  have hp : L.names.idxOf n < L.pieces.length := by rw [W.len]; exact hi
  refine ⟨L.pieces[L.names.idxOf n], List.getElem?_eq_getElem hp, ?_, List.getElem_mem hp⟩
  rw [List.getElem?_eq_getElem hi, List.getElem_idxOf hi]
theorem ok_law_answer (T : Glo mg) (F : Fun K "_law_answer" "_law_answer" sLan f fd) (cPv : Cal P w K mg base 1 "_law_piece_value" spLpv) : FnOk P w K mg base CX0 2 f fd ["_law_lore", "_law_name", "_law_record"] spLan := by
  refine F.ok (N := nLan) scLan (fun vs H Q E h => ?_) (fun cdv A outer s H vs Q E hr h => ⟨wpSs _ _, wpSs_pss, ?_⟩)
  · obtain ⟨i, ⟨v, ws, rfl, _, v2, ws2, rfl, _, v3, ws3, rfl, _, rfl⟩, _⟩ := h
    rfl
  · obtain ⟨⟨L, n, z, _⟩, ⟨v, _, rfl, h1, v2, _, rfl, h2, v3, _, rfl, h3, rfl⟩, ⟨hW, hn, hz⟩, k⟩ := h
    have hW : WF L := hW
    have hn : n ∈ L.names := hn
    have hz : IsRec L.parts.length z := hz
    have hu : (A.deeper (envOfC "_law_answer" (defScope sLan) s.heap.objs.size f cdv)).units + 1 < cLine := by have := hr.units; omega
    obtain ⟨ps, e1, e2, e3⟩ := names_get hW hn
    have e4 : L.pieces.getD (L.names.idxOf n) [] = ps := by rw [List.getD_eq_getElem?_getD, e1]; rfl
    have k : ∀ v H', Same H H' → rStr.rel H' v (Txt.join "" (ps.map fun pc => toString (pieceVal L.parts pc z))) → Q v H' := by
      rw [← e4]; exact k
    have hps : ps.length ≤ 2 := hW.two ps e3
    refine ss_set (i := 3) (r := rTup (rTup rStr)) (x := ps) (ev_ixT (i := L.names.idxOf n) (r := rTup (rTup rStr)) e1 (ev_lpieces hu (ev_nm 0 rfl h1)) (int_of_nat (ev_index e2 (fun m hm => idxOf_first hm) (ev_lnames hu (ev_nm 0 rfl h1)) (ev_nm 1 rfl h2)))) (fun v4 H4 s4 rv => ?_) scLan.nd
    refine ss_ret (ev_joinL (w := "") ?_ ev_str (el_map1 (j := 4) (t := rStr) (f := fun pc => toString (pieceVal L.parts pc z)) rfl scLan.nd (blkOk_by (N := nLan) (sc := defScope sLan) (by decide +kernel)) (ei_tup (ev_nm 3 rfl rv)) (by omega)
      (fun v x H1 hx s1 rx s H0 C cl fp => ev_strI T.str ?_ (ev_call cPv hr (ea_cons (ev_nm 0 rfl (rLore.up (Same.T (s4.trans s1)) h1)) (ea_cons (ev_nm 4 rfl rx) (ea_cons (ev_nm 2 rfl (rStr.up (Same.T (s4.trans s1)) h3)) ea_nil))) ⟨Nat.le_trans hW.p3 (by decide), hz⟩)))) (fun v H1 s rv => k v H1 (s4.trans s) rv)
    · rw [sum_one (fun z' hz' => by
        obtain ⟨pc, _, rfl⟩ := List.mem_map.mp hz'
        rcases pieceVal_two L.parts pc z with e | e <;> (rw [e]; rfl))]
      have h0 : (Str.ofString "").length = 0 := rfl
      rw [h0]
      simp
      omega
    · rcases pieceVal_two L.parts x z with e | e <;> (rw [e]; decide)
end
end LK
set_option maxHeartbeats 4000000
namespace LK
open PySem PySem.Spec PyProof.Rows L2
def primes5 : List Int := [2147483647, 2147483629, 2147483587, 2147483579, 2147483563]
theorem primes5_ok : ∀ x ∈ primes5, 0 < x ∧ x ≤ 2147483647 := by decide
section
variable {P : Program} {w : World} {K : PySem.W.Frag} {mg : Str → Option Value} {base : Heap} {f C CC : Addr} {fd : FuncData}
/-! law_take -/
abbrev sLta : Stmt := top 71
abbrev nLta : List Str := ["_law_pot_here", "_law_upto", "_law_digit", "_law_prime", "_law_mixed"]
theorem scLta : FnScope nLta ["_law_pot_here", "_law_upto"] (defScope sLta) := ⟨rfl, rfl, rfl, by decide +kernel, rfl, by decide +kernel, by decide +kernel⟩
abbrev spLta : Sp := SpD (fun _ => aConsS rNat.s aNil) (fun i => 0 < i.1 ∧ i.1 ≤ 1000) 1 (fun _ => rNat.s) fun i y => y < i.1
theorem mod_nat {a : Int} {u : Nat} (h : 0 < u) : ∃ y : Nat, a % (u : Int) = (y : Int) ∧ y < u := by
  have h0 := Int.emod_nonneg a (show (u : Int) ≠ 0 by omega)
  have h1 := Int.emod_lt_of_pos a (show (0 : Int) < u by omega)
  exact ⟨(a % (u : Int)).toNat, by omega, by omega⟩
theorem ok_law_take (T : Glo mg) (F : Fun K "_law_take" "_law_take" sLta f fd) : FnOk P w K mg base CX0 1 f fd ["_law_pot_here", "_law_upto"] spLta := by
  refine F.ok (N := nLta) scLta (fun vs H Q E h => ?_) (fun cdv A outer s H vs Q E hr h => ⟨wpSs _ _, wpSs_pss, ?_⟩)
  · obtain ⟨l, n, ws, i, rfl, _, _, ⟨v2, ws2, rfl, _, rfl⟩, _⟩ := h
    rfl
  · obtain ⟨l, n, ws, ⟨u, _⟩, rfl, ⟨a, b, c, hl, hb0, hb, hc0, hc⟩, hn, ⟨v2, _, rfl, h2, rfl⟩, ⟨hu0, hu⟩, k⟩ := h
    have hn : n + 1 ≤ 100000 := hn
    have hu0 : 0 < u := hu0
    have hu : u ≤ 1000 := hu
    have k : ∀ v y H', DL l H H' → Pot l (n + 1) H' → y < u → rNat.rel H' v y → Q v H' := k
    refine ss_if (k := decide (0 < a)) (et_gt (ev_ixL (i := 0) (r := rInt) (x := a) rfl (ev_nm (r := rVal) 0 rfl rfl) hl (int_us [a, b, c]) ev_int) ev_int) (fun hq H1 s1 => ?_) (fun hq H1 s1 => ss_nil ?_)
    · have hl1 := s1 _ _ hl
      obtain ⟨y, ey, hy⟩ := mod_nat (a := a) hu0
      refine ss_set (i := 2) (r := rNat) (x := y) (nat_of_int ((ev_mod (by omega) (ev_intI T.int (ev_ixL (i := 0) (r := rInt) (x := a) rfl (ev_nm (r := rVal) 0 rfl rfl) hl1 (int_us [a, b, c]) ev_int)) (int_of_nat (ev_nm 1 rfl (rNat.up (Same.T s1) h2)))).eq ey)) (fun v3 H3 s3 r3 => ?_) scLta.nd
      have hl3 := s3 _ _ hl1
      have hcd : CDiv a (u : Int) := ⟨by omega, by omega⟩
      refine ss_lset (i := 0) (r := rInt) (x := a / (u : Int)) hl3 (by simp) (ev_fdiv hcd (ev_ixL (i := 0) (r := rInt) (x := a) rfl (ev_nm (r := rVal) 0 rfl rfl) hl3 (int_us [a, b, c]) ev_int) (int_of_nat (ev_nm 1 rfl (rNat.up (Same.T (s1.trans s3)) h2)))) (ev_nm (r := rVal) 0 rfl rfl) ev_int (fun v4 H4 s4 r4 => ?_)
      have r4 : v4 = .int (a / (u : Int)) := r4
      subst r4
      refine ss_ret (r := rNat) (x := y) (ev_nm 2 rfl (by exact r3)) (fun v5 H5 s5 r5 => k v5 y H5 ?_ ?_ hy r5)
      · exact ((toD ((s1.trans s3).trans s4)).trans DL.at).trans (toD s5)
      · exact ⟨_, b, c, s5 _ _ upd_same, hb0, hb, hc0, by omega⟩
    · have hl1 := s1 _ _ hl
      refine ss_lset (i := 2) (r := rInt) (x := c + 1) hl1 (by simp) (ev_add (ev_ixL (i := 2) (r := rInt) (x := c) rfl (ev_nm (r := rVal) 0 rfl rfl) hl1 (int_us [a, b, c]) ev_int) ev_int) (ev_nm (r := rVal) 0 rfl rfl) ev_int (fun v2 H2 s2 r2 => ?_)
      have r2 : v2 = .int (c + 1) := r2
      subst r2
      have hlA : upd H2 l (.lst ([V.int a, V.int b, V.int c].set 2 (V.int (c + 1)))) l = some (.lst [.int a, .int b, .int (c + 1)]) := upd_same
      have dA : DL l H (upd H2 l (.lst ([V.int a, V.int b, V.int c].set 2 (V.int (c + 1))))) := (toD (s1.trans s2)).trans DL.at
      generalize upd H2 l (.lst ([V.int a, V.int b, V.int c].set 2 (V.int (c + 1)))) = HA at hlA dA
      obtain ⟨j, ej, hj⟩ := mod_nat (a := c + 1) (u := 5) (by decide)
      have hp5 : primes5[j]? = some (primes5.getD j 1) := by
        rw [List.getD_eq_getElem?_getD, List.getElem?_eq_getElem (show j < primes5.length from hj)]; rfl
      obtain ⟨pr, epr⟩ : ∃ pr, primes5.getD j 1 = pr := ⟨_, rfl⟩
      rw [epr] at hp5
      have hpr := primes5_ok pr (List.mem_of_getElem? hp5)
      have pot2 : ∀ {X : Cx} {H σ} {a' : Expr} {pos : Pos} {k : Nat} {q : Pos}, H l = some (.lst [V.int a, V.int b, V.int (c + 1)]) → Ev X a' σ H rVal (.ref l) → Ev X (.Subscript a' (.Constant (.int 2) k q) pos) σ H rInt (c + 1) := fun h hn => ev_ixL (i := 2) (r := rInt) (x := c + 1) rfl hn h (int_us [a, b, c + 1]) ev_int
      have pot1 : ∀ {X : Cx} {H σ} {a' : Expr} {pos : Pos} {k : Nat} {q : Pos}, H l = some (.lst [V.int a, V.int b, V.int (c + 1)]) → Ev X a' σ H rVal (.ref l) → Ev X (.Subscript a' (.Constant (.int 1) k q) pos) σ H rInt b := fun h hn => ev_ixL (i := 1) (r := rInt) (x := b) rfl hn h (int_us [a, b, c + 1]) ev_int
      refine ss_set (i := 3) (r := rInt) (x := pr) (ev_ixN (i := j) (xs := primes5) hp5 (el_lst (el_cons ev_int (el_cons ev_int (el_cons ev_int (el_cons ev_int (el_cons ev_int el_nil))))) (by decide)) ((ev_mod (by decide) (ev_intI T.int (pot2 hlA (ev_nm (r := rVal) 0 rfl rfl))) ev_int).eq ej)) (fun v4 H4 s4 r4 => ?_) scLta.nd
      have hl4 := s4 _ _ hlA
      have hc1 : (c + 1) * (c + 1) ≤ 100001 * 100001 := Int.mul_le_mul (by omega) (by omega) (by omega) (by decide)
      have hc2 : 0 ≤ (c + 1) * (c + 1) := Int.mul_nonneg (by omega) (by omega)
      have hm1 : CMul 97843 (c + 1) := .inl ⟨by decide, by decide⟩
      have hm2 : CMul (97843 * (c + 1)) (c + 1) := .inr ⟨by omega, by omega⟩
      have hpw : CPow (b + 97843 * (c + 1) * (c + 1) + 109) 3 := ⟨by decide, by decide, by rw [Int.mul_assoc]; omega⟩
      refine ss_set (i := 4) (r := rInt) (ev_mod hpr.1 (ev_intI T.int (ev_pow hpw (ev_intI T.int (ev_add (ev_add (pot1 hl4 (ev_nm (r := rVal) 0 rfl rfl)) (ev_mul hm2 (ev_mul hm1 ev_int (pot2 hl4 (ev_nm (r := rVal) 0 rfl rfl))) (pot2 hl4 (ev_nm (r := rVal) 0 rfl rfl)))) ev_int)) ev_int)) (ev_nm 3 rfl r4)) (fun v5 H5 s5 r5 => ?_) scLta.nd
      have hx0 := Int.emod_nonneg ((b + 97843 * (c + 1) * (c + 1) + 109) ^ (3 : Int).toNat) (show pr ≠ 0 by omega)
      have hx1 := Int.emod_lt_of_pos ((b + 97843 * (c + 1) * (c + 1) + 109) ^ (3 : Int).toNat) hpr.1
      generalize (b + 97843 * (c + 1) * (c + 1) + 109) ^ (3 : Int).toNat % pr = x at r5 hx0 hx1
      have hl5 := s5 _ _ hl4
      have hm3 : CMul 181 (c + 1) := .inl ⟨by decide, by decide⟩
      have hm4 : CMul x (x % 10487 + 181 * (c + 1)) := .inl ⟨by omega, by omega⟩
      refine ss_set (i := 4) (r := rInt) (ev_mod (by decide) (ev_intI T.int (ev_mul hm4 (ev_nm 4 rfl r5) (ev_add (ev_mod (by decide) (ev_intI T.int (ev_nm 4 rfl r5)) ev_int) (ev_mul hm3 ev_int (pot2 hl5 (ev_nm (r := rVal) 0 rfl rfl)))))) ev_int) (fun v6 H6 s6 r6 => ?_) scLta.nd
      generalize x * (x % 10487 + 181 * (c + 1)) % 2305843009213693907 = z at r6
      have hd1 : CDiv z 173 := ⟨by decide, by decide⟩
      obtain ⟨y, ey, hy⟩ := mod_nat (a := z / 173) hu0
      have s46 : Same HA H6 := (s4.trans s5).trans s6
      refine ss_ret (r := rNat) (x := y) (nat_of_int ((ev_mod (by omega) (ev_intI T.int (ev_fdiv hd1 (ev_nm 4 rfl r6) ev_int)) (int_of_nat (ev_nm 1 rfl (by exact h2)))).eq ey)) (fun v7 H7 s7 r7 => k v7 y H7 ?_ ?_ hy r7)
      · exact (dA.trans (toD s46)).trans (toD s7)
      · exact ⟨a, b, c + 1, s7 _ _ (s46 _ _ hlA), hb0, hb, by omega, by omega⟩
/-! law_of -/
abbrev sLof : Stmt := top 72
abbrev nLof : List Str := ["_law_pot_here", "_law_some_here"]
theorem scLof : FnScope nLof ["_law_pot_here", "_law_some_here"] (defScope sLof) := ⟨rfl, rfl, rfl, by decide +kernel, rfl, by decide +kernel, by decide +kernel⟩
abbrev spLof {α : Type} (r : R α) : Sp := SpD (fun l => aConsS (rLstN l r) aNil) (fun i => 0 < i.1.length ∧ i.1.length ≤ 1000) 1 (fun _ => r.s) fun i y => y ∈ i.1
theorem ok_law_of {α : Type} {r : R α} (T : Glo mg) (F : Fun K "_law_of" "_law_of" sLof f fd) (cTa : Cal P w K mg base 1 "_law_take" spLta) : FnOk P w K mg base CX0 2 f fd ["_law_pot_here", "_law_some_here"] (spLof r) := by
  refine F.ok (N := nLof) scLof (fun vs H Q E h => ?_) (fun cdv A outer s H vs Q E hr h => ⟨wpSs _ _, wpSs_pss, ?_⟩)
  · obtain ⟨l, n, ws, i, rfl, _, _, ⟨v2, ws2, rfl, _, rfl⟩, _⟩ := h
    rfl
  · obtain ⟨l, n, ws, ⟨xs, _⟩, rfl, P, hn, ⟨v2, _, rfl, ⟨p, us, rfl, ne, hp, hu⟩, rfl⟩, ⟨h0, h1⟩, k⟩ := h
    have h0 : 0 < xs.length := h0
    have h1 : xs.length ≤ 1000 := h1
    have k : ∀ v y H', DL l H H' → Pot l (n + 1) H' → y ∈ xs → r.rel H' v y → Q v H' := k
    have hul := us_length hu
    refine ss_cons (wpS_of (ps_ret wpE_pe) (wpE_of (pe_ix ix_list wpE_pe wpE_pe (fun _ _ => rfl)) (wpE_ev (ev_nm (r := rVal) (x := .ref p) 1 rfl rfl) fun v H1 s1 rv => ?_)))
    have rv : v = .ref p := rv
    subst rv
    refine wpE_ed (ed_call (k1 := 0) (p1 := fun i => i = (xs.length, ())) cTa hr (j := 0) rfl hn (ead_of (fun H1 d P => ea_consS (r := rNat.s) (ev_lenK T.len (ev_nm (r := rVal) 1 rfl rfl) (d _ _ hp ne) hul) ea_nil) rfl) (fun i e => by subst e; exact ⟨h0, h1⟩)) (toD s1) (P.same s1) fun v y H2 d2 P2 ⟨i, e, hy⟩ ry => ?_
    subst e
    have hy : y < xs.length := hy
    have ry : v = .int (y : Int) := ry
    subst ry
    have hp2 := d2 _ _ (s1 _ _ hp) ne
    have hu2 := R.us_up ((d2.T (P.same s1))) (R.us_up (Same.T s1) hu)
    obtain ⟨v', hv', rv'⟩ := us_get' hu2 (List.getElem?_eq_getElem hy)
    refine ⟨p, us, (y : Int), v', rfl, rfl, SqL.of hp2, atI_nat hv', k v' _ H2 ((toD s1).trans d2) (P2.mono (by omega)) (List.getElem_mem hy) rv'⟩
end
end LK
set_option maxHeartbeats 4000000
namespace LK
open PySem PySem.Spec PyProof.Rows L2
theorem perm_erase {α : Type} : ∀ {l : List α} {i : Nat} (h : i < l.length), (l[i] :: l.eraseIdx i).Perm l
  | a :: t, 0, _ => by simp
  | a :: t, i + 1, h => by
    have h' : i < t.length := by simpa using h
    have ih := perm_erase h'
    simp only [List.getElem_cons_succ, List.eraseIdx_cons_succ]
    exact (List.Perm.swap a _ _).trans (List.Perm.cons a ih)
theorem set_map_str {vs : List V} {xs : List Str} (i : Nat) (h : vs = xs.map V.str) : vs.eraseIdx i = (xs.eraseIdx i).map V.str := by
  subst h
  induction xs generalizing i with
  | nil => rfl
  | cons a t ih => cases i with
    | zero => rfl
    | succ i => simp [ih]
section
variable {P : Program} {w : World} {K : PySem.W.Frag} {mg : Str → Option Value} {base : Heap} {f C CC : Addr} {fd : FuncData}
theorem ed_take {X : Cx} {e : Expr} {σ : L2.St} {H : Hp} {l : Addr} {n m : Nat} {pn : Str} {p pp pos : Pos} (cTa : Cal X.prog X.w X.K X.mg X.base 1 "_law_take" spLta) (hr : Room 1 X.A) (j : Nat) (hj : σ[j]? = some (some (.ref l))) (hn : n + 1 ≤ 100000) (he : EvD X e σ H l n 0 rNat.s (fun y => y = m)) (h0 : 0 < m) (h1 : m ≤ 1000)
    (hN : X.N[j]? = some pn := by rfl) (hv : Vis X.env.scope pn := by first | exact Or.inl rfl | exact Or.inr (Or.inl rfl) | exact Or.inr (Or.inr rfl)) (hd : (pn == ("__debug__" : Str)) = false := by decide) (hcd : (pn == ("__classdict__" : Str)) = false := by decide)
    (hg : Gl X "_law_take" := by rfl) (hee : starEach (.Name pn pp :: [e]) X.env = (false, eval (.Name pn pp) X.env) :: starEach [e] X.env := by rfl) (hs : starEach [e] X.env = (false, eval e X.env) :: starEach [] X.env := by rfl) (hpl : (backTo pos (starEach [e] X.env)).any (·.1) = false := by rfl) : EvD X (.Call (.Name "_law_take" p) [.Name pn pp, e] [] pos) σ H l n 1 rNat.s (fun y => y < m) :=
  ed_wk (ed_call (k1 := 0) (p1 := fun i => i.1 = m) cTa hr hj hn (ead_last he hs) (fun i e => by subst e; exact ⟨h0, h1⟩) hN hv hd hcd hg (by decide) hee hpl) (by omega) (fun y hy => by
    obtain ⟨i, rfl, hy⟩ := hy
    exact hy)
/-! law_some -/
abbrev sLso : Stmt := top 73
abbrev nLso : List Str := ["_law_pot_here", "_law_pool", "_law_amount", "_law_rest_here", "_law_found", "_law_lap"]
theorem scLso : FnScope nLso ["_law_pot_here", "_law_pool", "_law_amount"] (defScope sLso) := ⟨rfl, rfl, rfl, by decide +kernel, rfl, by decide +kernel, by decide +kernel⟩
abbrev spLso : Sp := SpD (fun l => aConsS (rPool l) (aConsS rNat.s aNil)) (fun i => i.2.1 ≤ i.1.length ∧ i.1.length ≤ 12) 12 (fun l => rLstN l rStr) fun i ys => ys.length = i.2.1 ∧ ∃ rs, (ys ++ rs).Perm i.1
theorem ok_law_some (T : Glo mg) (F : Fun K "_law_some" "_law_some" sLso f fd) (cTa : Cal P w K mg base 1 "_law_take" spLta) : FnOk P w K mg base CX0 2 f fd ["_law_pot_here", "_law_pool", "_law_amount"] spLso := by
  refine F.ok (N := nLso) scLso (fun vs H Q E h => ?_) (fun cdv A outer s H vs Q E hr h => ⟨wpSs _ _, wpSs_pss, ?_⟩)
  · obtain ⟨l, n, ws, i, rfl, _, _, ⟨v2, ws2, rfl, _, v3, ws3, rfl, _, rfl⟩, _⟩ := h
    rfl
  · obtain ⟨l, n, ws, ⟨xs, am, _⟩, rfl, P0, hn, ⟨v2, _, rfl, h2, v3, _, rfl, h3, rfl⟩, ⟨ha, hx12⟩, k⟩ := h
    have hn : n + 12 ≤ 100000 := hn
    have ha : am ≤ xs.length := ha
    have hx12 : xs.length ≤ 12 := hx12
    have h3 : v3 = .int (am : Nat) := h3
    subst h3
    have k : ∀ v y H', DL l H H' → Pot l (n + 12) H' → (y.length = am ∧ ∃ rs, (y ++ rs).Perm xs) → (rLstN l rStr).rel H' v y → Q v H' := k
    refine ss_parLL (i := 3) (j := 4) (r := rStr) (t := rStr) (el_listP T.list (ev_nmS (r := rPool l) 1 rfl h2)) (el_lst el_nil (by simp)) (fun q f vq vf H1 nq nf hne s1 hq hf hqu hfu => ?_) rfl scLso.nd (by decide)
    cases hfu
    have eq1 := us_str hqu
    subst eq1
    have nql : q ≠ l := P0.ne nq
    have nfl : f ≠ l := P0.ne nf
    have P1 := P0.same s1
    refine ss_for1 (j := 5) (r := rNat) (xs := List.range am) (Hb := wo (wo (wo H1 l) q) f) (((wo_same _ _).trans (wo_same _ _)).trans (wo_same _ _)) (ei_range (ev_nm (r := rInt) 2 rfl rfl) (by omega) T.range) rfl PassesOwn.never scLso.nd (fun B H2 b1 b2 b3 fr => ?_)
    have bl : B l = none := fr l (by obtain ⟨_, _, _, z, _⟩ := P1; rw [z]; simp) (by rw [wo_ne nfl.symm, wo_ne nql.symm, wo_at])
    have bq : B q = none := fr q (by rw [hq]; simp) (by rw [wo_ne hne, wo_at])
    have bf : B f = none := fr f (by rw [hf]; simp) (wo_at _ _)
    have base0 : ∀ b o, H b = some o → b ≠ l → B b = some o := fun b o e ne => b1 _ _ (by
      rw [wo_ne (ne_of_none e nf), wo_ne (ne_of_none e nq), wo_ne ne]
      exact s1 _ _ e)
    refine ⟨fun m σ' H' => Same B H' ∧ SameT H2 H' ∧ Pot l (n + m) H' ∧ ∃ fs rs o, H' q = some (.lst (rs.map V.str)) ∧ H' f = some (.lst (fs.map V.str)) ∧ (fs ++ rs).Perm xs ∧ fs.length = m ∧ σ' = [some (.ref l), some v2, some (.int (am : Nat)), some (.ref q), some (.ref f), o],
      ⟨b2, SameT.refl _, P1.same b3, [], xs, none, b3 _ _ hq, b3 _ _ hf, .refl _, rfl, rfl⟩, fun m σ' H' h => ⟨h.1, h.2.1⟩, ?_, ?_⟩
    · rintro m x v6 σ' Ha Hc hx ⟨sB, sT, Pm, fs, rs, o, hq', hf', pm, hlen, rfl⟩ sA rx
      have hm : m < am := by simpa using (List.getElem?_eq_some_iff.mp hx).1
      have hl1 := pm.length_eq
      simp only [List.length_append] at hl1
      have hrs : 0 < rs.length := by omega
      have hqc := sA _ _ hq'
      have hfc := sA _ _ hf'
      have Pc := Pm.same sA
      refine ss_appPop (k := 1) (l := l) (n := n + m) hqc hfc Pc nql nfl hne.symm (by simp; omega) (by simp; omega) (ev_nm (r := rVal) 4 rfl rfl) (ev_nm (r := rVal) 3 rfl rfl)
        (ed_wk (ed_take cTa hr 0 rfl (by omega) (ed_lenL (k := 0) 3 rfl hqc nql (m := rs.length) (by simp) T.len) hrs (by omega)) (by omega) (fun y hy => by simpa using hy)) (fun i H6 hi d6 P6 => ?_)
      have hi' : i < rs.length := by simpa using hi
      have d6T := d6.T Pc
      refine ss_nil ⟨?_, ?_, ((P6.upd nql).upd nfl), fs ++ [rs[i]], rs.eraseIdx i, _, ?_, ?_, ?_, by simp [hlen], rfl⟩
      · exact Same.mut (Same.mut (fun b o e => d6 _ _ (sA _ _ (sB _ _ e)) (ne_of_none e bl)) bq) bf
      · exact (sT.trans ((Same.T sA).trans d6T)).trans ((SameT.upd (d6 _ _ hqc nql)).trans (SameT.upd (xs := fs.map V.str) (by rw [upd_ne hne.symm]; exact d6 _ _ hfc nfl)))
      · rw [upd_ne hne, upd_same, set_map_str i rfl]
      · rw [upd_same]; simp
      · have h9 : (rs[i] :: rs.eraseIdx i).Perm rs := perm_erase hi'
        have h10 : (fs ++ [rs[i]] ++ rs.eraseIdx i).Perm (fs ++ rs) := by
          rw [List.append_assoc]
          exact List.Perm.append_left fs h9
        exact h10.trans pm
    · rintro σ' H' ⟨sB, sT, Pm, fs, rs, o, hq', hf', pm, hlen, rfl⟩
      rw [List.length_range] at hlen Pm
      refine ss_ret (r := rVal) (x := .ref f) (ev_nm 4 rfl rfl) fun v H7 s7 rv => ?_
      have rv : v = .ref f := rv
      subst rv
      exact k (.ref f) fs H7 (fun b o e ne => s7 _ _ (sB _ _ (base0 b o e ne))) ((Pm.same s7).mono (by omega)) ⟨hlen, rs, pm⟩ ⟨f, _, rfl, nfl, s7 _ _ hf', str_us _⟩
/-! law_names -/
def FromPool (xs ys : List Str) : Prop := ∃ rs, (ys ++ rs).Perm xs
theorem ed_some {X : Cx} {e1 e2 : Expr} {σ : L2.St} {H : Hp} {l : Addr} {n k1 : Nat} {xs : List Str} {pa : Nat → Prop} {pn : Str} {p pp pos : Pos} (cSo : Cal X.prog X.w X.K X.mg X.base 2 "_law_some" spLso) (hr : Room 2 X.A) (j : Nat) (hj : σ[j]? = some (some (.ref l))) (hn : n + k1 + 12 ≤ 100000)
    (hpool : EvD X e1 σ H l n 0 (rPool l) (fun y => y = xs)) (ham : EvD X e2 σ H l n k1 rNat.s pa) (hle : ∀ a, pa a → a ≤ xs.length) (hx : xs.length ≤ 12)
    (hN : X.N[j]? = some pn := by rfl) (hv : Vis X.env.scope pn := by first | exact Or.inl rfl | exact Or.inr (Or.inl rfl) | exact Or.inr (Or.inr rfl)) (hd : (pn == ("__debug__" : Str)) = false := by decide) (hcd : (pn == ("__classdict__" : Str)) = false := by decide)
    (hg : Gl X "_law_some" := by rfl) (hee : starEach (.Name pn pp :: [e1, e2]) X.env = (false, eval (.Name pn pp) X.env) :: starEach [e1, e2] X.env := by rfl) (hs1 : starEach [e1, e2] X.env = (false, eval e1 X.env) :: starEach [e2] X.env := by rfl) (hs : starEach [e2] X.env = (false, eval e2 X.env) :: starEach [] X.env := by rfl) (hpl : (backTo pos (starEach [e1, e2] X.env)).any (·.1) = false := by rfl) :
    EvD X (.Call (.Name "_law_some" p) [.Name pn pp, e1, e2] [] pos) σ H l n (k1 + 12) (rLstN l rStr) (fun ys => pa ys.length ∧ FromPool xs ys) :=
  ed_wk (ed_call (k1 := 0 + k1) (p1 := fun i => i.1 = xs ∧ pa i.2.1) cSo hr hj (by omega) (ead_cons (k1 := 0) (k2 := k1) rPool.stays hpool (ead_last ham hs) hs1) (fun i h => ⟨by rw [h.1]; exact hle _ h.2, by rw [h.1]; exact hx⟩) hN hv hd hcd hg (by decide) hee hpl) (by omega) (fun y hy => by
    obtain ⟨i, ⟨e1, e2⟩, e3, e4⟩ := hy
    exact ⟨by rw [e3]; exact e2, by rw [e1] at e4; exact e4⟩)
abbrev sLna : Stmt := top 77
abbrev nLna : List Str := ["_law_pot_here", "_law_few", "_law_upmost", "_law_pool"]
theorem scLna : FnScope nLna ["_law_pot_here", "_law_few", "_law_upmost"] (defScope sLna) := ⟨rfl, rfl, rfl, by decide +kernel, rfl, by decide +kernel, by decide +kernel⟩
def poolN : List Str := ["a", "b", "c", "d", "e", "f", "keeper", "parts", "write", "ask", "zzzzzzzz", "x"]
def poolP : List Str := ["x", "y", "z", "w", "keeper", "a"]
abbrev spLna : Sp := SpD (fun _ => aConsS rInt.s (aConsS rInt.s aNil)) (fun i => i = (2, 6, ())) 13 (fun _ => (rTupN rStr).s) fun _ ys => 2 ≤ ys.length ∧ ys.length ≤ 6 ∧ FromPool poolN ys
theorem ok_law_names (T : Glo mg) (F : Fun K "_law_names" "_law_names" sLna f fd) (cTa : Cal P w K mg base 1 "_law_take" spLta) (cSo : Cal P w K mg base 2 "_law_some" spLso) : FnOk P w K mg base CX0 3 f fd ["_law_pot_here", "_law_few", "_law_upmost"] spLna := by
  refine F.ok (N := nLna) scLna (fun vs H Q E h => ?_) (fun cdv A outer s H vs Q E hr h => ⟨wpSs _ _, wpSs_pss, ?_⟩)
  · obtain ⟨l, n, ws, i, rfl, _, _, ⟨v2, ws2, rfl, _, v3, ws3, rfl, _, rfl⟩, _⟩ := h
    rfl
  · obtain ⟨l, n, ws, i, rfl, P0, hn, hi, hp, k⟩ := h
    have hn : n + 13 ≤ 100000 := hn
    have hp : i = (2, 6, ()) := hp
    subst hp
    obtain ⟨v2, _, rfl, h2, v3, _, rfl, h3, rfl⟩ := hi
    have h2 : v2 = .int 2 := h2
    have h3 : v3 = .int 6 := h3
    subst h2
    subst h3
    have k : ∀ v y H', DL l H H' → Pot l (n + 13) H' → (2 ≤ y.length ∧ y.length ≤ 6 ∧ FromPool poolN y) → (rTupN rStr).rel H' v y → Q v H' := k
    refine ss_setL (i := 3) (r := rStr) (xs := poolN) (el_lst (el_cons ev_str (el_cons ev_str (el_cons ev_str (el_cons ev_str (el_cons ev_str (el_cons ev_str (el_cons ev_str (el_cons ev_str (el_cons ev_str (el_cons ev_str (el_cons ev_str (el_cons ev_str el_nil)))))))))))) (by decide)) (fun q vq H1 nq s1 hq hu => ?_) scLna.nd
    have eq1 := us_str hu
    subst eq1
    have nql : q ≠ l := P0.ne nq
    have P1 := P0.same s1
    have hle : ∀ a, (2 ≤ a ∧ a ≤ 6) → a ≤ poolN.length := fun a h => Nat.le_trans h.2 (by decide)
    refine ss_retD (l := l) (n := n) (k := 1 + 12) (post := fun ys => (2 ≤ ys.length ∧ ys.length ≤ 6) ∧ FromPool poolN ys) (r := (rTupN rStr).s) ?_ P1 (fun v y H2 d2 P2 hy rv => k v y H2 ((toD s1).trans d2) P2 ⟨hy.1.1, hy.1.2, hy.2⟩ rv)
    refine ed_tuple T.tuple ?_
    refine ed_some (k1 := 1) (pa := fun a => 2 ≤ a ∧ a ≤ 6) cSo hr 0 rfl (by omega) (ed_nm (r := rPool l) 3 rfl (.inl ⟨q, rfl, nql, hq⟩) rPool.stays ⟨n, P1⟩) ?_ hle (by decide)
    refine ed_nat (ed_op (k1 := 0) (k2 := 1) (pa := fun z => z = 2) (pb := fun z => ∃ m : Nat, m < 5 ∧ z = m) op_add' (fun _ _ _ _ => trivial) (ed_nm (r := rInt.s) 1 rfl rfl (R.stays rInt) ⟨n, P1⟩)
      (ed_int (ed_take cTa (hr.mono (by decide)) 0 rfl (by omega) (ed_natE (m := 5) (ed_addE (k1 := 0) (k2 := 0) (ed_subE (k1 := 0) (k2 := 0) (ed_nm (r := rInt.s) 2 rfl rfl (R.stays rInt) ⟨n, P1⟩) (ed_nm (r := rInt.s) 1 rfl rfl (R.stays rInt) ⟨n, P1⟩)) ed_ci) rfl) (by decide) (by decide)))) (fun z hz => ?_)
    obtain ⟨i, j, rfl, ⟨m, hm, rfl⟩, rfl⟩ := hz
    exact ⟨2 + m, by omega, by omega, by omega⟩
/-! law_parts -/
abbrev sLpt : Stmt := top 81
abbrev nLpt : List Str := ["_law_pot_here", "_law_upmost"]
theorem scLpt : FnScope nLpt ["_law_pot_here", "_law_upmost"] (defScope sLpt) := ⟨rfl, rfl, rfl, by decide +kernel, rfl, by decide +kernel, by decide +kernel⟩
abbrev spLpt : Sp := SpD (fun _ => aConsS rInt.s aNil) (fun i => i = (3, ())) 13 (fun _ => (rTupN rStr).s) fun _ ys => 1 ≤ ys.length ∧ ys.length ≤ 3 ∧ FromPool poolP ys
theorem ed_newL {X : Cx} {e : Expr} {σ : L2.St} {H : Hp} {l : Addr} {n k : Nat} {α : Type} {r : R α} {xs : List α} (h : EvL X e σ H r xs) (h' : ∀ H1, DL l H H1 → EvL X e σ H1 r xs) : EvD X e σ H l n k (rLstN l r) (fun y => y = xs) := fun H1 d P Q q =>
  h' H1 d H1 (Same.refl _) Q fun p vs H2 np s hp hu => q _ xs H2 (toD s) ((P.same s).mono (Nat.le_add_right _ _)) rfl ⟨p, vs, rfl, P.ne np, hp, hu⟩
theorem ed_disp {X : Cx} {es : List Expr} {σ : L2.St} {H : Hp} {l : Addr} {n k : Nat} {α : Type} {r : R α} {xs : List α} {pos : Pos} (h : ∀ H1, EvA X es σ H1 (aAll r) xs) (hl : xs.length ≤ 100000) : EvD X (.List es pos) σ H l n k (rLstN l r) (fun y => y = xs) := ed_newL (el_lst (h H) hl) (fun H1 _ => el_lst (h H1) hl)
theorem us_str' {H : Hp} {vs : List V} {xs : List Str} (h : rStr.us H vs xs) : vs = xs.map V.str := us_str h
theorem ed_pool {X : Cx} {e : Expr} {σ : L2.St} {H : Hp} {l : Addr} {n k : Nat} {po : List Str → Prop} (h : EvD X e σ H l n k (rLstN l rStr) po) : EvD X e σ H l n k (rPool l) po := ed_to h fun H v y py ⟨p, vs, a, ne, b, c⟩ => ⟨y, py, .inl ⟨p, a, ne, by rw [← us_str c]; exact b⟩⟩
theorem ev6 {X : Cx} {σ : L2.St} {H1 : Hp} {a b c d e f : Str} {j1 j2 j3 j4 j5 j6 : Nat} {p1 p2 p3 p4 p5 p6 : Pos}
    (h1 : starEach [.Constant (.str a) j1 p1, .Constant (.str b) j2 p2, .Constant (.str c) j3 p3, .Constant (.str d) j4 p4, .Constant (.str e) j5 p5, .Constant (.str f) j6 p6] X.env = (false, eval (.Constant (.str a) j1 p1) X.env) :: starEach [.Constant (.str b) j2 p2, .Constant (.str c) j3 p3, .Constant (.str d) j4 p4, .Constant (.str e) j5 p5, .Constant (.str f) j6 p6] X.env := by rfl)
    (h2 : starEach [.Constant (.str b) j2 p2, .Constant (.str c) j3 p3, .Constant (.str d) j4 p4, .Constant (.str e) j5 p5, .Constant (.str f) j6 p6] X.env = (false, eval (.Constant (.str b) j2 p2) X.env) :: starEach [.Constant (.str c) j3 p3, .Constant (.str d) j4 p4, .Constant (.str e) j5 p5, .Constant (.str f) j6 p6] X.env := by rfl)
    (h3 : starEach [.Constant (.str c) j3 p3, .Constant (.str d) j4 p4, .Constant (.str e) j5 p5, .Constant (.str f) j6 p6] X.env = (false, eval (.Constant (.str c) j3 p3) X.env) :: starEach [.Constant (.str d) j4 p4, .Constant (.str e) j5 p5, .Constant (.str f) j6 p6] X.env := by rfl)
    (h4 : starEach [.Constant (.str d) j4 p4, .Constant (.str e) j5 p5, .Constant (.str f) j6 p6] X.env = (false, eval (.Constant (.str d) j4 p4) X.env) :: starEach [.Constant (.str e) j5 p5, .Constant (.str f) j6 p6] X.env := by rfl)
    (h5 : starEach [.Constant (.str e) j5 p5, .Constant (.str f) j6 p6] X.env = (false, eval (.Constant (.str e) j5 p5) X.env) :: starEach [.Constant (.str f) j6 p6] X.env := by rfl)
    (h6 : starEach [.Constant (.str f) j6 p6] X.env = (false, eval (.Constant (.str f) j6 p6) X.env) :: starEach [] X.env := by rfl) :
    EvA X [.Constant (.str a) j1 p1, .Constant (.str b) j2 p2, .Constant (.str c) j3 p3, .Constant (.str d) j4 p4, .Constant (.str e) j5 p5, .Constant (.str f) j6 p6] σ H1 (aAll rStr) [a, b, c, d, e, f] := el_cons ev_str (el_cons ev_str (el_cons ev_str (el_cons ev_str (el_cons ev_str (el_cons ev_str el_nil h6) h5) h4) h3) h2) h1
theorem ok_law_parts (T : Glo mg) (F : Fun K "_law_parts" "_law_parts" sLpt f fd) (cTa : Cal P w K mg base 1 "_law_take" spLta) (cSo : Cal P w K mg base 2 "_law_some" spLso) : FnOk P w K mg base CX0 3 f fd ["_law_pot_here", "_law_upmost"] spLpt := by
  refine F.ok (N := nLpt) scLpt (fun vs H Q E h => ?_) (fun cdv A outer s H vs Q E hr h => ⟨wpSs _ _, wpSs_pss, ?_⟩)
  · obtain ⟨l, n, ws, i, rfl, _, _, ⟨v2, ws2, rfl, _, rfl⟩, _⟩ := h
    rfl
  · obtain ⟨l, n, ws, i, rfl, P0, hn, hi, hp, k⟩ := h
    have hp : i = (3, ()) := hp
    subst hp
    obtain ⟨v2, _, rfl, h2, rfl⟩ := hi
    have h2 : v2 = .int 3 := h2
    subst h2
    have hn : n + 13 ≤ 100000 := hn
    have k : ∀ v y H', DL l H H' → Pot l (n + 13) H' → (1 ≤ y.length ∧ y.length ≤ 3 ∧ FromPool poolP y) → (rTupN rStr).rel H' v y → Q v H' := k
    have hle : ∀ a, (1 ≤ a ∧ a ≤ 3) → a ≤ poolP.length := fun a h => Nat.le_trans h.2 (by decide)
    refine ss_retD (l := l) (n := n) (k := 1 + 12) (post := fun ys => (1 ≤ ys.length ∧ ys.length ≤ 3) ∧ FromPool poolP ys) (r := (rTupN rStr).s) ?_ P0 (fun v y H2 d2 P2 hy rv => k v y H2 d2 P2 ⟨hy.1.1, hy.1.2, hy.2⟩ rv)
    refine ed_tuple T.tuple ?_
    refine ed_some (k1 := 1) (xs := poolP) (pa := fun a => 1 ≤ a ∧ a ≤ 3) cSo hr 0 rfl (by omega) (ed_pool (ed_disp (fun H1 => ev6) (by decide))) ?_ hle (by decide)
    refine ed_nat (ed_op (k1 := 0) (k2 := 1) (pa := fun z => z = 1) (pb := fun z => ∃ m : Nat, m < 3 ∧ z = m) op_add' (fun _ _ _ _ => trivial) ed_ci
      (ed_int (ed_take cTa (hr.mono (by decide)) 0 rfl (by omega) (ed_natE (m := 3) (ed_nm (r := rInt.s) 1 rfl rfl (R.stays rInt) ⟨n, P0⟩) rfl) (by decide) (by decide)))) (fun z hz => ?_)
    obtain ⟨i, j, rfl, ⟨m, hm, rfl⟩, rfl⟩ := hz
    exact ⟨1 + m, by omega, by omega, by omega⟩
/-! law_a_lot -/
abbrev sLal : Stmt := top 80
abbrev nLal : List Str := ["_law_pot_here", "_law_names_here", "_law_few"]
theorem scLal : FnScope nLal ["_law_pot_here", "_law_names_here", "_law_few"] (defScope sLal) := ⟨rfl, rfl, rfl, by decide +kernel, rfl, by decide +kernel, by decide +kernel⟩
abbrev spLal : Sp := SpD (fun _ => aConsS (rTup rStr).s (aConsS rInt.s aNil)) (fun i => i.1.length ≤ 6 ∧ i.2.1 = 0) 13 (fun _ => (rTup rStr).s) fun i ys => ∃ so, ys = lotOf i.1 so
theorem ok_law_a_lot (T : Glo mg) (F : Fun K "_law_a_lot" "_law_a_lot" sLal f fd) (cTa : Cal P w K mg base 1 "_law_take" spLta) (cSo : Cal P w K mg base 2 "_law_some" spLso) (cLo : Cal P w K mg base 1 "_law_lot_of" spLlo) : FnOk P w K mg base CX0 3 f fd ["_law_pot_here", "_law_names_here", "_law_few"] spLal := by
  refine F.ok (N := nLal) scLal (fun vs H Q E h => ?_) (fun cdv A outer s H vs Q E hr h => ⟨wpSs _ _, wpSs_pss, ?_⟩)
  · obtain ⟨l, n, ws, i, rfl, _, _, ⟨v2, ws2, rfl, _, v3, ws3, rfl, _, rfl⟩, _⟩ := h
    rfl
  · obtain ⟨l, n, ws, ⟨xs, few, _⟩, rfl, P0, hn, ⟨v2, _, rfl, h2, v3, _, rfl, h3, rfl⟩, ⟨h6, hf⟩, k⟩ := h
    have hf : few = 0 := hf
    subst hf
    have h3 : v3 = .int 0 := h3
    subst h3
    have h6 : xs.length ≤ 6 := h6
    have h2 : (rTup rStr).rel H v2 xs := h2
    have hn : n + 13 ≤ 100000 := hn
    have k : ∀ v y H', DL l H H' → Pot l (n + 13) H' → (∃ so, y = lotOf xs so) → (rTup rStr).rel H' v y → Q v H' := k
    refine ss_retD (l := l) (n := n) (k := 0 + 13) (r := (rTup rStr).s) (post := fun y => ∃ i : List Str × List Str × Unit, (i.1 = xs ∧ True) ∧ y = lotOf i.1 i.2.1) ?_ P0 (fun v y H2 d2 P2 ⟨i, ⟨e1, _⟩, e2⟩ rv => k v y H2 d2 (P2.mono (by omega)) ⟨i.2.1, by rw [e2, e1]⟩ rv)
    refine ed_callF (p1 := fun (i : List Str × List Str × Unit) => i.1 = xs ∧ True) cLo (hr.mono (by decide)) (ead_cons (k1 := 0) (k2 := 13) (post := fun y => y = xs) (R.stays (rTup rStr)) (ed_nm (r := (rTup rStr).s) 1 rfl h2 (R.stays _) ⟨n, P0⟩) (ead_last (r := rLst rStr) (po := fun _ => True) (ed_lst ?_))) ?_
    · refine ed_wk (k := 1 + 12) (k1 := 13) (p' := fun _ => True) (ed_some (k1 := 1) (xs := xs) (pa := fun a => a ≤ xs.length) cSo hr 0 rfl (by omega) (ed_nm (r := rPool l) 1 rfl (.inr h2) rPool.stays ⟨n, P0⟩) ?_ (fun a h => h) (by omega)) (by decide) (fun _ _ => trivial)
      refine ed_nat (ed_op (k1 := 0) (k2 := 1) (pa := fun z => z = 0) (pb := fun z => ∃ m : Nat, m < xs.length + 1 ∧ z = m) op_add' (fun _ _ _ _ => trivial) (ed_nm (r := rInt.s) 2 rfl rfl (R.stays rInt) ⟨n, P0⟩)
          (ed_int (ed_take cTa (hr.mono (by decide)) 0 rfl (by omega) (ed_natE (m := xs.length + 1) (ed_addE (k1 := 0) (k2 := 0) (ed_subE (k1 := 0) (k2 := 0) (ed_intE (ed_lenT 1 rfl h2 ⟨n, P0⟩ T.len)) (ed_nm (r := rInt.s) 2 rfl rfl (R.stays rInt) ⟨n, P0⟩)) ed_ci) (by omega)) (by omega) (by omega)))) (fun z hz => ?_)
      obtain ⟨i, j, rfl, ⟨m, hm, rfl⟩, rfl⟩ := hz
      exact ⟨m, by omega, by omega⟩
    · intro i h
      show i.1.length ≤ 1000
      rw [h.1]; omega
/-! law_piece -/
abbrev sLpi : Stmt := top 82
abbrev nLpi : List Str := ["_law_pot_here", "_law_parts_here", "_law_amount"]
theorem scLpi : FnScope nLpi ["_law_pot_here", "_law_parts_here"] (defScope sLpi) := ⟨rfl, rfl, rfl, by decide +kernel, rfl, by decide +kernel, by decide +kernel⟩
abbrev spLpi : Sp := SpD (fun _ => aConsS (rTup rStr).s aNil) (fun i => 1 ≤ i.1.length ∧ i.1.length ≤ 6 ∧ i.1.Nodup) 14 (fun _ => (rTup rStr).s) fun i ys => ys ≠ [] ∧ ys = lotOf i.1 ys
theorem lotOf_self {xs so : List Str} : lotOf xs so = lotOf xs (lotOf xs so) := by
  unfold lotOf
  refine List.filter_congr fun x hx => ?_
  simp [List.mem_filter, hx]
theorem ok_law_piece (T : Glo mg) (F : Fun K "_law_piece" "_law_piece" sLpi f fd) (cTa : Cal P w K mg base 1 "_law_take" spLta) (cSo : Cal P w K mg base 2 "_law_some" spLso) (cLo : Cal P w K mg base 1 "_law_lot_of" spLlo) : FnOk P w K mg base CX0 3 f fd ["_law_pot_here", "_law_parts_here"] spLpi := by
  refine F.ok (N := nLpi) scLpi (fun vs H Q E h => ?_) (fun cdv A outer s H vs Q E hr h => ⟨wpSs _ _, wpSs_pss, ?_⟩)
  · obtain ⟨l, n, ws, i, rfl, _, _, ⟨v2, ws2, rfl, _, rfl⟩, _⟩ := h
    rfl
  · obtain ⟨l, n, ws, ⟨xs, _⟩, rfl, P0, hn, ⟨v2, _, rfl, h2, rfl⟩, ⟨h1, h6, hnd⟩, k⟩ := h
    have h1 : 1 ≤ xs.length := h1
    have h6 : xs.length ≤ 6 := h6
    have h2 : (rTup rStr).rel H v2 xs := h2
    have hn : n + 14 ≤ 100000 := hn
    have k : ∀ v y H', DL l H H' → Pot l (n + 14) H' → (y ≠ [] ∧ y = lotOf xs y) → (rTup rStr).rel H' v y → Q v H' := k
    refine ss_setD (i := 2) (l := l) (n := n) (k := 1 + 1) (r := rNat.s) (post := fun y => 1 ≤ y ∧ y ≤ xs.length) ?_ P0 (fun v3 y H3 d3 P3 hy r3 => ?_) scLpi.nd
    · refine ed_ifD (k1 := 1) (k2 := 1) (ed_eqI (ed_int (ed_take cTa (hr.mono (by decide)) 0 rfl (by omega) (ed_natE (k := 0) (m := 2) ed_ci rfl) (by decide) (by decide)))) (ed_natE' (ed_ci (k := 1)) (fun z e => ⟨1, e, by omega, by omega⟩)) ?_
      refine ed_nat (ed_op (k1 := 0) (k2 := 1) (pa := fun z => z = 1) (pb := fun z => ∃ m : Nat, m < xs.length ∧ z = m) op_add' (fun _ _ _ _ => trivial) ed_ci (ed_int (ed_take cTa (hr.mono (by decide)) 0 rfl (by omega) (ed_lenT 1 rfl h2 ⟨n, P0⟩ T.len) (by omega) (by omega)))) (fun z hz => ?_)
      obtain ⟨i, j, rfl, ⟨m, hm, rfl⟩, rfl⟩ := hz
      exact ⟨1 + m, by omega, by omega, by omega⟩
    have h2 := (rTup rStr).up (d3.T P0) h2
    refine ss_retD (l := l) (n := n + 2) (k := 0 + 12) (r := (rTup rStr).s) (post := fun z => ∃ i : List Str × List Str × Unit, (i.1 = xs ∧ i.2.1.length = y ∧ FromPool xs i.2.1) ∧ z = lotOf i.1 i.2.1) ?_ P3 (fun v y' H2 d2 P2 hy' rv => ?_)
    · refine ed_callF (p1 := fun (i : List Str × List Str × Unit) => i.1 = xs ∧ i.2.1.length = y ∧ FromPool xs i.2.1) cLo (hr.mono (by decide)) (ead_cons (k1 := 0) (k2 := 12) (post := fun y => y = xs) (R.stays (rTup rStr)) (ed_nm (r := (rTup rStr).s) 1 rfl h2 (R.stays _) ⟨_, P3⟩) (ead_last (r := rLst rStr) (po := fun ys => ys.length = y ∧ FromPool xs ys) (ed_lst ?_))) ?_
      · refine ed_some (k1 := 0) (xs := xs) (pa := fun a => a = y) cSo hr 0 rfl (by omega) (ed_nm (r := rPool l) 1 rfl (.inr h2) rPool.stays ⟨_, P3⟩) (ed_nm (r := rNat.s) 2 rfl r3 (R.stays rNat) ⟨_, P3⟩) (fun a h => by rw [h]; exact hy.2) (by omega)
      · intro i h
        show i.1.length ≤ 1000
        rw [h.1]; omega
    · obtain ⟨i, ⟨e1, e2, rs, e3⟩, e4⟩ := hy'
      refine k v y' H2 (d3.trans d2) (P2.mono (by omega)) ⟨?_, ?_⟩ rv
      · rw [e4, e1]
        intro e
        obtain ⟨z, hz⟩ : ∃ z, z ∈ i.2.1 := List.exists_mem_of_length_pos (by omega)
        have hzx : z ∈ xs := e3.subset (List.mem_append_left _ hz)
        have : z ∈ lotOf xs i.2.1 := List.mem_filter.mpr ⟨hzx, by simpa using hz⟩
        rw [e] at this
        cases this
      · rw [e4, e1]
        exact lotOf_self
end
end LK
set_option maxHeartbeats 4000000
namespace LK
open PySem PySem.Spec PyProof.Rows L2
theorem wo_T {H : Hp} {q : Addr} {vs : List V} (h : H q = some (.lst vs)) : SameT H (wo H q) := fun b o e f => by
  by_cases hb : b = q
  · rw [hb, h] at e; cases e; exact f.elim
  · rw [wo_ne hb]; exact e
theorem Pot.lst {l : Addr} {n : Nat} {H : Hp} (P : Pot l n H) : ∃ vs, H l = some (.lst vs) := by
  obtain ⟨_, _, _, h, _⟩ := P
  exact ⟨_, h⟩
/-- the lore as the dict of just three -/
def rLore3 : R Lore := ⟨fun H v L => ∃ p pa na pc, v = .ref p ∧ H p = some (.dK [(.inr "parts", pa), (.inr "names", na), (.inr "pieces", pc)]) ∧ (rTup rStr).rel H pa L.parts ∧ (rTupN rStr).rel H na L.names ∧ (rTup (rTup (rTup rStr))).rel H pc L.pieces,
  fun e ⟨p, pa, na, pc, a, b, d1, d2, d3⟩ => ⟨p, pa, na, pc, a, e _ _ b trivial, (rTup rStr).up e d1, (rTupN rStr).up e d2, (rTup (rTup (rTup rStr))).up e d3⟩⟩
theorem lore3_lore {H : Hp} {v : V} {L : Lore} (h : rLore3.rel H v L) : rLore.rel H v L := by
  obtain ⟨p, pa, na, pc, a, b, d1, d2, d3⟩ := h
  exact ⟨p, _, pa, na, pc, a, b, by rfl, by rfl, by rfl, d1, d2, d3⟩
structure LoreOk (L : Lore) : Prop where
  p1 : 1 ≤ L.parts.length
  p3 : L.parts.length ≤ 3
  pp : FromPool poolP L.parts
  n2 : 2 ≤ L.names.length
  n6 : L.names.length ≤ 6
  np : FromPool poolN L.names
  len : L.pieces.length = L.names.length
  pcs : ∀ ps ∈ L.pieces, 1 ≤ ps.length ∧ ps.length ≤ 2 ∧ ∀ pc ∈ ps, pc ≠ [] ∧ pc = lotOf L.parts pc
theorem FromPool.nd {xs ys : List Str} (h : FromPool xs ys) (nd : xs.Nodup) : ys.Nodup := by
  obtain ⟨rs, p⟩ := h
  exact (List.nodup_append.mp (p.nodup_iff.mpr nd)).1
theorem FromPool.sub {xs ys : List Str} (h : FromPool xs ys) : ∀ y ∈ ys, y ∈ xs := fun y hy => by
  obtain ⟨rs, p⟩ := h
  exact p.subset (List.mem_append_left _ hy)
theorem FromPool.take {xs ys : List Str} (h : FromPool xs ys) (k : Nat) : FromPool xs (ys.take k) := by
  obtain ⟨rs, p⟩ := h
  exact ⟨ys.drop k ++ rs, by rw [← List.append_assoc, List.take_append_drop]; exact p⟩
theorem poolN_nd : poolN.Nodup := by decide +kernel
theorem poolP_nd : poolP.Nodup := by decide +kernel
section
variable {X : Cx} {a b c e : Expr} {σ : L2.St} {H : Hp} {pos p : Pos}
/-- {k1: a, k2: b, k3: c} -/
theorem wp_dict3 {Q : VK} {z1 z2 z3 : Str} {j1 j2 j3 : Nat} {q1 q2 q3 : Pos} (nd : ([.inr z1, .inr z2, .inr z3] : List Key).Nodup) (h : ∀ p, H p = none → wpE X a σ (upd H p (.dK [])) fun va H1 => wpE X b σ H1 fun vb H2 => wpE X c σ H2 fun vc H3 => H3 p = some (.dK []) ∧ Q (.ref p) (upd H3 p (.dK [(.inr z1, va), (.inr z2, vb), (.inr z3, vc)]))) :
    wpE X (.Dict [some (.Constant (.str z1) j1 q1), some (.Constant (.str z2) j2 q2), some (.Constant (.str z3) j3 q3)] [a, b, c] pos) σ H Q :=
  wpE_of (pe_disp (pps_cons pe_str wpE_pe (pps_cons pe_str wpE_pe (pps_cons pe_str wpE_pe pps_nil))) (by rfl) (by rfl) (fun z => by cases z) (by show 3 ≤ 15; decide)) fun p hp => (wpE_mono (h p hp) fun va H1 h1 => wpE_mono h1 fun vb H2 h2 => wpE_mono h2 fun vc H3 ⟨h3, q⟩ => ⟨h3, [(.inr z1, va), (.inr z2, vb), (.inr z3, vc)], rfl, by simp, by
    rw [mergeK_nd [(.inr z1, va), (.inr z2, vb), (.inr z3, vc)] [] (by simpa using nd)]
    exact q⟩)
/-- tuple(a list at a known place), the tuple's own object told -/
theorem wp_tupleK {Q : VK} {q : Addr} {vs : List V} (hm : X.mg "tuple" = none) (ha : Ev X a σ H rVal (.ref q)) (hq : H q = some (.lst vs)) (k : ∀ H1 t o, Same H H1 → H1 t = none → o.dict = none → Q (.ref t) (upd H1 t (.frz o (.tup vs)))) (hg : Gl X "tuple" := by rfl) (he : starEach [a] X.env = (false, eval a X.env) :: starEach [] X.env := by rfl) (hpl : (backTo pos (starEach [] X.env)).any (·.1) = false := by rfl) :
    wpE X (.Call (.Name "tuple" p) [a] [] pos) σ H Q :=
  wpE_of (pe_callTy call_tuple_frz hg hm (by decide +kernel) (pa_cons wpE_pe pa_nil he) (by decide) (by decide) he hpl) (ha H (Same.refl H) _ fun v H2 s2 rv => ⟨q, vs, by rw [show v = _ from rv], SqL.of (s2 _ _ hq), fun t o ht ho => k H2 t o s2 ht ho⟩)
end
section
variable {P : Program} {w : World} {K : PySem.W.Frag} {mg : Str → Option Value} {base : Heap} {f C CC : Addr} {fd : FuncData}
/-! law_shelf -/
abbrev sLsh : Stmt := top 83
abbrev nLsh : List Str := ["_law_pot_here", "_law_few", "_law_upmost", "_law_most_parts", "_law_parts_here", "_law_names_here", "_law_pieces", "_law_name", "_law_lap"]
theorem scLsh : FnScope nLsh ["_law_pot_here", "_law_few", "_law_upmost", "_law_most_parts"] (defScope sLsh) := ⟨rfl, rfl, rfl, by decide +kernel, rfl, by decide +kernel, by decide +kernel⟩
abbrev spLsh : Sp := SpD (fun _ => aConsS rInt.s (aConsS rInt.s (aConsS rInt.s aNil))) (fun i => i = (2, 6, 3, ())) 200 (fun _ => rLore3.s) fun _ L => LoreOk L
theorem ok_law_shelf (T : Glo mg) (F : Fun K "_law_shelf" "_law_shelf" sLsh f fd) (cTa : Cal P w K mg base 1 "_law_take" spLta) (cPt : Cal P w K mg base 3 "_law_parts" spLpt) (cNa : Cal P w K mg base 3 "_law_names" spLna) (cPi : Cal P w K mg base 3 "_law_piece" spLpi) : FnOk P w K mg base CX0 4 f fd ["_law_pot_here", "_law_few", "_law_upmost", "_law_most_parts"] spLsh := by
  refine F.ok (N := nLsh) scLsh (fun vs H Q E h => ?_) (fun cdv A outer s H vs Q E hr h => ⟨wpSs _ _, wpSs_pss, ?_⟩)
  · obtain ⟨l, n, ws, i, rfl, _, _, ⟨v2, ws2, rfl, _, v3, ws3, rfl, _, v4, ws4, rfl, _, rfl⟩, _⟩ := h
    rfl
  · obtain ⟨l, n, ws, i, rfl, P0, hn, hi, hp, k⟩ := h
    have hp : i = (2, 6, 3, ()) := hp
    subst hp
    obtain ⟨v2, _, rfl, h2, v3, _, rfl, h3, v4, _, rfl, h4, rfl⟩ := hi
    have h2 : v2 = .int 2 := h2
    have h3 : v3 = .int 6 := h3
    have h4 : v4 = .int 3 := h4
    subst h2
    subst h3
    subst h4
    have hn : n + 200 ≤ 100000 := hn
    have k : ∀ v L H', DL l H H' → Pot l (n + 200) H' → LoreOk L → rLore3.rel H' v L → Q v H' := k
    refine ss_unpackD (i := 4) (j := 5) (l := l) (n := n) (k := 13 + 13) (r := rTupN rStr) (r' := rTupN rStr) (post := fun z : List Str × List Str => (1 ≤ z.1.length ∧ z.1.length ≤ 3 ∧ FromPool poolP z.1) ∧ (2 ≤ z.2.length ∧ z.2.length ≤ 6 ∧ FromPool poolN z.2)) ?_ P0 (fun va vb xy H1 d1 P1 hxy ra rb => ?_) rfl scLsh.nd
    · refine ed_pair (k1 := 13) (k2 := 13) (pa := fun ys : List Str => 1 ≤ ys.length ∧ ys.length ≤ 3 ∧ FromPool poolP ys) (pb := fun ys : List Str => 2 ≤ ys.length ∧ ys.length ≤ 6 ∧ FromPool poolN ys) ?_ ?_
      · exact ed_callE (i0 := ((3 : Int), ())) cPt hr (j := 0) rfl (by omega) (ed_a1 (ed_nm (r := rInt.s) 3 rfl rfl (R.stays rInt) ⟨n, P0⟩)) rfl (fun _ h => h)
      · exact ed_callE (i0 := ((2 : Int), (6 : Int), ())) cNa hr (j := 0) rfl (by omega) (ed_a2 (R.stays rInt) (ed_nm (r := rInt.s) 1 rfl rfl (R.stays rInt) ⟨_, P0⟩) (ed_nm (r := rInt.s) 2 rfl rfl (R.stays rInt) ⟨_, P0⟩)) rfl (fun _ h => h)
    obtain ⟨parts, names⟩ := xy
    obtain ⟨⟨hp1, hp3, hpp⟩, ⟨hn2, hn6, hnp⟩⟩ := hxy
    have hp1 : 1 ≤ parts.length := hp1
    have hp3 : parts.length ≤ 3 := hp3
    have hpp : FromPool poolP parts := hpp
    have hn2 : 2 ≤ names.length := hn2
    have hn6 : names.length ≤ 6 := hn6
    have hnp : FromPool poolN names := hnp
    have ra : (rTupN rStr).rel H1 va parts := ra
    have rb : (rTupN rStr).rel H1 vb names := rb
    refine ss_setL (i := 6) (r := rTup (rTup rStr)) (el_lst el_nil (by simp)) (fun q vq H2 nq s2 hq hqu => ?_) scLsh.nd
    cases hqu
    have nql : q ≠ l := P1.ne nq
    have P2 := P1.same s2
    have ra2 := (rTupN rStr).up (Same.T s2) ra
    have rb2 := (rTupN rStr).up (Same.T s2) rb
    obtain ⟨vl, hvl⟩ := P2.lst
    have tw : SameT H2 (wo (wo H2 l) q) := (wo_T hvl).trans (wo_T (q := q) (by rw [wo_ne nql]; exact hq))
    refine ss_for1 (j := 7) (r := rStr) (xs := names) (Hb := wo (wo H2 l) q) ((wo_same _ _).trans (wo_same _ _)) (ei_tup (ev_nm 5 rfl (rTupN_tup ((rTupN rStr).up tw rb2)))) rfl PassesOwn.never scLsh.nd (fun B H3 b1 b2 b3 fr => ?_)
    have bl : B l = none := fr l (by rw [hvl]; simp) (by rw [wo_ne nql.symm, wo_at])
    have bq : B q = none := fr q (by rw [hq]; simp) (wo_at _ _)
    have base0 : ∀ b o, H b = some o → b ≠ l → B b = some o := fun b o e ne => b1 _ _ (by
      have h1 := d1 _ _ e ne
      rw [wo_ne (ne_of_none h1 nq), wo_ne ne]
      exact s2 _ _ h1)
    refine ⟨fun m σ' H' => Same B H' ∧ SameT H3 H' ∧ Pot l (n + 26 + m * 29) H' ∧ ∃ vs ys o1 o2, H' q = some (.lst vs) ∧ (rTup (rTup rStr)).us H' vs ys ∧ ys.length = m ∧ (∀ ps ∈ ys, 1 ≤ ps.length ∧ ps.length ≤ 2 ∧ ∀ pc ∈ ps, pc ≠ [] ∧ pc = lotOf parts pc) ∧ σ' = [some (.ref l), some (.int 2), some (.int 6), some (.int 3), some va, some vb, some (.ref q), o1, o2],
      ⟨b2, SameT.refl _, (by rw [Nat.zero_mul]; exact (P2.same b3)), [], [], none, none, b3 _ _ hq, .nil, rfl, (fun _ h => nomatch h), rfl⟩, fun m σ' H' h => ⟨h.1, h.2.1⟩, ?_, ?_⟩
    · rintro m x v6 σ' Ha Hc hx ⟨sB, sT, Pm, vs, ys, o1, o2, hvs, uvs, hyl, hok, rfl⟩ sA rx
      have hm : m < names.length := (List.getElem?_eq_some_iff.mp hx).1
      have Pc := Pm.same sA
      have hqc := sA _ _ hvs
      have raC := (rTupN rStr).up ((Same.T b3).trans (sT.trans (Same.T sA))) ra2
      have hmul : m * 29 ≤ 5 * 29 := Nat.mul_le_mul_right 29 (by omega)
      refine ss_appD (l := l) (n := n + 26 + m * 29) (k := 1 + 2 * 14) (r := rTupN (rTup rStr)) (post := fun ps => (∃ xs : List Nat, (∃ m, (m = 1 ∨ m = 2) ∧ xs = List.range m) ∧ ps.length = xs.length) ∧ ∀ pc ∈ ps, pc ≠ [] ∧ pc = lotOf parts pc) hqc Pc nql (by rw [us_length uvs]; omega) (ev_nm (r := rVal) 6 rfl rfl) ?_ (fun v ps H4 d4 P4 hps rv => ?_)
      · refine ed_tuple T.tuple ?_
        refine ed_lc1 (j := 8) (M := 2) (cc := 14) (r := rNat) (t := rTup rStr) (p2 := fun pc => pc ≠ [] ∧ pc = lotOf parts pc) rfl scLsh.nd (blkOk_by (N := nLsh) (sc := defScope sLsh) (by decide +kernel)) ?_ (fun xs ⟨m, hm, e⟩ => by rw [e, List.length_range]; omega) (by decide) (fun v x H5 m5 d5 P5 hm5 rx5 s H0 C cl fp => ?_)
        · refine eif_range (k := 1) (pp := fun m => m = 1 ∨ m = 2) (ed_op (k1 := 0) (k2 := 1) (pa := fun z => z = 1) (pb := fun z => z = 0 ∨ z = 1) op_add' (fun _ _ _ _ => trivial) ed_ci (ed_intB T.int (ed_eqV (ed_int (ed_take cTa (hr.mono (by decide)) 0 rfl (by omega) (ed_natE (k := 0) (m := 3) ed_ci rfl) (by decide) (by decide)))))) (fun z hz => ?_) T.range
          obtain ⟨i, j, rfl, hj, rfl⟩ := hz
          rcases hj with rfl | rfl
          · exact ⟨1, rfl, by decide, .inl rfl⟩
          · exact ⟨2, rfl, by decide, .inr rfl⟩
        · refine ed_wk (k := 0 + 14) (ed_call (k1 := 0) (kc := 14) (p1 := fun i : List Str × Unit => i.1 = parts) cPi hr (j := 0) rfl (by omega) (ead_last (ed_nm (r := (rTup rStr).s) 4 rfl (rTupN_tup ((rTupN rStr).up (d5.T Pc) raC)) (R.stays _) ⟨_, P5⟩)) ?_) (by decide) ?_
          · intro i e
            exact ⟨by rw [e]; exact hp1, by rw [e]; exact Nat.le_trans hp3 (by decide), by rw [e]; exact hpp.nd poolP_nd⟩
          · rintro y ⟨i, e, h1, h2⟩
            rw [e] at h2
            exact ⟨h1, h2⟩
      · obtain ⟨⟨xs, ⟨m', hm', rfl⟩, hl⟩, hpc⟩ := hps
        rw [List.length_range] at hl
        have hq4 := d4 _ _ hqc nql
        have t4 : SameT Ha (upd H4 q (.lst (vs ++ [v]))) := ((Same.T sA).trans (d4.T Pc)).trans (SameT.upd hq4)
        refine ss_nil ⟨Same.mut (fun b o e => d4 _ _ (sA _ _ (sB _ _ e)) (ne_of_none e bl)) bq, sT.trans t4, ?_, vs ++ [v], ys ++ [ps], _, _, upd_same, paired_append (R.us_up t4 uvs) (.cons (rTupN_tup ((rTupN (rTup rStr)).up (SameT.upd hq4) rv)) .nil), by simp [hyl], fun z hz => ?_, rfl⟩
        · exact (P4.upd nql).mono (by omega)
        · rcases List.mem_append.mp hz with h | h
          · exact hok z h
          · simp at h
            rw [h]
            exact ⟨by omega, by omega, hpc⟩
    · rintro σ' H' ⟨sB, sT, Pm, vs, ys, o1, o2, hvs, uvs, hyl, hok, rfl⟩
      have hmul : names.length * 29 ≤ 6 * 29 := Nat.mul_le_mul_right 29 hn6
      have raE := (rTupN rStr).up ((Same.T b3).trans sT) ra2
      have rbE := (rTupN rStr).up ((Same.T b3).trans sT) rb2
      refine ss_cons (wpS_of (ps_ret wpE_pe) ?_)
      refine wp_dict3 (by decide +kernel) fun p hp => ?_
      refine wpE_ev (ev_nm (r := rVal) (x := va) 4 rfl rfl) fun va' H5 s5 e5 => ?_
      have e5 : va' = va := e5
      subst e5
      refine wpE_ev (ev_nm (r := rVal) (x := vb) 5 rfl rfl) fun vb' H6 s6 e6 => ?_
      have e6 : vb' = vb := e6
      subst e6
      have hp6 : H6 p = some (.dK []) := s6 _ _ (s5 _ _ upd_same)
      have nqp : q ≠ p := ne_of_none hvs hp
      have hq6 : H6 q = some (.lst vs) := s6 _ _ (s5 _ _ (by rw [upd_ne nqp]; exact hvs))
      refine wp_tupleK T.tuple (ev_nm (r := rVal) 6 rfl rfl) hq6 fun H7 t o s7 ht ho => ?_
      have hp7 := s7 _ _ hp6
      have npt : p ≠ t := ne_of_none hp7 ht
      have sF : Same H' (upd (upd H7 t (.frz o (.tup vs))) p (.dK [(.inr "parts", va'), (.inr "names", vb'), (.inr "pieces", .ref t)])) := fun b u e => by
        have hbp : b ≠ p := ne_of_none e hp
        have h7 := s7 _ _ (s6 _ _ (s5 _ _ (by rw [upd_ne hbp]; exact e)))
        rw [upd_ne hbp, upd_ne (ne_of_none h7 ht)]
        exact h7
      refine ⟨by rw [upd_ne npt]; exact hp7, k (.ref p) ⟨parts, names, ys⟩ _ (fun b u e ne => sF _ _ (sB _ _ (base0 b u e ne))) ((Pm.same sF).mono (by omega)) ⟨hp1, hp3, hpp, hn2, hn6, hnp, hyl, hok⟩ ⟨p, va', vb', .ref t, rfl, upd_same, rTupN_tup ((rTupN rStr).up (Same.T sF) raE), (rTupN rStr).up (Same.T sF) rbE, t, vs, rfl, .inr ⟨o, by rw [upd_ne npt.symm, upd_same]⟩, R.us_up (Same.T sF) uvs⟩⟩
end
end LK
set_option maxHeartbeats 4000000
namespace LK
open PySem PySem.Spec PyProof.Rows L2
theorem putK_len' (c : List (Key × V)) (k : Key) (x : V) : (putK c k x).length ≤ c.length + 1 := by
  unfold putK
  by_cases e : (c.any fun kv => decide (kv.1 = k)) = true
  · rw [if_pos e, List.length_map]; omega
  · rw [if_neg e, List.length_append]; simp
theorem poolN_ok : ∀ n ∈ poolN, PyData.canLay0 (.str n) = true ∧ n.length ≤ 8 := by decide +kernel
theorem poolP_ok : ∀ n ∈ poolP, PyData.canLay0 (.str n) = true ∧ n.length ≤ 8 := by decide +kernel
theorem LoreOk.wf {L : Lore} (h : LoreOk L) : WF L := ⟨h.p1, h.p3, h.n6, h.np.nd poolN_nd, h.len, fun ps hp => (h.pcs ps hp).2.1, fun n hn => (poolN_ok n (h.np.sub n hn)).1⟩
section
variable {X : Cx} {a b c e : Expr} {σ : L2.St} {H : Hp} {pos p : Pos}
theorem ev_joinK {w : Str} {ys : List Str} {q : Addr} {vs : List V} {ap : Pos} (hz : (ys.map (·.length)).sum + ys.length * w.length ≤ 16777216) (ha : Ev X a σ H rStr w) (hb : Ev X b σ H rVal (.ref q)) (hq : H q = some (.lst vs)) (hu : rStr.us H vs ys) (hs : starEach [b] X.env = [(false, eval b X.env)] := by rfl) (hbase : attributeBase a "join" X.env (eval a X.env) = eval a X.env := by rfl) (hline : (ap.endLine == pos.line) = true := by rfl) :
    Ev X (.Call (.Attribute a "join" ap) [b] [] pos) σ H rStr (Txt.join w ys) := fun H1 s Q k =>
  wpE_of (pe_join wpE_pe wpE_pe hs hbase hline) (ha H1 s _ fun v H2 s2 rv => ⟨⟨w, rv⟩, hb H2 (s.trans s2) _ fun u H3 s3 ru => ⟨w, q, ys, rv, by rw [show u = _ from ru], .inl (by rw [← us_str hu]; exact SqL.of (s3 _ _ (s2 _ _ (s _ _ hq)))), hz, k _ H3 (s2.trans s3) rfl⟩⟩)
end
theorem sum_le {l : List Str} {c : Nat} (h : ∀ z ∈ l, z.length ≤ c) : (l.map (·.length)).sum ≤ l.length * c := by
  induction l with
  | nil => simp
  | cons a t ih =>
    have h1 := h a List.mem_cons_self
    have h2 := ih fun z hz => h z (List.mem_cons_of_mem _ hz)
    simp only [List.map_cons, List.sum_cons, List.length_cons, Nat.succ_mul]
    omega
theorem join_len (w : Str) : ∀ l : List Str, (Txt.join w l).length ≤ (l.map (·.length)).sum + l.length * w.length := by
  intro l
  rw [TL.join_eq]
  induction l with
  | nil => simp [Str.join]; rfl
  | cons a t ih =>
    cases t with
    | nil => show a.length ≤ _; simp
    | cons b r =>
      have e : (Str.join w (a :: b :: r)).length = a.length + w.length + (Str.join w (b :: r)).length := by
        show (a ++ w ++ Str.join w (b :: r)).length = _
        rw [app_len, app_len]
      rw [e]
      simp only [List.map_cons, List.sum_cons, List.length_cons, Nat.succ_mul] at ih ⊢
      omega
section
variable {P : Program} {w : World} {K : PySem.W.Frag} {mg : Str → Option Value} {base : Heap} {f C CC : Addr} {fd : FuncData}
/-! law_with -/
abbrev sLwi : Stmt := top 88
abbrev nLwi : List Str := ["_law_lore", "_law_key", "_law_value", "_law_found"]
theorem scLwi : FnScope nLwi ["_law_lore", "_law_key", "_law_value"] (defScope sLwi) := ⟨rfl, rfl, rfl, by decide +kernel, rfl, by decide +kernel, by decide +kernel⟩
abbrev spLwi : Sp := SpF (aCons rLore3 (aCons rStr (aCons (rTup (rTup (rTup rStr))) aNil))) (fun i => i.2.1 = "pieces") rLore fun i => { i.1 with pieces := i.2.2.1 }
theorem ok_law_with (T : Glo mg) (F : Fun K "_law_with" "_law_with" sLwi f fd) : FnOk P w K mg base CX0 1 f fd ["_law_lore", "_law_key", "_law_value"] spLwi := by
  refine F.ok (N := nLwi) scLwi (fun vs H Q E h => ?_) (fun cdv A outer s H vs Q E hr h => ⟨wpSs _ _, wpSs_pss, ?_⟩)
  · obtain ⟨i, ⟨v, ws, rfl, _, v2, ws2, rfl, _, v3, ws3, rfl, _, rfl⟩, _⟩ := h
    rfl
  · obtain ⟨⟨L, ky, pcs, _⟩, ⟨v, _, rfl, h1, v2, _, rfl, h2, v3, _, rfl, h3, rfl⟩, hk, k⟩ := h
    have hk : ky = "pieces" := hk
    subst hk
    have h2 : v2 = .str "pieces" := h2
    subst h2
    have hu : (A.deeper (envOfC "_law_with" (defScope sLwi) s.heap.objs.size f cdv)).units + 1 < cLine := by have := hr.units; omega
    have k : ∀ v H', Same H H' → rLore.rel H' v { L with pieces := pcs } → Q v H' := k
    obtain ⟨d, pa, na, pc, rfl, hd, d1, d2, d3⟩ := h1
    refine ss_setW (i := 3) (wpE_of (pe_callTy (call_dictP rfl) rfl T.dict (by decide +kernel) (pa_cons (LiI.pe_listItems rfl wpE_pe rfl T.list (by decide +kernel)) pa_nil) (by decide) (by decide)) ?_) scLwi.nd
    refine wpE_ev (ev_nm (r := rVal) (x := .ref d) 0 rfl rfl) fun v0 H1 s1 e0 => ?_
    have e0 : v0 = .ref d := e0
    subst e0
    refine ⟨d, _, rfl, s1 _ _ hd, fun H2 p ts s2 np hts hpt hp hts2 => ?_⟩
    refine ⟨p, ts, _, rfl, SqL.of hp, hts2.mono fun _ _ h => SqT.of h, fun d' hd' => ?_⟩
    rw [mergeK_nd [(.inr "parts", pa), (.inr "names", na), (.inr "pieces", pc)] [] (show ([.inr "parts", .inr "names", .inr "pieces"] : List Key).Nodup by decide +kernel)]
    have s2 : Same H1 H2 := s2
    have sA : Same H (upd H2 d' (.dK ([] ++ [(.inr "parts", pa), (.inr "names", na), (.inr "pieces", pc)]))) := (s1.trans s2).trans (Same.new hd')
    have hdA : upd H2 d' (.dK ([] ++ [(.inr "parts", pa), (.inr "names", na), (.inr "pieces", pc)])) d' = some (.dK ([(.inr "parts", pa), (.inr "names", na), (.inr "pieces", pc)])) := upd_same
    have nd' : H d' = none := none_of_same (s1.trans s2) hd'
    generalize upd H2 d' (.dK ([] ++ [(.inr "parts", pa), (.inr "names", na), (.inr "pieces", pc)])) = HA at sA hdA
    refine ss_cons (wpS_of (ps_asg (pe_tup (pa_cons wpE_pe (pa_cons pe_dnewK pa_nil))) (pg_tup rfl (pgs_cons (pg_sub wpE_pe wpE_pe (set_dict hu)) (pgs_cons (pg_sub wpE_pe pe_str (set_dict hu)) pgs_nil))) (by rfl) (by rfl)) ?_)
    refine wpE_ev (ev_nm (r := rVal) (x := v3) 2 rfl rfl) fun v4 H4 s4 e4 => ?_
    have e4 : v4 = v3 := e4
    subst e4
    intro x nx
    refine ⟨sz_of (by simp), fun t nt => ?_⟩
    have s5 : Same HA (upd (upd H4 x (.dK [])) t (.tup [v4, .ref x])) := (s4.trans (Same.new nx)).trans (Same.new nt)
    refine ⟨t, _, rfl, SqT.of upd_same, rfl, v4, [.ref x], rfl, ?_⟩
    generalize upd (upd H4 x (.dK [])) t (.tup [v4, .ref x]) = HB at s5
    refine wpE_ev (ev_nm (r := rVal) (x := .ref d') 3 rfl rfl) fun v6 H6 s6 e6 => ?_
    have e6 : v6 = .ref d' := e6
    subst e6
    refine wpE_ev (ev_nm (r := rVal) (x := .str "pieces") 1 rfl rfl) fun v7 H7 s7 e7 => ?_
    have e7 : v7 = .str "pieces" := e7
    subst e7
    have h7 : H7 d' = some (.dK ([(.inr "parts", pa), (.inr "names", na), (.inr "pieces", pc)])) := s7 _ _ (s6 _ _ (s5 _ _ hdA))
    refine ⟨d', _, rfl, DPut.k (k := .inr "pieces") h7 (sz_lt (by simp)), .ref x, [], rfl, ?_⟩
    refine wpE_ev (ev_nm (r := rVal) (x := .ref d') 3 rfl rfl) fun v8 H8 s8 e8 => ?_
    have e8 : v8 = .ref d' := e8
    subst e8
    have h8 := s8 _ _ (upd_same (H := H7) (a := d') (o := HO.dK (putK [(.inr "parts", pa), (.inr "names", na), (.inr "pieces", pc)] (Sum.inr "pieces" : Key) v4)))
    refine ⟨d', _, rfl, DPut.k (k := .inr "kept") h8 (sz_lt (by
      have := putK_len' [(.inr "parts", pa), (.inr "names", na), (.inr "pieces", pc)] (Sum.inr "pieces" : Key) v4
      simp at this
      omega)), rfl, ?_⟩
    have sH7 : Same H H7 := (sA.trans s5).trans (s6.trans s7)
    have sF : Same H (upd H8 d' (.dK (putK (putK [(.inr "parts", pa), (.inr "names", na), (.inr "pieces", pc)] (Sum.inr "pieces" : Key) v4) (Sum.inr "kept" : Key) (.ref x)))) := Same.mut ((Same.mut sH7 nd').trans s8) nd'
    refine ss_ret (r := rVal) (x := .ref d') (ev_nm 3 rfl rfl) fun v9 H9 s9 e9 => ?_
    have e9 : v9 = .ref d' := e9
    subst e9
    have sG := sF.trans s9
    refine k _ H9 sG ⟨d', _, pa, na, v4, rfl, s9 _ _ upd_same, ?_, ?_, ?_, (rTup rStr).up (Same.T sG) d1, (rTupN rStr).up (Same.T sG) d2, (rTup (rTup (rTup rStr))).up (Same.T sG) h3⟩
    · rw [valV_put, if_neg (by decide +kernel), valV_put, if_neg (by decide +kernel)]; rfl
    · rw [valV_put, if_neg (by decide +kernel), valV_put, if_neg (by decide +kernel)]; rfl
    · rw [valV_put, if_neg (by decide +kernel), valV_put, if_pos rfl]
end
end LK
set_option maxHeartbeats 4000000
namespace LK
open PySem PySem.Spec PyProof.Rows L2
section
variable {α β : Type} {X : Cx} {a b c e : Expr} {σ : L2.St} {H : Hp} {pos p : Pos} {r : R α} {xs : List α}
/-- t[:k], k of any size -/
theorem ev_takeA {k : Nat} {p2 : Pos} (ha : Ev X a σ H (rTup r) xs) (hb : Ev X b σ H rInt (k : Int)) : Ev X (.Subscript a (.Slice none (some b) none p2) pos) σ H (rTup r) (xs.take k) := fun H1 s Q q =>
  wpE_of (pe_slice sl_tupA wpE_pe po_none (po_some wpE_pe)) (ha H1 s _ fun v H2 s2 ⟨p, vs, ev, hp, hu⟩ => hb H2 (s.trans s2) _ fun w H3 s3 rw => ⟨(k : Int), rw, p, vs, ev, .inl ((Same.T s3).rd hp), fun hw => by
      have hl := us_length hu
      have h1 : HT.sIx vs.length vs.length (some (k : Int)) = vs.length := hw.2
      rw [HT.sIx_nat] at h1
      exact q _ H3 (s2.trans s3) ⟨p, vs, ev ▸ rfl, (Same.T s3).rd hp, by rw [List.take_of_length_le (by omega)]; exact R.us_up (Same.T s3) hu⟩, fun hw p' hp' => by
      have hl := us_length hu
      have e : cutV vs none (some (k : Int)) = vs.take k := by
        show (vs.drop 0).take (HT.sIx vs.length vs.length (some (k : Int)) - 0) = vs.take k
        rw [HT.sIx_nat, List.drop_zero, Nat.sub_zero]
        by_cases hk : k ≤ vs.length
        · rw [Nat.min_eq_left hk]
        · rw [Nat.min_eq_right (by omega), List.take_of_length_le (Nat.le_refl _), List.take_of_length_le (by omega)]
      refine q _ _ ((s2.trans s3).trans (Same.new hp')) ⟨p', _, rfl, .inl upd_same, ?_⟩
      rw [e]
      exact R.us_up (Same.T (s3.trans (Same.new hp'))) (us_take hu)⟩)
theorem us_val {H : Hp} : ∀ {vs xs : List V}, rVal.us H vs xs → vs = xs
  | _, _, .nil => rfl
  | _, _, .cons a b => by rw [show _ = _ from a, us_val b]
theorem ev_l3names {j : Nat} {q : Pos} {d : Addr} {pa na pc : V} (hu : X.A.units + 1 < cLine) (ha : Ev X a σ H rVal (.ref d)) (hd : H d = some (.dK [(.inr "parts", pa), (.inr "names", na), (.inr "pieces", pc)])) : Ev X (.Subscript a (.Constant (.str "names") j q) pos) σ H rVal na := fun H1 s Q k =>
  wpE_of (pe_dget hu wpE_pe pe_str (fun _ _ => rfl)) (ha H1 s _ fun v H2 s2 rv => ⟨d, na, rv, DGet.k (k := .inr "names") (s2 _ _ (s _ _ hd)), k na H2 s2 rfl⟩)
end
theorem lotOf_one {xs : List Str} {p : Str} (nd : xs.Nodup) (h : p ∈ xs) : [p] = lotOf xs [p] := by
  unfold lotOf
  induction xs with
  | nil => cases h
  | cons a t ih =>
    have nd' := List.nodup_cons.mp nd
    rcases List.mem_cons.mp h with e | h
    · subst e
      have : t.filter (fun n => decide (n ∈ [p])) = [] := by
        rw [List.filter_eq_nil_iff]
        intro x hx
        have : x ≠ p := fun e => nd'.1 (e ▸ hx)
        simp [this]
      rw [List.filter_cons, this]
      simp
    · have hne : a ≠ p := fun e => nd'.1 (e ▸ h)
      rw [List.filter_cons]
      simp only [List.mem_singleton, hne, decide_false, Bool.false_eq_true, if_false]
      have := ih nd'.2 h
      simpa using this
section
variable {P : Program} {w : World} {K : PySem.W.Frag} {mg : Str → Option Value} {base : Heap} {f C CC : Addr} {fd : FuncData}
/-! law_thick_shelf -/
abbrev sLth : Stmt := top 91
abbrev nLth : List Str := ["_law_pot_here", "_law_few", "_law_upmost", "_law_most_parts", "_law_lore", "_law_way", "_law_parts_here", "_law_whole", "_law_part"]
theorem scLth : FnScope nLth ["_law_pot_here", "_law_few", "_law_upmost", "_law_most_parts"] (defScope sLth) := ⟨rfl, rfl, rfl, by decide +kernel, rfl, by decide +kernel, by decide +kernel⟩
abbrev spLth : Sp := SpD (fun _ => aConsS rInt.s (aConsS rInt.s (aConsS rInt.s aNil))) (fun i => i = (2, 6, 3, ())) 201 (fun _ => rLore.s) fun _ L => LoreOk L
theorem ok_law_thick_shelf (T : Glo mg) (F : Fun K "_law_thick_shelf" "_law_thick_shelf" sLth f fd) (cTa : Cal P w K mg base 1 "_law_take" spLta) (cSh : Cal P w K mg base 4 "_law_shelf" spLsh) (cWi : Cal P w K mg base 1 "_law_with" spLwi) : FnOk P w K mg base CX0 5 f fd ["_law_pot_here", "_law_few", "_law_upmost", "_law_most_parts"] spLth := by
  refine F.ok (N := nLth) scLth (fun vs H Q E h => ?_) (fun cdv A outer s H vs Q E hr h => ⟨wpSs _ _, wpSs_pss, ?_⟩)
  · obtain ⟨l, n, ws, i, rfl, _, _, ⟨v2, ws2, rfl, _, v3, ws3, rfl, _, v4, ws4, rfl, _, rfl⟩, _⟩ := h
    rfl
  · obtain ⟨l, n, ws, i, rfl, P0, hn, hi, hp, k⟩ := h
    have hp : i = (2, 6, 3, ()) := hp
    subst hp
    obtain ⟨v2, _, rfl, h2, v3, _, rfl, h3, v4, _, rfl, h4, rfl⟩ := hi
    have h2 : v2 = .int 2 := h2
    have h3 : v3 = .int 6 := h3
    have h4 : v4 = .int 3 := h4
    subst h2
    subst h3
    subst h4
    have hn : n + 201 ≤ 100000 := hn
    have hu : (A.deeper (envOfC "_law_thick_shelf" (defScope sLth) s.heap.objs.size f cdv)).units + 1 < cLine := by have := hr.units; omega
    have k : ∀ v L H', DL l H H' → Pot l (n + 201) H' → LoreOk L → rLore.rel H' v L → Q v H' := k
    refine ss_parD (i := 4) (j := 5) (l := l) (n := n) (k1 := 200) (k2 := 1) (r := rLore3.s) (t := rNat.s) (post := LoreOk) (post' := fun y => y < 4) (R.stays rLore3) ?_ ?_ P0 (fun va vb L way H1 d1 P1 hL hw ra rb => ?_) rfl scLth.nd (by decide)
    · exact ed_callE (i0 := ((2 : Int), (6 : Int), (3 : Int), ())) cSh hr (j := 0) rfl (by omega) (ed_a3 (R.stays rInt) (R.stays rInt) (ed_nm (r := rInt.s) 1 rfl rfl (R.stays rInt) ⟨n, P0⟩) (ed_nm (r := rInt.s) 2 rfl rfl (R.stays rInt) ⟨n, P0⟩) (ed_nm (r := rInt.s) 3 rfl rfl (R.stays rInt) ⟨n, P0⟩)) rfl (fun _ h => h)
    · exact ed_take cTa (hr.mono (by decide)) 0 rfl (by omega) (ed_natE (k := 0) (m := 4) ed_ci rfl) (by decide) (by decide)
    have hL : LoreOk L := hL
    have ra : rLore3.rel H1 va L := ra
    have rl := lore3_lore ra
    have fin : ∀ v H' L', Same H1 H' → LoreOk L' → rLore.rel H' v L' → Q v H' := fun v H' L' s h1 h2 => k v L' H' (d1.trans (toD s)) (P1.same s) h1 h2
    have hnd := hL.pp.nd poolP_nd
    refine ss_if (k := decide ((way : Int) = 0)) (et_eqI (int_of_nat (ev_nm 5 rfl (by exact rb))) ev_int) (fun hq H2 s2 => ?_) (fun hq H2 s2 => ss_nil ?_)
    · have hp0 : L.parts[0]? = some (L.parts.getD 0 "") := by
        rw [List.getD_eq_getElem?_getD, List.getElem?_eq_getElem (show 0 < L.parts.length from hL.p1)]; rfl
      have hmem : L.parts.getD 0 "" ∈ L.parts := List.mem_of_getElem? hp0
      refine ss_ret (ev_call cWi (hr.mono (by decide)) (o := { L with pieces := List.replicate L.names.length [[L.parts.getD 0 ""]] }) (ea_cons (ev_nm 4 rfl (rLore3.up (Same.T s2) ra)) (ea_cons ev_str (ea_cons (x := List.replicate L.names.length [[L.parts.getD 0 ""]]) (ev_tuple T.tuple (el_rep1 (by have := hL.n6; omega) (el_lst (el_cons (ev_tup (el_cons (ev_tup (el_cons (ev_ixT (i := 0) (r := rStr) hp0 (ev_lparts hu (ev_nm 4 rfl (rLore.up (Same.T s2) rl))) ev_int) el_nil) (by simp)) el_nil) (by simp)) el_nil) (by simp)) (int_of_nat (ev_lenT T.len (ev_lnames hu (ev_nm 4 rfl (rLore.up (Same.T s2) rl))).tup)))) ea_nil))) rfl) (fun v H3 s3 rv => fin v H3 _ (s2.trans s3) ?_ rv)
      refine ⟨hL.p1, hL.p3, hL.pp, hL.n2, hL.n6, hL.np, by simp, fun ps hps => ?_⟩
      rw [List.eq_of_mem_replicate hps]
      refine ⟨by simp, by simp, fun pc hpc => ?_⟩
      have : pc = [L.parts.getD 0 ""] := by simpa using hpc
      rw [this]
      exact ⟨by simp, lotOf_one hnd hmem⟩
    · refine ss_if (k := decide ((way : Int) = 1)) (et_eqI (int_of_nat (ev_nm 5 rfl (rNat.up (Same.T s2) (by exact rb)))) ev_int) (fun hq H3 s3 => ?_) (fun hq H3 s3 => ss_nil ?_)
      · have rl3 := rLore.up (Same.T (s2.trans s3)) rl
        have ra3 := rLore3.up (Same.T (s2.trans s3)) ra
        refine ss_set (i := 6) (ev_takeA (k := 2) (ev_lparts hu (ev_nm 4 rfl rl3)) ev_int) (fun vp H4 s4 rp => ?_) scLth.nd
        refine ss_set (i := 7) (ev_tuple T.tuple (el_map1 (j := 8) (t := rTup rStr) (f := fun p => [p]) rfl scLth.nd (blkOk_by (N := nLth) (sc := defScope sLth) (by decide +kernel)) (ei_tup (ev_nm 6 rfl rp)) (by rw [List.length_take]; omega) (fun v x H5 hx s5 rx s H0 C cl fp => ev_tup (el_cons (ev_nm 8 rfl rx) el_nil) (by simp)))) (fun vw H5 s5 rw' => ?_) scLth.nd
        obtain ⟨d, pa, na, pc, rfl, hd, e1, e2, e3⟩ := ra3
        have hd5 := s5 _ _ (s4 _ _ hd)
        have rl5 := rLore.up (Same.T (s4.trans s5)) rl3
        have rp5 := (rTup rStr).up (Same.T s5) rp
        have na5 := (rTupN rStr).up (Same.T (s4.trans s5)) e2
        refine ss_cons (wpS_of (ps_ret wpE_pe) ?_)
        refine wp_dict3 (by decide +kernel) fun p hp => ?_
        have sp : Same H5 (upd H5 p (.dK [])) := Same.new hp
        refine wpE_ev (ev_nm (r := rVal) (x := vp) 6 rfl rfl) fun va' H6 s6 e6 => ?_
        have e6 : va' = vp := e6
        subst e6
        refine wpE_ev (ev_l3names hu (ev_nm (r := rVal) (x := .ref d) 4 rfl rfl) (s6 _ _ (sp _ _ hd5))) fun vb' H7 s7 e7 => ?_
        have e7 : vb' = na := e7
        subst e7
        have s57 : Same (upd H5 p (.dK [])) H7 := s6.trans s7
        have hp7 : H7 p = some (.dK []) := s57 _ _ upd_same
        refine wpE_of (pe_callTy call_tuple_frz rfl T.tuple (by decide +kernel) (pa_cons wpE_pe pa_nil) (by decide) (by decide)) (wpE_evL (el_rep1 (r := rVal) (x := vw) (k := L.names.length) (by have := hL.n6; omega) (el_lst (el_cons (ev_nm (r := rVal) 7 rfl rfl) el_nil) (by simp)) (int_of_nat (ev_lenT T.len (ev_lnames hu (ev_nm 4 rfl (rLore.up (Same.T (sp.trans s57)) rl5))).tup))) fun q vs H8 nq s8 hq hqu => ?_)
        have hqv := us_val hqu
        subst hqv
        refine ⟨q, _, rfl, SqL.of hq, fun t o ht ho => ?_⟩
        have hp8 : H8 p = some (.dK []) := s8 _ _ hp7
        have npt : p ≠ t := ne_of_none hp8 ht
        have sF : Same H5 (upd (upd H8 t (.frz o (.tup (List.replicate L.names.length vw)))) p (.dK [(.inr "parts", va'), (.inr "names", vb'), (.inr "pieces", .ref t)])) := fun b u e => by
          have hbp : b ≠ p := ne_of_none e hp
          have h8 := s8 _ _ (s57 _ _ (sp _ _ e))
          rw [upd_ne hbp, upd_ne (ne_of_none h8 ht)]
          exact h8
        refine ⟨by rw [upd_ne npt]; exact hp8, fin (.ref p) _ ⟨L.parts.take 2, L.names, List.replicate L.names.length ((L.parts.take 2).map fun p => [p])⟩ ((((s2.trans s3).trans s4).trans s5).trans sF) ?_ ?_⟩
        · have h1 := hL.p1
          have h3 := hL.p3
          refine ⟨by simp; omega, by simp; omega, hL.pp.take 2, hL.n2, hL.n6, hL.np, by simp, fun ps hps => ?_⟩
          rw [List.eq_of_mem_replicate hps]
          refine ⟨by simp; omega, by simp; omega, fun pc hpc => ?_⟩
          obtain ⟨p0, hp0, rfl⟩ := List.mem_map.mp hpc
          exact ⟨by simp, lotOf_one ((hL.pp.take 2).nd poolP_nd) hp0⟩
        · exact lore3_lore ⟨p, va', vb', .ref t, rfl, upd_same, (rTup rStr).up (Same.T sF) rp5, (rTupN rStr).up (Same.T sF) na5, t, _, rfl, .inr ⟨o, by rw [upd_ne npt.symm, upd_same]⟩, us_rep ((rTup (rTup rStr)).up (Same.T sF) rw') _⟩
      · exact ss_ret (ev_nm 4 rfl (rLore.up (Same.T (s2.trans s3)) rl)) (fun v H4 s4 rv => fin v H4 L ((s2.trans s3).trans s4) hL rv)
end
end LK
set_option maxHeartbeats 4000000
namespace LK
open PySem PySem.Spec PyProof.Rows L2
/-- an answer of the law's making: one mark a piece -/
structure AnsOk (L : Lore) (x : Str × Str) : Prop where
  nm : x.1 ∈ L.names
  len : (signs x.2).length = (L.pieces.getD (L.names.idxOf x.1) []).length
  mks : ∀ c ∈ signs x.2, c = ("0" : Str) ∨ c = "1"
theorem signs_one {z : Str} (h : z = ("0" : Str) ∨ z = "1") : signs z = [z] := by rcases h with rfl | rfl <;> rfl
theorem signs_join : ∀ l : List Str, (∀ z ∈ l, z = ("0" : Str) ∨ z = "1") → signs (Txt.join "" l) = l := by
  intro l
  rw [TL.join_eq]
  induction l with
  | nil => intro _; rfl
  | cons a t ih =>
    intro h
    cases t with
    | nil => exact signs_one (h a List.mem_cons_self)
    | cons b r =>
      show signs (a ++ "" ++ Str.join "" (b :: r)) = _
      rw [signs_app, signs_app, signs_one (h a List.mem_cons_self), ih fun z hz => h z (List.mem_cons_of_mem _ hz)]
      rfl
theorem pieceVal_mark (parts piece : List Str) (z : Str) : (toString (pieceVal parts piece z) : Str) = ("0" : Str) ∨ (toString (pieceVal parts piece z) : Str) = "1" := by
  rcases pieceVal_two parts piece z with e | e
  · left; rw [e]; rfl
  · right; rw [e]; rfl
theorem lawAns_signs (L : Lore) (n z : Str) : signs (lawAns L n z) = (L.pieces.getD (L.names.idxOf n) []).map fun pc => (toString (pieceVal L.parts pc z) : Str) := by
  unfold lawAns
  refine signs_join _ fun y hy => ?_
  obtain ⟨pc, _, rfl⟩ := List.mem_map.mp hy
  exact pieceVal_mark _ _ _
theorem lawAns_ok {L : Lore} {n z : Str} (h : n ∈ L.names) : AnsOk L (n, lawAns L n z) := by
  refine ⟨h, ?_, fun c hc => ?_⟩
  · rw [lawAns_signs, List.length_map]
  · rw [lawAns_signs] at hc
    obtain ⟨pc, _, rfl⟩ := List.mem_map.mp hc
    exact pieceVal_mark _ _ _
theorem getD_two {L : Lore} (W : WF L) (n : Str) : (L.pieces.getD (L.names.idxOf n) []).length ≤ 2 := by
  rw [List.getD_eq_getElem?_getD]
  cases h : L.pieces[L.names.idxOf n]? with
  | none => simp
  | some ps => exact W.two ps (List.mem_of_getElem? h)
section
variable {X : Cx} {σ : L2.St} {H1 : Hp}
theorem ev2s {a b : Str} {j1 j2 : Nat} {p1 p2 : Pos} (h1 : starEach [.Constant (.str a) j1 p1, .Constant (.str b) j2 p2] X.env = (false, eval (.Constant (.str a) j1 p1) X.env) :: starEach [.Constant (.str b) j2 p2] X.env := by rfl)
    (h2 : starEach [.Constant (.str b) j2 p2] X.env = (false, eval (.Constant (.str b) j2 p2) X.env) :: starEach [] X.env := by rfl) : EvA X [.Constant (.str a) j1 p1, .Constant (.str b) j2 p2] σ H1 (aAll rStr) [a, b] := el_cons ev_str (el_cons ev_str el_nil h2) h1
end
section
variable {P : Program} {w : World} {K : PySem.W.Frag} {mg : Str → Option Value} {base : Heap} {f C CC : Addr} {fd : FuncData}
/-! law_lied -/
abbrev sLli : Stmt := top 89
abbrev nLli : List Str := ["_law_pot_here", "_law_lore", "_law_lot", "_law_record", "_law_found", "_law_name", "_law_values", "_law_mark"]
theorem scLli : FnScope nLli ["_law_pot_here", "_law_lore", "_law_lot", "_law_record"] (defScope sLli) := ⟨rfl, rfl, rfl, by decide +kernel, rfl, by decide +kernel, by decide +kernel⟩
abbrev spLli : Sp := SpD (fun _ => aConsS rLore.s (aConsS (rTup rStr).s (aConsS rStr.s aNil))) (fun i => WF i.1 ∧ (∀ n ∈ i.2.1, n ∈ i.1.names) ∧ i.2.1.length ≤ 6 ∧ IsRec i.1.parts.length i.2.2.1) 18 (fun _ => rAs.s) fun i as => as.map (·.1) = i.2.1 ∧ ∀ x ∈ as, AnsOk i.1 x
theorem ok_law_lied (T : Glo mg) (F : Fun K "_law_lied" "_law_lied" sLli f fd) (cTa : Cal P w K mg base 1 "_law_take" spLta) (cOf : Cal P w K mg base 2 "_law_of" (spLof rStr)) (cAn : Cal P w K mg base 2 "_law_answer" spLan) : FnOk P w K mg base CX0 3 f fd ["_law_pot_here", "_law_lore", "_law_lot", "_law_record"] spLli := by
  refine F.ok (N := nLli) scLli (fun vs H Q E h => ?_) (fun cdv A outer s H vs Q E hr h => ⟨wpSs _ _, wpSs_pss, ?_⟩)
  · obtain ⟨l, n, ws, i, rfl, _, _, ⟨v2, ws2, rfl, _, v3, ws3, rfl, _, v4, ws4, rfl, _, rfl⟩, _⟩ := h
    rfl
  · obtain ⟨l, n, ws, ⟨L, lot, z, _⟩, rfl, P0, hn, ⟨v2, _, rfl, h2, v3, _, rfl, h3, v4, _, rfl, h4, rfl⟩, ⟨hW, hlot, h6, hz⟩, k⟩ := h
    have hn : n + 18 ≤ 100000 := hn
    have hW : WF L := hW
    have hlot : ∀ n ∈ lot, n ∈ L.names := hlot
    have h6 : lot.length ≤ 6 := h6
    have hz : IsRec L.parts.length z := hz
    have h2 : rLore.rel H v2 L := h2
    have h3 : (rTup rStr).rel H v3 lot := h3
    have h4 : rStr.rel H v4 z := h4
    have k : ∀ v as H', DL l H H' → Pot l (n + 18) H' → (as.map (·.1) = lot ∧ ∀ x ∈ as, AnsOk L x) → rAs.rel H' v as → Q v H' := k
    refine ss_setL (i := 4) (r := rPair rStr rStr) (el_lst el_nil (by simp)) (fun q vq H2 nq s2 hq hqu => ?_) scLli.nd
    cases hqu
    have nql : q ≠ l := P0.ne nq
    have P2 := P0.same s2
    obtain ⟨vl, hvl⟩ := P2.lst
    have tw : SameT H2 (wo (wo H2 l) q) := (wo_T hvl).trans (wo_T (q := q) (by rw [wo_ne nql]; exact hq))
    refine ss_for1 (j := 5) (r := rStr) (xs := lot) (Hb := wo (wo H2 l) q) ((wo_same _ _).trans (wo_same _ _)) (ei_tup (ev_nm 2 rfl ((rTup rStr).up ((Same.T s2).trans tw) h3))) rfl PassesOwn.never scLli.nd (fun B H3 b1 b2 b3 fr => ?_)
    have bl : B l = none := fr l (by rw [hvl]; simp) (by rw [wo_ne nql.symm, wo_at])
    have bq : B q = none := fr q (by rw [hq]; simp) (wo_at _ _)
    have base0 : ∀ b o, H b = some o → b ≠ l → B b = some o := fun b o e ne => b1 _ _ (by
      rw [wo_ne (ne_of_none e nq), wo_ne ne]
      exact s2 _ _ e)
    refine ⟨fun m σ' H' => Same B H' ∧ SameT H3 H' ∧ Pot l (n + m * 3) H' ∧ ∃ vs as o5 o6 o7, H' q = some (.lst vs) ∧ (rPair rStr rStr).us H' vs as ∧ as.map (·.1) = lot.take m ∧ (∀ x ∈ as, AnsOk L x) ∧ σ' = [some (.ref l), some v2, some v3, some v4, some (.ref q), o5, o6, o7],
      ⟨b2, SameT.refl _, (by rw [Nat.zero_mul]; exact (P2.same b3)), [], [], none, none, none, b3 _ _ hq, .nil, rfl, (fun _ h => nomatch h), rfl⟩, fun m σ' H' h => ⟨h.1, h.2.1⟩, ?_, ?_⟩
    · rintro m x v6 σ' Ha Hc hx ⟨sB, sT, Pm, vs, as, o5, o6, o7, hvs, uvs, hal, hok, rfl⟩ sA rx
      have hm : m < lot.length := (List.getElem?_eq_some_iff.mp hx).1
      have hmem : x ∈ L.names := hlot x (List.mem_of_getElem? hx)
      have hmul : m * 3 ≤ 5 * 3 := Nat.mul_le_mul_right 3 (by omega)
      have tC : SameT H Hc := ((Same.T s2).trans (Same.T b3)).trans (sT.trans (Same.T sA))
      have Pc := Pm.same sA
      have hqc := sA _ _ hvs
      have hlen : as.length ≤ 6 := by
        have := congrArg List.length hal
        rw [List.length_map, List.length_take] at this
        omega
      refine ss_set (i := 6) (ev_call cAn (hr.mono (by decide)) (o := lawAns L x z) (ea_cons (ev_nm 1 rfl (rLore.up tC h2)) (ea_cons (ev_nm 5 rfl rx) (ea_cons (ev_nm 3 rfl (rStr.up tC h4)) ea_nil))) ⟨hW, hmem, hz⟩) (fun v7 H4 s4 r7 => ?_) scLli.nd
      have P4 := Pc.same s4
      have hq4 := s4 _ _ hqc
      refine ss_ifDJ (fun σ' H5 => ∃ (y : Str) (v : V) (o : Option V), DL l H4 H5 ∧ Pot l (n + m * 3 + 3) H5 ∧ AnsOk L (x, y) ∧ rStr.rel H5 v y ∧ σ' = [some (.ref l), some v2, some v3, some v4, some (.ref q), some v6, some v, o]) (l := l) (n := n + m * 3) (k := 1) (ed_eqI (ed_int (ed_take cTa (hr.mono (by decide)) 0 rfl (by omega) (ed_natE (k := 0) (m := 4) ed_ci rfl) (by decide) (by decide)))) P4 (fun H5 d5 P5 => ?_) (fun H5 d5 P5 => ss_nil ⟨_, _, _, d5, (P5.mono (by omega)), (lawAns_ok hmem), rStr.up (d5.T P4) r7, rfl⟩) ?_
      rotate_left
      · rintro σ' H5 ⟨y, v, o, d5, P5, hy, ry, rfl⟩
        have hq5 := d5 _ _ hq4 nql
        have tA5 : SameT Ha H5 := (Same.T (sA.trans s4)).trans (d5.T P4)
        have t5 : SameT Hc H5 := (Same.T s4).trans (d5.T P4)
        refine ss_app (r := rPair rStr rStr) (x := (x, y)) hq5 (by rw [us_length uvs]; omega) (ev_nm (r := rVal) 4 rfl rfl) (ev_pair (ev_nm 5 rfl (rStr.up t5 rx)) (ev_nm 6 rfl ry)) (fun v8 H8 s8 r8 => ?_)
        have hq8 := s8 _ _ hq5
        have t8 : SameT Ha (upd H8 q (.lst (vs ++ [v8]))) := (tA5.trans (Same.T s8)).trans (SameT.upd hq8)
        refine ss_nil ⟨Same.mut (fun b u e => s8 _ _ (d5 _ _ (s4 _ _ (sA _ _ (sB _ _ e))) (ne_of_none e bl))) bq, sT.trans t8, ((P5.same s8).upd nql).mono (by omega), vs ++ [v8], as ++ [(x, y)], _, _, _, upd_same, paired_append (R.us_up t8 uvs) (.cons ((rPair rStr rStr).up (SameT.upd hq8) r8) .nil), ?_, fun z hz => ?_, rfl⟩
        · rw [List.map_append, hal, List.take_add_one, hx]; rfl
        · rcases List.mem_append.mp hz with h | h
          · exact hok z h
          · simp at h; rw [h]; exact hy
      have hgl := getD_two hW x
      have hla : (signs (lawAns L x z)).length ≤ 2 := by rw [(lawAns_ok (L := L) (z := z) hmem).len]; exact hgl
      refine ss_setD (i := 6) (l := l) (n := n + m * 3 + 1) (k := 0 + 2 * 1) (r := rStr.s) (post := fun y => AnsOk L (x, y)) ?_ P5 (fun v8 y H6 d6 P6 hy r8 => ss_nil ⟨y, v8, _, d5.trans d6, P6.mono (by omega), hy, r8, rfl⟩) scLli.nd
      refine ed_wk (ed_joinL (po := fun ys => (∃ xs, (∃ z', z' = lawAns L x z ∧ xs = signs z') ∧ ys.length = xs.length) ∧ ∀ y ∈ ys, y ∈ [("0" : Str), "1"]) (fun ys ⟨⟨xs, ⟨z', e1, e2⟩, e3⟩, e4⟩ => ?_) ?_) (Nat.le_refl _) ?_
      · rw [sum_one (fun y hy => by rcases List.mem_cons.mp (e4 y hy) with rfl | h; · rfl
                                    · have : y = "1" := by simpa using h
                                      subst this; rfl)]
        have h0 : (Str.ofString "").length = 0 := rfl
        rw [h0, e3, e2, e1]
        omega
      · refine ed_lc1 (j := 7) (M := 2) (cc := 1) (r := rStr) (t := rStr) rfl scLli.nd (blkOk_by (N := nLli) (sc := defScope sLli) (by decide +kernel)) (eif_str (k := 0) (ed_nm (r := rStr.s) (x := lawAns L x z) 6 rfl (rStr.up (d5.T P4) r7) (R.stays rStr) ⟨_, P5⟩)) (fun xs ⟨z', e1, e2⟩ => by rw [e2, e1]; exact hla) (by decide) (fun v x' H7 m7 d7 P7 hm7 rx7 s H0 C cl fp => ?_)
        exact ed_callE (i0 := (([("0" : Str), "1"] : List Str), ())) cOf (hr.mono (by decide)) (j := 0) rfl (by omega) (ed_a1 (ed_disp (fun H1 => ev2s) (by decide))) ⟨by decide, by decide⟩ (fun _ h => h)
      · rintro y ⟨ys, ⟨⟨xs, ⟨z', e1, e2⟩, e3⟩, e4⟩, rfl⟩
        have h01 : ∀ y ∈ ys, y = ("0" : Str) ∨ y = "1" := fun y hy => by simpa using e4 y hy
        refine ⟨hmem, ?_, ?_⟩
        · show (signs (Txt.join "" ys)).length = _
          rw [signs_join ys h01, e3, e2, e1]
          exact (lawAns_ok hmem).len
        · show ∀ c ∈ signs (Txt.join "" ys), _
          rw [signs_join ys h01]
          exact h01
    · rintro σ' H' ⟨sB, sT, Pm, vs, as, o5, o6, o7, hvs, uvs, hal, hok, rfl⟩
      rw [List.take_length] at hal
      have hmul : lot.length * 3 ≤ 6 * 3 := Nat.mul_le_mul_right 3 h6
      refine ss_ret (ev_tupleK T.tuple (ev_nm (r := rVal) 4 rfl rfl) hvs uvs).tupN fun v H7 s7 rv => ?_
      exact k v as H7 (fun b o e ne => s7 _ _ (sB _ _ (base0 b o e ne))) ((Pm.same s7).mono (by omega)) ⟨hal, hok⟩ rv
end
end LK
set_option maxHeartbeats 4000000
namespace LK
open PySem PySem.Spec PyProof.Rows L2
def rowOf (x : Str × List (List Str)) : Str := Txt.join " " ([("keeper" : Str), x.1] ++ x.2.map fun pc => Txt.join "+" pc)
def headOf (L : Lore) : Str := Txt.join " " ([("parts" : Str)] ++ L.parts)
def textOf (L : Lore) : Str := Txt.join "\n" ([headOf L] ++ (L.names.zip L.pieces).map rowOf)
theorem piece_len {L : Lore} (h : LoreOk L) {ps : List (List Str)} (hp : ps ∈ L.pieces) {pc : List Str} (hc : pc ∈ ps) : pc.length ≤ 3 ∧ ∀ z ∈ pc, z ∈ L.parts := by
  have h1 := ((h.pcs ps hp).2.2 pc hc).2
  refine ⟨?_, fun z hz => ?_⟩
  · rw [h1]
    exact Nat.le_trans (List.length_filter_le _ _) h.p3
  · rw [h1] at hz
    exact (List.mem_filter.mp hz).1
theorem parts_len {L : Lore} (h : LoreOk L) : ∀ z ∈ L.parts, z.length ≤ 8 := fun z hz => (poolP_ok z (h.pp.sub z hz)).2
theorem names_len {L : Lore} (h : LoreOk L) : ∀ z ∈ L.names, z.length ≤ 8 := fun z hz => (poolN_ok z (h.np.sub z hz)).2
theorem plus_len {L : Lore} (h : LoreOk L) {ps : List (List Str)} (hp : ps ∈ L.pieces) {pc : List Str} (hc : pc ∈ ps) : (pc.map (·.length)).sum + pc.length * (Str.ofString "+").length ≤ 27 := by
  obtain ⟨h1, h2⟩ := piece_len h hp hc
  have h3 := sum_le (c := 8) fun z hz => parts_len h z (h2 z hz)
  have h4 : (Str.ofString "+").length = 1 := rfl
  rw [h4]
  omega
theorem row_sum {L : Lore} (h : LoreOk L) {x : Str × List (List Str)} (hx : x ∈ L.names.zip L.pieces) : (([("keeper" : Str), x.1] ++ x.2.map fun pc => Txt.join "+" pc).map (·.length)).sum + ([("keeper" : Str), x.1] ++ x.2.map fun pc => Txt.join "+" pc).length * (Str.ofString " ").length ≤ 200 := by
  have hm := List.of_mem_zip hx
  have h1 := h.pcs x.2 hm.2
  have h2 : ∀ z ∈ ([("keeper" : Str), x.1] ++ x.2.map fun pc => Txt.join "+" pc), z.length ≤ 27 := fun z hz => by
    rcases List.mem_append.mp hz with hz | hz
    · rcases List.mem_cons.mp hz with e | hz
      · rw [e]; decide
      · have : z = x.1 := by simpa using hz
        rw [this]
        exact Nat.le_trans (names_len h _ hm.1) (by decide)
    · obtain ⟨pc, hpc, rfl⟩ := List.mem_map.mp hz
      exact Nat.le_trans (join_len _ _) (plus_len h hm.2 hpc)
  have h3 := sum_le h2
  have h4 : (Str.ofString " ").length = 1 := rfl
  rw [h4]
  have h5 : ([("keeper" : Str), x.1] ++ x.2.map fun pc => Txt.join "+" pc).length ≤ 4 := by simp; omega
  omega
theorem rowOf_len {L : Lore} (h : LoreOk L) {x : Str × List (List Str)} (hx : x ∈ L.names.zip L.pieces) : (rowOf x).length ≤ 200 := Nat.le_trans (join_len _ _) (row_sum h hx)
theorem head_sum {L : Lore} (h : LoreOk L) : (([("parts" : Str)] ++ L.parts).map (·.length)).sum + ([("parts" : Str)] ++ L.parts).length * (Str.ofString " ").length ≤ 200 := by
  have h2 : ∀ z ∈ ([("parts" : Str)] ++ L.parts), z.length ≤ 8 := fun z hz => by
    rcases List.mem_append.mp hz with hz | hz
    · have : z = "parts" := by simpa using hz
      rw [this]; decide
    · exact parts_len h z hz
  have h3 := sum_le h2
  have h4 : (Str.ofString " ").length = 1 := rfl
  rw [h4]
  have h5 : ([("parts" : Str)] ++ L.parts).length ≤ 4 := by have := h.p3; simp; omega
  omega
theorem headOf_len {L : Lore} (h : LoreOk L) : (headOf L).length ≤ 200 := Nat.le_trans (join_len _ _) (head_sum h)
theorem text_sum {L : Lore} (h : LoreOk L) : (([headOf L] ++ (L.names.zip L.pieces).map rowOf).map (·.length)).sum + ([headOf L] ++ (L.names.zip L.pieces).map rowOf).length * (Str.ofString "\n").length ≤ 2000 := by
  have h2 : ∀ z ∈ ([headOf L] ++ (L.names.zip L.pieces).map rowOf), z.length ≤ 200 := fun z hz => by
    rcases List.mem_append.mp hz with hz | hz
    · have : z = headOf L := by simpa using hz
      rw [this]; exact headOf_len h
    · obtain ⟨x, hx, rfl⟩ := List.mem_map.mp hz
      exact rowOf_len h hx
  have h3 := sum_le h2
  have h4 : (Str.ofString "\n").length = 1 := rfl
  rw [h4]
  have h5 : ([headOf L] ++ (L.names.zip L.pieces).map rowOf).length ≤ 7 := by have := h.n6; simp; omega
  omega
section
variable {P : Program} {w : World} {K : PySem.W.Frag} {mg : Str → Option Value} {base : Heap} {f C CC : Addr} {fd : FuncData}
/-! law_shelf_text -/
abbrev sLst : Stmt := top 84
abbrev nLst : List Str := ["_law_lore", "_law_rows", "_law_name", "_law_some_here", "_law_piece_here"]
theorem scLst : FnScope nLst ["_law_lore"] (defScope sLst) := ⟨rfl, rfl, rfl, by decide +kernel, rfl, by decide +kernel, by decide +kernel⟩
abbrev spLst : Sp := SpF (aCons rLore aNil) (fun i => LoreOk i.1) rStr fun i => textOf i.1
theorem ok_law_shelf_text (T : Glo mg) (F : Fun K "_law_shelf_text" "_law_shelf_text" sLst f fd) : FnOk P w K mg base CX0 1 f fd ["_law_lore"] spLst := by
  refine F.ok (N := nLst) scLst (fun vs H Q E h => ?_) (fun cdv A outer s H vs Q E hr h => ⟨wpSs _ _, wpSs_pss, ?_⟩)
  · obtain ⟨i, ⟨v, ws, rfl, _, rfl⟩, _⟩ := h
    rfl
  · obtain ⟨⟨L, _⟩, ⟨v, _, rfl, h1, rfl⟩, hL, k⟩ := h
    have hL : LoreOk L := hL
    have hu : (A.deeper (envOfC "_law_shelf_text" (defScope sLst) s.heap.objs.size f cdv)).units + 1 < cLine := by have := hr.units; omega
    have k : ∀ v H', Same H H' → rStr.rel H' v (textOf L) → Q v H' := k
    have h6 := hL.n6
    have h3 := hL.p3
    refine ss_setL (i := 1) (r := rStr) (xs := [headOf L]) (el_lst (el_cons (ev_joinL (Nat.le_trans (head_sum hL) (by decide)) ev_str (el_cat (by simp; omega) (el_lst (el_cons ev_str el_nil) (by simp)) (el_listT T.list (ev_lparts hu (ev_nm 0 rfl h1))))) el_nil) (by simp)) (fun q vq H1 nq s1 hq hqu => ?_) scLst.nd
    have hw : Same H (wo H1 q) := fun b o e => by
      rw [wo_ne (ne_of_none e nq)]
      exact s1 _ _ e
    refine ss_for2 (j1 := 2) (j2 := 3) (r := rStr) (r' := rTup (rTup rStr)) (xs := L.names.zip L.pieces) (Hb := wo H1 q) (wo_same _ _) (ei_zipT (ev_lnames hu (ev_nm 0 rfl (rLore.up (Same.T hw) h1))).tup (ev_lpieces hu (ev_nm 0 rfl (rLore.up (Same.T hw) h1))) hL.len.symm T.zip) rfl PassesOwn.never scLst.nd (fun B H3 b1 b2 b3 fr => ?_)
    have bq : B q = none := fr q (by rw [hq]; simp) (wo_at _ _)
    have hzl : (L.names.zip L.pieces).length = L.names.length := by rw [List.length_zip, hL.len]; omega
    refine ⟨fun m σ' H' => Same B H' ∧ SameT H3 H' ∧ ∃ vs o1 o2 o3, H' q = some (.lst vs) ∧ rStr.us H' vs ([headOf L] ++ ((L.names.zip L.pieces).take m).map rowOf) ∧ σ' = [some v, some (.ref q), o1, o2, o3],
      ⟨b2, SameT.refl _, vq, _, _, _, b3 _ _ hq, (by simpa using R.us_up (Same.T b3) hqu), rfl⟩, fun m σ' H' h => ⟨h.1, h.2.1⟩, ?_, ?_⟩
    · rintro m x v6 v7 σ' Ha Hc hx ⟨sB, sT, vs, o1, o2, o3, hvs, uvs, rfl⟩ sA r1 r2
      have hmem := List.mem_of_getElem? hx
      have hm2 := List.of_mem_zip hmem
      have hm : m < (L.names.zip L.pieces).length := (List.getElem?_eq_some_iff.mp hx).1
      have hvl := us_length uvs
      simp only [List.length_append, List.length_map, List.length_take, List.length_cons, List.length_nil] at hvl
      have h5 := (hL.pcs x.2 hm2.2).2.1
      refine ss_app (r := rStr) (x := rowOf x) (sA _ _ hvs) (by omega) (ev_nm (r := rVal) 1 rfl rfl) (ev_joinL (Nat.le_trans (row_sum hL hmem) (by decide)) ev_str (el_cat (by simp; omega) (el_lst (el_cons ev_str (el_cons (ev_nm 2 rfl r1) el_nil)) (by simp)) (el_map1 (j := 4) (t := rStr) (f := fun pc => Txt.join "+" pc) rfl scLst.nd (blkOk_by (N := nLst) (sc := defScope sLst) (by decide +kernel)) (ei_tup (ev_nm 3 rfl r2)) (by omega)
        (fun v x' H5 hx' s5 rx s H0 C cl fp => ev_joinL (Nat.le_trans (plus_len hL hm2.2 hx') (by decide)) ev_str (el_listT T.list (ev_nm 4 rfl rx)))))) (fun v8 H8 s8 r8 => ?_)
      have hq8 := s8 _ _ (sA _ _ hvs)
      have t8 : SameT Ha (upd H8 q (.lst (vs ++ [v8]))) := (Same.T (sA.trans s8)).trans (SameT.upd hq8)
      refine ss_nil ⟨Same.mut (sB.trans (sA.trans s8)) bq, sT.trans t8, vs ++ [v8], _, _, _, upd_same, ?_, rfl⟩
      rw [take_succ_map _ hx, ← List.append_assoc]
      exact paired_append (R.us_up t8 uvs) (.cons (rStr.up (SameT.upd hq8) r8) .nil)
    · rintro σ' H' ⟨sB, sT, vs, o1, o2, o3, hvs, uvs, rfl⟩
      rw [List.take_length] at uvs
      exact ss_ret (ev_joinK (Nat.le_trans (text_sum hL) (by decide)) ev_str (ev_nm (r := rVal) 1 rfl rfl) hvs uvs) (fun v9 H9 s9 rv => k v9 H9 (((hw.trans b1).trans sB).trans s9) rv)
/-! law_believed -/
abbrev sLbe : Stmt := top 90
abbrev nLbe : List Str := ["_law_lore", "_law_answers", "_law_bound", "_law_found", "_law_record", "_law_name", "_law_values"]
theorem scLbe : FnScope nLbe ["_law_lore", "_law_answers", "_law_bound"] (defScope sLbe) := ⟨rfl, rfl, rfl, by decide +kernel, rfl, by decide +kernel, by decide +kernel⟩
abbrev spLbe : Sp := SpL (aCons rLore (aCons rAs (aCons rInt aNil))) (fun i => WF i.1 ∧ i.2.1.length ≤ 100 ∧ ∀ x ∈ i.2.1, x.1 ∈ i.1.names) rStr fun i => lawBel i.1 i.2.1 i.2.2.1
theorem lawLies_def (L : Lore) (as : List (Str × Str)) (z : Str) : lawLies L as z = (as.filter fun x => !decide (lawAns L x.1 z = x.2)).map (·.1) := rfl
theorem ok_law_believed (T : Glo mg) (F : Fun K "_law_believed" "_law_believed" sLbe f fd) (cRe : Cal P w K mg base 1 "_law_records" spLre) (cAn : Cal P w K mg base 2 "_law_answer" spLan) : FnOk P w K mg base CX0 3 f fd ["_law_lore", "_law_answers", "_law_bound"] spLbe := by
  refine F.ok (N := nLbe) scLbe (fun vs H Q E h => ?_) (fun cdv A outer s H vs Q E hr h => ⟨wpSs _ _, wpSs_pss, ?_⟩)
  · obtain ⟨i, ⟨v, ws, rfl, _, v2, ws2, rfl, _, v3, ws3, rfl, _, rfl⟩, _⟩ := h
    rfl
  · obtain ⟨⟨L, as, b, _⟩, ⟨v, _, rfl, h1, v2, _, rfl, h2, v3, _, rfl, h3, rfl⟩, ⟨hW, hn, hnm⟩, k⟩ := h
    have hW : WF L := hW
    have hn : as.length ≤ 100 := hn
    have hnm : ∀ x ∈ as, x.1 ∈ L.names := hnm
    have h1 : rLore.rel H v L := h1
    have h2 : rAs.rel H v2 as := h2
    have h3 : v3 = .int b := h3
    subst h3
    have k : ∀ p vs H', H p = none → Same H H' → H' p = some (.lst vs) → rStr.us H' vs (lawBel L as b) → Q (.ref p) H' := k
    refine ss_setL (i := 3) (r := rStr) (el_lst el_nil (by simp)) (fun q vq H1 nq s1 hq hqu => ?_) scLbe.nd
    cases hqu
    have hw : Same H (wo H1 q) := fun b o e => by
      rw [wo_ne (ne_of_none e nq)]
      exact s1 _ _ e
    refine ss_for1 (j := 4) (r := rStr) (xs := valuesBy L.parts.length) (Hb := wo H1 q) (wo_same _ _) (ei_newlist (el_call cRe (hr.mono (by decide)) (ea_cons (ev_nm 0 rfl (rLore.up (Same.T hw) h1)) ea_nil) hW.p3)) rfl PassesOwn.never scLbe.nd (fun B H3 b1 b2 b3 fr => ?_)
    have bq : B q = none := fr q (by rw [hq]; simp) (wo_at _ _)
    have h8 : (valuesBy L.parts.length).length ≤ 8 := by
      rw [valuesBy_len]
      exact Nat.pow_le_pow_right (by decide) hW.p3
    refine ⟨fun m σ' H' => Same B H' ∧ SameT H3 H' ∧ ∃ vs o1 o2 o3, H' q = some (.lst vs) ∧ rStr.us H' vs (((valuesBy L.parts.length).take m).filter fun z => decide (((lawLies L as z).length : Int) ≤ b)) ∧ σ' = [some v, some v2, some (.int b), some (.ref q), o1, o2, o3],
      ⟨b2, SameT.refl _, [], _, _, _, b3 _ _ hq, .nil, rfl⟩, fun m σ' H' h => ⟨h.1, h.2.1⟩, ?_, ?_⟩
    · rintro m z v6 σ' Ha Hc hx ⟨sB, sT, vs, o1, o2, o3, hvs, uvs, rfl⟩ sA rx
      have hz := rec_of (List.mem_of_getElem? hx)
      have tC : SameT H Hc := (Same.T ((hw.trans b1).trans (sB.trans sA)))
      have hm : m < (valuesBy L.parts.length).length := (List.getElem?_eq_some_iff.mp hx).1
      have hvl : vs.length ≤ 8 := by
        rw [us_length uvs]
        exact Nat.le_trans (List.length_filter_le _ _) (by rw [List.length_take]; omega)
      refine ss_if (k := decide (((lawLies L as z).length : Int) ≤ b)) (et_le (int_of_nat (ev_lenL T.len ((el_fil2 (j1 := 5) (j2 := 6) (t := rStr) (f := fun x => x.1) (q := fun x => !decide (lawAns L x.1 z = x.2)) (by decide) rfl scLbe.nd (blkOk_by (N := nLbe) (sc := defScope sLbe) (by decide +kernel)) (ei_tup (ev_nm 1 rfl (rAs.up tC h2))) (by omega)
        (fun v w x H5 hx5 s5 r1 r2 s H0 C cl fp => et_neS (ev_call cAn hr (ea_cons (ev_nm 0 rfl (rLore.up (tC.trans (Same.T s5)) h1)) (ea_cons (ev_nm 5 rfl r1) (ea_cons (ev_nm 4 rfl (rStr.up (Same.T s5) rx)) ea_nil))) ⟨hW, hnm x hx5, hz⟩) (ev_nm 6 rfl r2))
        (fun v w x H5 hx5 s5 r1 r2 s H0 C cl fp => ev_nm 5 rfl r1)).eq (lawLies_def L as z).symm))) (ev_nm (r := rInt) 2 rfl rfl)) (fun hq' H5 s5 => ?_) (fun hq' H5 s5 => ss_nil (ss_nil ?_))
      · have hq5 := s5 _ _ (sA _ _ hvs)
        refine ss_app (r := rStr) (x := z) hq5 (by omega) (ev_nm (r := rVal) 3 rfl rfl) (ev_nm 4 rfl (rStr.up (Same.T s5) rx)) (fun v8 H8 s8 r8 => ss_nil (ss_nil ?_))
        have hq8 := s8 _ _ hq5
        have t8 : SameT Ha (upd H8 q (.lst (vs ++ [v8]))) := (Same.T (sA.trans (s5.trans s8))).trans (SameT.upd hq8)
        refine ⟨Same.mut (sB.trans (sA.trans (s5.trans s8))) bq, sT.trans t8, vs ++ [v8], _, _, _, upd_same, ?_, rfl⟩
        rw [List.take_add_one, hx, List.filter_append]
        have : [z].filter (fun z => decide (((lawLies L as z).length : Int) ≤ b)) = [z] := by simp only [List.filter_cons, hq', if_true, List.filter_nil]
        show rStr.us _ _ (_ ++ [z].filter _)
        rw [this]
        exact paired_append (R.us_up t8 uvs) (.cons (rStr.up (SameT.upd hq8) r8) .nil)
      · refine ⟨sB.trans (sA.trans s5), sT.trans (Same.T (sA.trans s5)), vs, _, _, _, s5 _ _ (sA _ _ hvs), ?_, rfl⟩
        rw [List.take_add_one, hx, List.filter_append]
        have : [z].filter (fun z => decide (((lawLies L as z).length : Int) ≤ b)) = [] := by simp only [List.filter_cons, hq', Bool.false_eq_true, if_false, List.filter_nil]
        show rStr.us _ _ (_ ++ [z].filter _)
        rw [this, List.append_nil]
        exact R.us_up (Same.T (sA.trans s5)) uvs
    · rintro σ' H' ⟨sB, sT, vs, o1, o2, o3, hvs, uvs, rfl⟩
      rw [List.take_length] at uvs
      refine ss_ret (r := rVal) (x := .ref q) (ev_nm 3 rfl rfl) fun v H7 s7 rv => ?_
      have rv : v = .ref q := rv
      subst rv
      exact k q vs H7 nq (((hw.trans b1).trans sB).trans s7) (s7 _ _ hvs) (R.us_up (Same.T s7) uvs)
end
end LK
set_option maxHeartbeats 2000000
namespace LK
open PySem PySem.Spec PyProof.Rows L2
/-! ### the shelf's text is read back -/
theorem joinL_mem {s : Nat} {S : List Nat} : ∀ {ps : List (List Nat)}, s ∈ TL.joinL S ps → s ∈ S ∨ ∃ p ∈ ps, s ∈ p
  | [], h => by cases h
  | [p], h => .inr ⟨p, List.mem_cons_self, h⟩
  | p :: q :: r, h => by
    rcases List.mem_append.mp (show s ∈ p ++ (S ++ TL.joinL S (q :: r)) from h) with h | h
    · exact .inr ⟨p, List.mem_cons_self, h⟩
    · rcases List.mem_append.mp h with h | h
      · exact .inl h
      · rcases joinL_mem h with h | ⟨z, hz, h⟩
        · exact .inl h
        · exact .inr ⟨z, List.mem_cons_of_mem _ hz, h⟩
theorem join_free {s : Nat} {y : Str} {ps : List Str} (hy : s ∉ TL.tl y) (hp : ∀ p ∈ ps, s ∉ TL.tl p) : s ∉ TL.tl (Txt.join y ps) := fun h => by
  rw [TL.join_eq, TL.tl_join] at h
  rcases joinL_mem h with h | ⟨p, hm, h⟩
  · exact hy h
  · obtain ⟨z, hz, rfl⟩ := List.mem_map.mp hm
    exact hp z hz h
theorem pool_free : ∀ n ∈ poolN ++ poolP ++ ([("keeper" : Str), "parts"] : List Str), (10 ∉ TL.tl n ∧ 32 ∉ TL.tl n ∧ 43 ∉ TL.tl n) ∧ isName n = true := by decide +kernel
theorem parts_free {L : Lore} (h : LoreOk L) {z : Str} (hz : z ∈ L.parts) : (10 ∉ TL.tl z ∧ 32 ∉ TL.tl z ∧ 43 ∉ TL.tl z) ∧ isName z = true := pool_free z (List.mem_append_left _ (List.mem_append_right _ (h.pp.sub z hz)))
theorem names_free {L : Lore} (h : LoreOk L) {z : Str} (hz : z ∈ L.names) : (10 ∉ TL.tl z ∧ 32 ∉ TL.tl z ∧ 43 ∉ TL.tl z) ∧ isName z = true := pool_free z (List.mem_append_left _ (List.mem_append_left _ (h.np.sub z hz)))
theorem word_free : (10 ∉ TL.tl ("keeper" : Str) ∧ 32 ∉ TL.tl ("keeper" : Str)) ∧ 10 ∉ TL.tl ("parts" : Str) ∧ 32 ∉ TL.tl ("parts" : Str) := by decide +kernel
theorem piece_free {L : Lore} (h : LoreOk L) {ps : List (List Str)} (hp : ps ∈ L.pieces) {pc : List Str} (hc : pc ∈ ps) : 10 ∉ TL.tl (Txt.join "+" pc) ∧ 32 ∉ TL.tl (Txt.join "+" pc) := by
  have hm := (piece_len h hp hc).2
  exact ⟨join_free (by decide +kernel) fun z hz => (parts_free h (hm z hz)).1.1, join_free (by decide +kernel) fun z hz => (parts_free h (hm z hz)).1.2.1⟩
theorem split_piece {L : Lore} (h : LoreOk L) {ps : List (List Str)} (hp : ps ∈ L.pieces) {pc : List Str} (hc : pc ∈ ps) : Txt.split (Txt.join "+" pc) plus = pc :=
  TL.split_join (y := plus) (s := 43) (S := []) (by decide +kernel) (by decide +kernel) ((h.pcs ps hp).2.2 pc hc).1 fun z hz => (parts_free h ((piece_len h hp hc).2 z hz)).1.2.2
theorem areUnlike_of {xs : List Str} (h : xs.Nodup) : areUnlike xs = true := by
  unfold areUnlike
  refine all_true fun x hx => ?_
  obtain ⟨m, hm⟩ := List.mem_iff_getElem?.mp hx
  have h2 := numbered_snd hm
  have h3 : x.1 = m := by
    unfold numbered at hm
    rw [List.getElem?_zip_eq_some] at hm
    have := hm.1
    rw [List.getElem?_range (by
      have := (List.getElem?_eq_some_iff.mp hm.1).1
      simpa using this)] at this
    exact (Option.some.inj this).symm
  rw [h3]
  have : x.2 ∉ xs.take m := fun hmem => by
    obtain ⟨j, hj, e⟩ := List.mem_iff_getElem.mp hmem
    have hjm : j < m := by rw [List.length_take] at hj; omega
    obtain ⟨hlt, e2⟩ := List.getElem?_eq_some_iff.mp h2
    rw [List.getElem_take] at e
    have := (List.getElem_inj h).mp (e.trans e2.symm)
    omega
  simpa using this
def kinOf (x : Str × List (List Str)) : KIn := ⟨rowOf x, x.1, x.2.map (fun pc => Txt.join "+" pc), x.2⟩
def tinOf (L : Lore) : TIn := ⟨textOf L, headOf L, L.parts, (L.names.zip L.pieces).map kinOf⟩
theorem lore_tin {L : Lore} (h : LoreOk L) : loreOf (tinOf L) = L := by
  obtain ⟨parts, names, pieces⟩ := L
  have hl : pieces.length = names.length := h.len
  show (⟨parts, ((names.zip pieces).map kinOf).map (·.name), ((names.zip pieces).map kinOf).map (·.pss)⟩ : Lore) = ⟨parts, names, pieces⟩
  rw [List.map_map, List.map_map]
  have e1 : (names.zip pieces).map ((fun k : KIn => k.name) ∘ kinOf) = names := List.map_fst_zip (Nat.le_of_eq hl.symm)
  have e2 : (names.zip pieces).map ((fun k : KIn => k.pss) ∘ kinOf) = pieces := List.map_snd_zip (Nat.le_of_eq hl)
  rw [e1, e2]
theorem row_free {L : Lore} (h : LoreOk L) {x : Str × List (List Str)} (hx : x ∈ L.names.zip L.pieces) : 10 ∉ TL.tl (rowOf x) := by
  have hm := List.of_mem_zip hx
  refine join_free (by decide +kernel) fun z hz => ?_
  rcases List.mem_append.mp hz with hz | hz
  · rcases List.mem_cons.mp hz with e | hz
    · rw [e]; exact word_free.1.1
    · have : z = x.1 := by simpa using hz
      rw [this]; exact (names_free h hm.1).1.1
  · obtain ⟨pc, hpc, rfl⟩ := List.mem_map.mp hz
    exact (piece_free h hm.2 hpc).1
theorem keeper_ok {L : Lore} (h : LoreOk L) {x : Str × List (List Str)} (hx : x ∈ L.names.zip L.pieces) : KeeperOk L.parts (rowOf x) x.1 (x.2.map fun pc => Txt.join "+" pc) x.2 := by
  have hm := List.of_mem_zip hx
  have hp := h.pcs x.2 hm.2
  refine ⟨Nat.le_trans (rowOf_len h hx) (by decide), ?_, by rw [List.length_map]; exact hp.1, by rw [List.length_map]; exact hp.2.1, Nat.le_trans (names_len h _ hm.1) (by decide), (names_free h hm.1).2, ?_, ?_⟩
  · refine TL.split_join (y := blank) (s := 32) (S := []) (by decide +kernel) (by decide +kernel) (by simp) fun z hz => ?_
    rcases List.mem_append.mp hz with hz | hz
    · rcases List.mem_cons.mp hz with e | hz
      · rw [e]; exact word_free.1.2
      · have : z = x.1 := by simpa using hz
        rw [this]; exact (names_free h hm.1).1.2.1
    · obtain ⟨pc, hpc, rfl⟩ := List.mem_map.mp hz
      exact (piece_free h hm.2 hpc).2
  · rw [List.map_map]
    have : x.2.map ((fun w => Txt.split w plus) ∘ fun pc => Txt.join "+" pc) = x.2.map id := List.map_congr_left fun pc hpc => split_piece h hm.2 hpc
    rw [this, List.map_id]
  · intro w hw
    obtain ⟨pc, hpc, rfl⟩ := List.mem_map.mp hw
    have hs := split_piece h hm.2 hpc
    rw [hs]
    refine ⟨Nat.le_trans (Nat.le_trans (join_len _ _) (plus_len h hm.2 hpc)) (by decide), Nat.le_trans h.p3 (by decide), hs, (hp.2.2 pc hpc).2, fun n hn => (poolP_ok n (h.pp.sub n ((piece_len h hm.2 hpc).2 n hn))).1⟩
theorem shelf_tin {L : Lore} (h : LoreOk L) : ShelfOk (tinOf L) := by
  have hz : (L.names.zip L.pieces).length = L.names.length := by rw [List.length_zip, h.len, Nat.min_self]
  have hkn : (tinOf L).ks.map (·.name) = L.names := congrArg Lore.names (lore_tin h)
  refine ⟨⟨?_, ?_, ?_, ?_, ?_, ?_, ?_⟩, ?_, ?_⟩
  · exact Nat.le_trans (Nat.le_trans (join_len _ _) (text_sum h)) (by decide)
  · have : Txt.split (textOf L) feed = [headOf L] ++ (L.names.zip L.pieces).map rowOf := by
      refine TL.split_join (y := feed) (s := 10) (S := []) (by decide +kernel) (by decide +kernel) (by simp) fun z hz => ?_
      rcases List.mem_append.mp hz with hz | hz
      · have : z = headOf L := by simpa using hz
        rw [this]
        refine join_free (by decide +kernel) fun z hz => ?_
        rcases List.mem_append.mp hz with hz | hz
        · have : z = "parts" := by simpa using hz
          rw [this]; exact word_free.2.1
        · exact (parts_free h hz).1.1
      · obtain ⟨x, hx, rfl⟩ := List.mem_map.mp hz
        exact row_free h hx
    show Txt.split (textOf L) feed = headOf L :: ((L.names.zip L.pieces).map kinOf).map (·.line)
    rw [this, List.map_map]
    rfl
  · refine ⟨Nat.le_trans (headOf_len h) (by decide), ?_, h.p1, Nat.le_trans h.p3 (by decide), areUnlike_of (h.pp.nd poolP_nd), fun n hn => ⟨Nat.le_trans (parts_len h n hn) (by decide), (parts_free h hn).2⟩⟩
    refine TL.split_join (y := blank) (s := 32) (S := []) (by decide +kernel) (by decide +kernel) (by simp) fun z hz => ?_
    rcases List.mem_append.mp hz with hz | hz
    · have : z = "parts" := by simpa using hz
      rw [this]; exact word_free.2.2
    · exact (parts_free h hz).1.2.1
  · intro k hk
    obtain ⟨x, hx, rfl⟩ := List.mem_map.mp hk
    exact keeper_ok h hx
  · rw [hkn]; exact h.np.nd poolN_nd
  · show 2 ≤ ((L.names.zip L.pieces).map kinOf).length
    rw [List.length_map, hz]; exact h.n2
  · show ((L.names.zip L.pieces).map kinOf).length ≤ 6
    rw [List.length_map, hz]; exact h.n6
  · rw [lore_tin h]
    exact ⟨h.n2, h.n6, fun n hn => ⟨Nat.le_trans (names_len h n hn) (by decide), (names_free h hn).2⟩, areUnlike_of (h.np.nd poolN_nd)⟩
  · rw [lore_tin h]
    exact fun ps hp => (h.pcs ps hp).2.1
end LK
set_option maxHeartbeats 4000000
namespace LK
open PySem PySem.Spec PyProof.Rows L2
section
variable {X : Cx} {a b c e : Expr} {σ : L2.St} {H : Hp} {pos p : Pos}
theorem ev_allK {xs : List Bool} {q : Addr} {vs : List V} (hc : X.calm = true) (hm : X.mg "all" = none) (ha : Ev X a σ H rVal (.ref q)) (hq : H q = some (.lst vs)) (hv : rBool.us H vs xs) (hg : Gl X "all" := by rfl) (he : starEach [a] X.env = (false, eval a X.env) :: starEach [] X.env := by rfl) (hpl : (backTo pos (starEach [] X.env)).any (·.1) = false := by rfl) :
    Ev X (.Call (.Name "all" p) [a] [] pos) σ H rBool (xs.all id) := ev_b1 (cr_all hc) (by decide +kernel) hm ha (fun v H1 Q s rv q' => ⟨q, xs, by rw [show v = _ from rv], by rw [← us_bool hv]; exact SqL.of (s _ _ hq), q' _ H1 (Same.refl _) rfl⟩) hg (by decide) (by decide) he hpl
theorem ev_anyK {xs : List Bool} {q : Addr} {vs : List V} (hc : X.calm = true) (hm : X.mg "any" = none) (ha : Ev X a σ H rVal (.ref q)) (hq : H q = some (.lst vs)) (hv : rBool.us H vs xs) (hg : Gl X "any" := by rfl) (he : starEach [a] X.env = (false, eval a X.env) :: starEach [] X.env := by rfl) (hpl : (backTo pos (starEach [] X.env)).any (·.1) = false := by rfl) :
    Ev X (.Call (.Name "any" p) [a] [] pos) σ H rBool (xs.any id) := ev_b1 (cr_any hc) (by decide +kernel) hm ha (fun v H1 Q s rv q' => ⟨q, xs, by rw [show v = _ from rv], by rw [← us_bool hv]; exact SqL.of (s _ _ hq), q' _ H1 (Same.refl _) rfl⟩) hg (by decide) (by decide) he hpl
end
theorem us_vals {H : Hp} : ∀ vs : List V, rVal.us H vs vs
  | [] => .nil
  | _ :: r => .cons rfl (us_vals r)
theorem Ev.to' {α : Type} {X : Cx} {e : Expr} {σ : L2.St} {H : Hp} {v : V} {r : R α} {x : α} (h : Ev X e σ H rVal v) (q : r.rel H v x) : Ev X e σ H r x := fun H1 s Q k => h H1 s Q fun w H2 s2 rw => by
  have rw : w = v := rw
  subst rw
  exact k w H2 s2 (r.up (Same.T (s.trans s2)) q)
/-! ### the mirror -/
def marksL (L : Lore) (recs : List Str) (x : Str × Str) : List Bool := recs.map fun z => !decide (lawAns L x.1 z = x.2)
/-- 0: lied by all, 2: by some, 1: by none -/
def kindL (L : Lore) (recs : List Str) (x : Str × Str) : Nat := if (marksL L recs x).all id then 0 else if (marksL L recs x).any id then 2 else 1
def whoL (L : Lore) (as : List (Str × Str)) (recs : List Str) : List (List Str) := [0, 1, 2].map fun k => (as.filter fun x => decide (kindL L recs x = k)).map (·.1)
def lawStrs : Nat → List Str
  | 0 => [""]
  | n + 1 => (lawStrs n).map (fun a => a ++ ("0" : Str)) ++ (lawStrs n).map (fun a => a ++ ("1" : Str))
theorem lawStrs_len : ∀ n, (lawStrs n).length = 2 ^ n
  | 0 => rfl
  | n + 1 => by
    have ih := lawStrs_len n
    show ((lawStrs n).map _ ++ (lawStrs n).map _).length = _
    rw [List.length_append, List.length_map, List.length_map, ih, Nat.pow_succ]
    omega
theorem lawStrs_str : ∀ {n : Nat} {z : Str}, z ∈ lawStrs n → z.length = n
  | 0, z, h => by
    have : z = "" := by simpa [lawStrs] using h
    subst this; rfl
  | n + 1, z, h => by
    rcases List.mem_append.mp (show z ∈ (lawStrs n).map _ ++ (lawStrs n).map _ from h) with h | h <;>
    · obtain ⟨a, ha, rfl⟩ := List.mem_map.mp h
      rw [app_len, lawStrs_str ha]; rfl
def lawLess (L : Lore) (as : List (Str × Str)) (b : Int) (n : Str) : Bool := (lawStrs (L.pieces.getD (L.names.idxOf n) []).length).all fun z => decide ((lawBel L (as ++ [(n, z)]) b).length < (lawBel L as b).length)
section
variable {P : Program} {w : World} {K : PySem.W.Frag} {mg : Str → Option Value} {base : Heap} {f C CC : Addr} {fd : FuncData}
/-! law_who_lied -/
abbrev sLwl : Stmt := top 92
abbrev nLwl : List Str := ["_law_lore", "_law_answers", "_law_all_records", "_law_found", "_law_name", "_law_values", "_law_marks", "_law_record", "_law_row"]
theorem scLwl : FnScope nLwl ["_law_lore", "_law_answers", "_law_all_records"] (defScope sLwl) := ⟨rfl, rfl, rfl, by decide +kernel, rfl, by decide +kernel, by decide +kernel⟩
abbrev spLwl : Sp := SpF (aCons rLore (aCons rAs (aConsS (rLst rStr) aNil))) (fun i => WF i.1 ∧ i.2.1.length ≤ 100 ∧ (∀ x ∈ i.2.1, x.1 ∈ i.1.names) ∧ i.2.2.1.length ≤ 1000 ∧ ∀ z ∈ i.2.2.1, IsRec i.1.parts.length z) (rTup (rTup rStr)) fun i => whoL i.1 i.2.1 i.2.2.1
theorem part_step {L : Lore} {recs : List Str} {as : List (Str × Str)} {m k : Nat} {x : Str × Str} (hx : as[m]? = some x) : (((as.take (m + 1)).filter fun x => decide (kindL L recs x = k)).map (·.1)) = (((as.take m).filter fun x => decide (kindL L recs x = k)).map (·.1)) ++ (if kindL L recs x = k then [x.1] else []) := by
  rw [List.take_add_one, hx, List.filter_append, List.map_append]
  congr 1
  by_cases h : kindL L recs x = k <;> simp [h]
theorem ok_law_who_lied (T : Glo mg) (F : Fun K "_law_who_lied" "_law_who_lied" sLwl f fd) (cAn : Cal P w K mg base 2 "_law_answer" spLan) : FnOk P w K mg base CX0 3 f fd ["_law_lore", "_law_answers", "_law_all_records"] spLwl := by
  refine F.ok (N := nLwl) scLwl (fun vs H Q E h => ?_) (fun cdv A outer s H vs Q E hr h => ⟨wpSs _ _, wpSs_pss, ?_⟩)
  · obtain ⟨i, ⟨v, ws, rfl, _, v2, ws2, rfl, _, v3, ws3, rfl, _, rfl⟩, _⟩ := h
    rfl
  · obtain ⟨⟨L, as, recs, _⟩, ⟨v, _, rfl, h1, v2, _, rfl, h2, v3, _, rfl, ⟨rp, rvs, rfl, hrp, hru⟩, rfl⟩, ⟨hW, hn, hnm, hrl, hrec⟩, k⟩ := h
    have hW : WF L := hW
    have hn : as.length ≤ 100 := hn
    have hnm : ∀ x ∈ as, x.1 ∈ L.names := hnm
    have hrl : recs.length ≤ 1000 := hrl
    have hrec : ∀ z ∈ recs, IsRec L.parts.length z := hrec
    have h1 : rLore.rel H v L := h1
    have h2 : rAs.rel H v2 as := h2
    have hru : rStr.us H rvs recs := hru
    have k : ∀ v H', Same H H' → (rTup (rTup rStr)).rel H' v (whoL L as recs) → Q v H' := k
    refine ss_setW (i := 3) (wpE_of (pe_tup (pa_cons (pe_lst pa_nil) (pa_cons (pe_lst pa_nil) (pa_cons (pe_lst pa_nil) pa_nil)))) ?_) scLwl.nd
    refine ⟨sz_of (by simp), fun l0 n0 => ⟨sz_of (by simp), fun l1 n1 => ⟨sz_of (by simp), fun l2 n2 => ⟨sz_of (by simp), fun t nt => ?_⟩⟩⟩⟩
    have d10 : l1 ≠ l0 := fun e => by rw [e, upd_same] at n1; cases n1
    have d21 : l2 ≠ l1 := fun e => by rw [e, upd_same] at n2; cases n2
    have d20 : l2 ≠ l0 := fun e => by rw [e, upd_ne d10.symm, upd_same] at n2; cases n2
    have n1' : H l1 = none := by rw [upd_ne d10] at n1; exact n1
    have n2' : H l2 = none := by rw [upd_ne d21, upd_ne d20] at n2; exact n2
    have dt2 : t ≠ l2 := fun e => by rw [e, upd_same] at nt; cases nt
    have dt1 : t ≠ l1 := fun e => by rw [e, upd_ne d21.symm, upd_same] at nt; cases nt
    have dt0 : t ≠ l0 := fun e => by rw [e, upd_ne d20.symm, upd_ne d10.symm, upd_same] at nt; cases nt
    have nt' : H t = none := by rw [upd_ne dt2, upd_ne dt1, upd_ne dt0] at nt; exact nt
    have hl0 : upd (upd (upd (upd H l0 (.lst [])) l1 (.lst [])) l2 (.lst [])) t (.tup [V.ref l0, .ref l1, .ref l2]) l0 = some (.lst []) := by rw [upd_ne dt0.symm, upd_ne d20.symm, upd_ne d10.symm, upd_same]
    have hl1 : upd (upd (upd (upd H l0 (.lst [])) l1 (.lst [])) l2 (.lst [])) t (.tup [V.ref l0, .ref l1, .ref l2]) l1 = some (.lst []) := by rw [upd_ne dt1.symm, upd_ne d21.symm, upd_same]
    have hl2 : upd (upd (upd (upd H l0 (.lst [])) l1 (.lst [])) l2 (.lst [])) t (.tup [V.ref l0, .ref l1, .ref l2]) l2 = some (.lst []) := by rw [upd_ne dt2.symm, upd_same]
    have ht : upd (upd (upd (upd H l0 (.lst [])) l1 (.lst [])) l2 (.lst [])) t (.tup [V.ref l0, .ref l1, .ref l2]) t = some (.tup [V.ref l0, .ref l1, .ref l2]) := upd_same
    have sA : Same H (upd (upd (upd (upd H l0 (.lst [])) l1 (.lst [])) l2 (.lst [])) t (.tup [V.ref l0, .ref l1, .ref l2])) := ((Same.new n0).trans ((Same.new n1).trans (Same.new n2))).trans (Same.new nt)
    generalize upd (upd (upd (upd H l0 (.lst [])) l1 (.lst [])) l2 (.lst [])) t (.tup [V.ref l0, .ref l1, .ref l2]) = HA at hl0 hl1 hl2 ht sA
    have hw : Same H (wo (wo (wo HA l0) l1) l2) := fun b o e => by
      rw [wo_ne (ne_of_none e n2'), wo_ne (ne_of_none e n1'), wo_ne (ne_of_none e n0)]
      exact sA _ _ e
    have htw : (wo (wo (wo HA l0) l1) l2) t = some (.tup [V.ref l0, .ref l1, .ref l2]) := by rw [wo_ne dt2, wo_ne dt1, wo_ne dt0]; exact ht
    refine ss_for2 (j1 := 4) (j2 := 5) (r := rStr) (r' := rStr) (xs := as) (Hb := wo (wo (wo HA l0) l1) l2) (((wo_same _ _).trans (wo_same _ _)).trans (wo_same _ _)) (ei_tup (ev_nm 1 rfl (rAs.up (Same.T hw) h2))) rfl PassesOwn.never scLwl.nd (fun B H3 b1 b2 b3 fr => ?_)
    have c2 : B l2 = none := fr l2 (by rw [hl2]; simp) (wo_at _ _)
    have c1 : B l1 = none := fr l1 (by rw [hl1]; simp) (by rw [wo_ne d21.symm, wo_at])
    have c0 : B l0 = none := fr l0 (by rw [hl0]; simp) (by rw [wo_ne d20.symm, wo_ne d10.symm, wo_at])
    have htB := b1 _ _ htw
    refine ⟨fun m σ' H' => Same B H' ∧ SameT H3 H' ∧ ∃ v0 v1 v2' o1 o2 o3 o4 o5, H' l0 = some (.lst v0) ∧ H' l1 = some (.lst v1) ∧ H' l2 = some (.lst v2') ∧ rStr.us H' v0 (((as.take m).filter fun x => decide (kindL L recs x = 0)).map (·.1)) ∧ rStr.us H' v1 (((as.take m).filter fun x => decide (kindL L recs x = 1)).map (·.1)) ∧ rStr.us H' v2' (((as.take m).filter fun x => decide (kindL L recs x = 2)).map (·.1)) ∧ σ' = [some v, some v2, some (.ref rp), some (.ref t), o1, o2, o3, o4, o5],
      ⟨b2, SameT.refl _, [], [], [], _, _, _, _, _, b3 _ _ hl0, b3 _ _ hl1, b3 _ _ hl2, .nil, .nil, .nil, rfl⟩, fun m σ' H' h => ⟨h.1, h.2.1⟩, ?_, ?_⟩
    · rintro m x v6 v7 σ' Ha Hc hx ⟨sB, sT, v0, v1, v2', o1, o2, o3, o4, o5, e0, e1, e2, u0, u1, u2, rfl⟩ sC r1 r2
      have hm : m < as.length := (List.getElem?_eq_some_iff.mp hx).1
      have hmem := hnm x (List.mem_of_getElem? hx)
      have sHc : Same H Hc := (hw.trans b1).trans (sB.trans sC)
      refine ss_setLc1 (i := 6) (j := 7) (t := rBool) (f := fun z => !decide (lawAns L x.1 z = x.2)) (q := fun _ => true) rfl scLwl.nd (blkOk_by (N := nLwl) (sc := defScope sLwl) (by decide +kernel)) (ei_list (ev_nm (r := rVal) 2 rfl rfl) (sHc _ _ hrp) (R.us_up (Same.T sHc) hru)) (by omega)
        (fun v' z H5 hz s5 rz s H0 C cl fp => ⟨ef_nil, fun _ => ev_neS (ev_call cAn hr (ea_cons (ev_nm 0 rfl (rLore.up (Same.T (sHc.trans s5)) h1)) (ea_cons (ev_nm 4 rfl (rStr.up (Same.T s5) r1)) (ea_cons (ev_nm 7 rfl rz) ea_nil))) ⟨hW, hmem, hrec z hz⟩) (ev_nm 5 rfl (rStr.up (Same.T s5) r2))⟩)
        (fun mp mvs H5 nmp s5 hmp hmu => ?_) (sw_true rfl rfl rfl (by decide +kernel))
      rw [filter_true] at hmu
      have hmu : rBool.us H5 mvs (marksL L recs x) := hmu
      have hl : ∀ (u : List V) (j : Nat), rStr.us Ha u (((as.take m).filter fun x => decide (kindL L recs x = j)).map (·.1)) → u.length < 100000 := fun u j hu => by
        rw [us_length hu, List.length_map]
        exact Nat.lt_of_le_of_lt (List.length_filter_le _ _) (by rw [List.length_take]; omega)
      have sA5 : Same Ha H5 := sC.trans s5
      have ht5 := sA5 _ _ (sB _ _ htB)
      have hix : ∀ {X : Cx} {σ : L2.St} {a b : Expr} {pos : Pos} (i : Nat) (li : Addr) (hi : [V.ref l0, .ref l1, .ref l2][i]? = some (.ref li)) (ha : Ev X a σ H5 rVal (.ref t)) (hb : Ev X b σ H5 rInt (i : Int)) (hs : PlainIx b), Ev X (.Subscript a b pos) σ H5 rVal (.ref li) := fun i li hi ha hb hs =>
        ev_ixT (r := rVal) (i := i) hi (ha.to' ⟨t, _, rfl, .inl ht5, us_vals _⟩) hb hs
      have up5 : ∀ {u : List V} {ys : List Str} (hu : rStr.us Ha u ys) {H8 : Hp} {li : Addr} {wv : List V} {o : HO}, Same H5 H8 → H8 li = some (.lst wv) → rStr.us (upd H8 li o) u ys := fun {_ _} hu {_ _ _ _} s8 h8 => R.us_up (((Same.T (sA5.trans s8))).trans (SameT.upd h8)) hu
      cases hA : (marksL L recs x).all id with
      | true =>
        have hk : kindL L recs x = 0 := by unfold kindL; rw [hA]; rfl
        refine ss_app (l := l0) (r := rStr) (x := x.1) (sA5 _ _ e0) (hl _ _ u0) (hix 0 l0 rfl (ev_nm (r := rVal) 3 rfl rfl) (ev_if (k := true) ((et_val (ev_allK rfl T.all (ev_nm (r := rVal) 6 rfl rfl) hmp hmu)).eq hA) (fun _ => ev_int) (fun z => Bool.noConfusion z)) (fun _ _ => rfl)) (ev_nm 4 rfl (rStr.up (Same.T s5) r1)) (fun v8 H8 s8 r8 => ss_nil ?_)
        have q0 := s8 _ _ (sA5 _ _ e0)
        refine ⟨Same.mut (sB.trans (sA5.trans s8)) c0, sT.trans ((Same.T (sA5.trans s8)).trans (SameT.upd q0)), _, _, _, _, _, _, _, _, upd_same, by rw [upd_ne d10]; exact s8 _ _ (sA5 _ _ e1), by rw [upd_ne d20]; exact s8 _ _ (sA5 _ _ e2), ?_, ?_, ?_, rfl⟩
        · rw [part_step hx, if_pos hk]
          exact paired_append (up5 u0 s8 q0) (.cons (rStr.up (SameT.upd q0) r8) .nil)
        · rw [part_step hx, if_neg (by rw [hk]; decide), List.append_nil]
          exact up5 u1 s8 q0
        · rw [part_step hx, if_neg (by rw [hk]; decide), List.append_nil]
          exact up5 u2 s8 q0
      | false =>
        cases hB : (marksL L recs x).any id with
        | true =>
          have hk : kindL L recs x = 2 := by unfold kindL; rw [hA, hB]; rfl
          refine ss_app (l := l2) (r := rStr) (x := x.1) (sA5 _ _ e2) (hl _ _ u2) (hix 2 l2 rfl (ev_nm (r := rVal) 3 rfl rfl) (ev_if (k := false) ((et_val (ev_allK rfl T.all (ev_nm (r := rVal) 6 rfl rfl) hmp hmu)).eq hA) (fun z => Bool.noConfusion z) (fun _ => ev_if (k := true) ((et_val (ev_anyK rfl T.any (ev_nm (r := rVal) 6 rfl rfl) hmp hmu)).eq hB) (fun _ => ev_int) (fun z => Bool.noConfusion z))) (fun _ _ => rfl)) (ev_nm 4 rfl (rStr.up (Same.T s5) r1)) (fun v8 H8 s8 r8 => ss_nil ?_)
          have q0 := s8 _ _ (sA5 _ _ e2)
          refine ⟨Same.mut (sB.trans (sA5.trans s8)) c2, sT.trans ((Same.T (sA5.trans s8)).trans (SameT.upd q0)), _, _, _, _, _, _, _, _, by rw [upd_ne d20.symm]; exact s8 _ _ (sA5 _ _ e0), by rw [upd_ne d21.symm]; exact s8 _ _ (sA5 _ _ e1), upd_same, ?_, ?_, ?_, rfl⟩
          · rw [part_step hx, if_neg (by rw [hk]; decide), List.append_nil]
            exact up5 u0 s8 q0
          · rw [part_step hx, if_neg (by rw [hk]; decide), List.append_nil]
            exact up5 u1 s8 q0
          · rw [part_step hx, if_pos hk]
            exact paired_append (up5 u2 s8 q0) (.cons (rStr.up (SameT.upd q0) r8) .nil)
        | false =>
          have hk : kindL L recs x = 1 := by unfold kindL; rw [hA, hB]; rfl
          refine ss_app (l := l1) (r := rStr) (x := x.1) (sA5 _ _ e1) (hl _ _ u1) (hix 1 l1 rfl (ev_nm (r := rVal) 3 rfl rfl) (ev_if (k := false) ((et_val (ev_allK rfl T.all (ev_nm (r := rVal) 6 rfl rfl) hmp hmu)).eq hA) (fun z => Bool.noConfusion z) (fun _ => ev_if (k := false) ((et_val (ev_anyK rfl T.any (ev_nm (r := rVal) 6 rfl rfl) hmp hmu)).eq hB) (fun z => Bool.noConfusion z) (fun _ => ev_int))) (fun _ _ => rfl)) (ev_nm 4 rfl (rStr.up (Same.T s5) r1)) (fun v8 H8 s8 r8 => ss_nil ?_)
          have q0 := s8 _ _ (sA5 _ _ e1)
          refine ⟨Same.mut (sB.trans (sA5.trans s8)) c1, sT.trans ((Same.T (sA5.trans s8)).trans (SameT.upd q0)), _, _, _, _, _, _, _, _, by rw [upd_ne d10.symm]; exact s8 _ _ (sA5 _ _ e0), upd_same, by rw [upd_ne d21]; exact s8 _ _ (sA5 _ _ e2), ?_, ?_, ?_, rfl⟩
          · rw [part_step hx, if_neg (by rw [hk]; decide), List.append_nil]
            exact up5 u0 s8 q0
          · rw [part_step hx, if_pos hk]
            exact paired_append (up5 u1 s8 q0) (.cons (rStr.up (SameT.upd q0) r8) .nil)
          · rw [part_step hx, if_neg (by rw [hk]; decide), List.append_nil]
            exact up5 u2 s8 q0
    · rintro σ' H' ⟨sB, sT, v0, v1, v2', o1, o2, o3, o4, o5, e0, e1, e2, u0, u1, u2, rfl⟩
      rw [List.take_length] at u0 u1 u2
      have htE := sB _ _ htB
      have hfe : whoL L as recs = [V.ref l0, .ref l1, .ref l2].map fun v => if v = V.ref l0 then (as.filter fun x => decide (kindL L recs x = 0)).map (·.1) else if v = V.ref l1 then (as.filter fun x => decide (kindL L recs x = 1)).map (·.1) else (as.filter fun x => decide (kindL L recs x = 2)).map (·.1) := by
        have f1 : ¬ (V.ref l1 = V.ref l0) := fun e => d10 (by cases e; rfl)
        have f2 : ¬ (V.ref l2 = V.ref l0) := fun e => d20 (by cases e; rfl)
        have f3 : ¬ (V.ref l2 = V.ref l1) := fun e => d21 (by cases e; rfl)
        simp only [List.map_cons, List.map_nil, if_true, if_neg f1, if_neg f2, if_neg f3]
        rfl
      refine ss_ret ((ev_tuple T.tuple (el_map1 (j := 8) (r := rVal) (t := rTup rStr) (xs := [V.ref l0, .ref l1, .ref l2]) (f := fun v => if v = V.ref l0 then (as.filter fun x => decide (kindL L recs x = 0)).map (·.1) else if v = V.ref l1 then (as.filter fun x => decide (kindL L recs x = 1)).map (·.1) else (as.filter fun x => decide (kindL L recs x = 2)).map (·.1)) rfl scLwl.nd (blkOk_by (N := nLwl) (sc := defScope sLwl) (by decide +kernel)) (ei_tup (ev_nm (r := rTup rVal) 3 rfl ⟨t, _, rfl, .inl htE, us_vals _⟩)) (by simp) (fun v' x H5 hx s5 rx s H0 C cl fp => ?_))).eq hfe.symm) (fun v9 H9 s9 rv => k v9 H9 (((hw.trans b1).trans sB).trans s9) rv)
      have rx : v' = x := rx
      subst rx
      have hx : v' = V.ref l0 ∨ v' = V.ref l1 ∨ v' = V.ref l2 := by simpa using hx
      rcases hx with rfl | rfl | rfl
      · rw [if_pos rfl]
        exact (ev_tupleK T.tuple (ev_nm (r := rVal) 8 rfl rfl) (s5 _ _ e0) (R.us_up (Same.T s5) u0)).tupN
      · rw [if_neg (fun e => d10 (by cases e; rfl)), if_pos rfl]
        exact (ev_tupleK T.tuple (ev_nm (r := rVal) 8 rfl rfl) (s5 _ _ e1) (R.us_up (Same.T s5) u1)).tupN
      · rw [if_neg (fun e => d20 (by cases e; rfl)), if_neg (fun e => d21 (by cases e; rfl))]
        exact (ev_tupleK T.tuple (ev_nm (r := rVal) 8 rfl rfl) (s5 _ _ e2) (R.us_up (Same.T s5) u2)).tupN
end
end LK
set_option maxHeartbeats 4000000
namespace LK
open PySem PySem.Spec PyProof.Rows L2
section
variable {P : Program} {w : World} {K : PySem.W.Frag} {mg : Str → Option Value} {base : Heap} {f C CC : Addr} {fd : FuncData}
/-! law_does_lessen -/
abbrev sLdl : Stmt := top 93
abbrev nLdl : List Str := ["_law_lore", "_law_answers", "_law_bound", "_law_name", "_law_amount", "_law_strings", "_law_piece_here", "_law_string", "_law_values"]
theorem scLdl : FnScope nLdl ["_law_lore", "_law_answers", "_law_bound", "_law_name"] (defScope sLdl) := ⟨rfl, rfl, rfl, by decide +kernel, rfl, by decide +kernel, by decide +kernel⟩
abbrev spLdl : Sp := SpF (aCons rLore (aCons rAs (aCons rInt (aCons rStr aNil)))) (fun i => WF i.1 ∧ i.2.1.length ≤ 99 ∧ (∀ x ∈ i.2.1, x.1 ∈ i.1.names) ∧ i.2.2.2.1 ∈ i.1.names) rBool fun i => lawLess i.1 i.2.1 i.2.2.1 i.2.2.2.1
theorem ok_law_does_lessen (T : Glo mg) (F : Fun K "_law_does_lessen" "_law_does_lessen" sLdl f fd) (cBe : Cal P w K mg base 3 "_law_believed" spLbe) : FnOk P w K mg base CX0 4 f fd ["_law_lore", "_law_answers", "_law_bound", "_law_name"] spLdl := by
  refine F.ok (N := nLdl) scLdl (fun vs H Q E h => ?_) (fun cdv A outer s H vs Q E hr h => ⟨wpSs _ _, wpSs_pss, ?_⟩)
  · obtain ⟨i, ⟨v, ws, rfl, _, v2, ws2, rfl, _, v3, ws3, rfl, _, v4, ws4, rfl, _, rfl⟩, _⟩ := h
    rfl
  · obtain ⟨⟨L, as, b, nm, _⟩, ⟨v, _, rfl, h1, v2, _, rfl, h2, v3, _, rfl, h3, v4, _, rfl, h4, rfl⟩, ⟨hW, hn, hnm, hnn⟩, k⟩ := h
    have hW : WF L := hW
    have hn : as.length ≤ 99 := hn
    have hnm : ∀ x ∈ as, x.1 ∈ L.names := hnm
    have hnn : nm ∈ L.names := hnn
    have h1 : rLore.rel H v L := h1
    have h2 : rAs.rel H v2 as := h2
    have h3 : v3 = .int b := h3
    have h4 : v4 = .str nm := h4
    subst h3
    subst h4
    have hu : (A.deeper (envOfC "_law_does_lessen" (defScope sLdl) s.heap.objs.size f cdv)).units + 1 < cLine := by have := hr.units; omega
    obtain ⟨ps, e1, e2, e3⟩ := names_get hW hnn
    have e4 : L.pieces.getD (L.names.idxOf nm) [] = ps := by rw [List.getD_eq_getElem?_getD, e1]; rfl
    have hps2 := hW.two ps e3
    have k : ∀ v H', Same H H' → rBool.rel H' v (lawLess L as b nm) → Q v H' := k
    refine ss_cons (wpS_of (ps_asg (pe_tup (pa_cons wpE_pe (pa_cons wpE_pe pa_nil))) (pg_tup rfl (pgs_cons (pg_name (i := 4) scLdl.nd rfl (.inr rfl)) (pgs_cons (pg_name (i := 5) scLdl.nd rfl (.inl rfl)) pgs_nil))) (by rfl) (by rfl)) ?_)
    refine wpE_ev (ev_lenL T.len (el_call cBe hr (ea_cons (ev_nm 0 rfl h1) (ea_cons (ev_nm 1 rfl h2) (ea_cons (ev_nm (r := rInt) 2 rfl rfl) ea_nil))) ⟨hW, by show as.length ≤ 100; omega, hnm⟩)) fun va H1 s1 ra => ?_
    have ra : va = .int ((lawBel L as b).length : Nat) := ra
    subst ra
    refine wpE_evL (r := rStr) (xs := [""]) (el_lst (el_cons ev_str el_nil) (by simp)) fun q vq H2 nq s2 hq hqu => ?_
    refine ⟨sz_of (by simp), fun t nt => ?_⟩
    refine ⟨t, _, rfl, SqT.of upd_same, rfl, _, _, rfl, _, _, rfl, rfl, ?_⟩
    have s3 : Same H (upd H2 t (.tup [.int ((lawBel L as b).length : Nat), .ref q])) := (s1.trans s2).trans (Same.new nt)
    have hq3 : upd H2 t (.tup [.int ((lawBel L as b).length : Nat), .ref q]) q = some (.lst vq) := by rw [upd_ne (ne_of_none hq nt)]; exact hq
    have hqu3 := R.us_up (Same.T (Same.new (o := .tup [.int ((lawBel L as b).length : Nat), .ref q]) nt)) hqu
    have nq' : H q = none := none_of_same s1 nq
    generalize upd H2 t (.tup [.int ((lawBel L as b).length : Nat), .ref q]) = HA at s3 hq3 hqu3
    refine ss_for1 (j := 6) (r := rTup rStr) (xs := ps) (Hb := HA) (Same.refl _) (ei_tup (ev_ixT (i := L.names.idxOf nm) (r := rTup (rTup rStr)) e1 (ev_lpieces hu (ev_nm 0 rfl (rLore.up (Same.T s3) h1))) (int_of_nat (ev_index e2 (fun m hm => idxOf_first hm) (ev_lnames hu (ev_nm 0 rfl (rLore.up (Same.T s3) h1))) (ev_nm (r := rStr) 3 rfl rfl))))) rfl PassesOwn.never scLdl.nd (fun B H3 b1 b2 b3 fr => ?_)
    refine ⟨fun m σ' H' => Same B H' ∧ SameT H3 H' ∧ ∃ q vs o1 o2 o3, H' q = some (.lst vs) ∧ rStr.us H' vs (lawStrs m) ∧ σ' = [some v, some v2, some (.int b), some (.str nm), some (.int ((lawBel L as b).length : Nat)), some (.ref q), o1, o2, o3],
      ⟨b2, SameT.refl _, q, vq, _, _, _, b3 _ _ hq3, R.us_up (Same.T b3) hqu3, rfl⟩, fun m σ' H' h => ⟨h.1, h.2.1⟩, ?_, ?_⟩
    · rintro m pc v6 σ' Ha Hc hx ⟨sB, sT, q, vs, o1, o2, o3, hvs, uvs, rfl⟩ sA rx
      have hm : m < ps.length := (List.getElem?_eq_some_iff.mp hx).1
      have hlen := lawStrs_len m
      have h2m : 2 ^ m ≤ 2 ^ 2 := Nat.pow_le_pow_right (by decide) (by omega)
      have hvc := sA _ _ hvs
      have uvc := R.us_up (Same.T sA) uvs
      refine ss_setL (i := 5) (r := rStr) (el_cat (by simp; omega) (el_map1 (j := 7) (t := rStr) (f := fun a => a ++ ("0" : Str)) rfl scLdl.nd (blkOk_by (N := nLdl) (sc := defScope sLdl) (by decide +kernel)) (ei_list (ev_nm (r := rVal) 5 rfl rfl) hvc uvc) (by omega) (fun v' x H5 hx s5 rx s H0 C cl fp => ev_addS (by rw [lawStrs_str hx]; have : (Str.ofString "0").length = 1 := rfl; rw [this]; omega) (ev_nm 7 rfl rx) ev_str))
        (el_map1 (j := 7) (t := rStr) (f := fun a => a ++ ("1" : Str)) rfl scLdl.nd (blkOk_by (N := nLdl) (sc := defScope sLdl) (by decide +kernel)) (ei_list (ev_nm (r := rVal) 5 rfl rfl) hvc uvc) (by omega) (fun v' x H5 hx s5 rx s H0 C cl fp => ev_addS (by rw [lawStrs_str hx]; have : (Str.ofString "1").length = 1 := rfl; rw [this]; omega) (ev_nm 7 rfl rx) ev_str))) (fun q' vs' H5 nq' s5 hq' hu' => ss_nil ?_) scLdl.nd
      exact ⟨sB.trans (sA.trans s5), sT.trans (Same.T (sA.trans s5)), q', vs', _, _, _, hq', hu', rfl⟩
    · rintro σ' H' ⟨sB, sT, q, vs, o1, o2, o3, hvs, uvs, rfl⟩
      have sE : Same H H' := (s3.trans b1).trans sB
      have hlen := lawStrs_len ps.length
      have h2m : 2 ^ ps.length ≤ 2 ^ 2 := Nat.pow_le_pow_right (by decide) hps2
      have ef : lawLess L as b nm = ((lawStrs ps.length).map fun z => decide (((lawBel L (as ++ [(nm, z)]) b).length : Int) < ((lawBel L as b).length : Int))).all id := by
        unfold lawLess
        rw [e4, List.all_map]
        congr 1
        funext z
        simp
      refine ss_ret ((ev_all rfl T.all (el_map1 (j := 8) (t := rBool) (f := fun z => decide (((lawBel L (as ++ [(nm, z)]) b).length : Int) < ((lawBel L as b).length : Int))) rfl scLdl.nd (blkOk_by (N := nLdl) (sc := defScope sLdl) (by decide +kernel)) (ei_list (ev_nm (r := rVal) 5 rfl rfl) hvs uvs) (by omega)
        (fun v' z H5 hz s5 rz s H0 C cl fp => ev_lt (int_of_nat (ev_lenL T.len (el_call cBe hr (o := lawBel L (as ++ [(nm, z)]) b) (ea_cons (ev_nm 0 rfl (rLore.up (Same.T (sE.trans s5)) h1)) (ea_cons (ev_catT (by simp; omega) (ev_nm 1 rfl (rAs.up (Same.T (sE.trans s5)) h2)) (ev_tup (el_cons (ev_pair (ev_nm (r := rStr) 3 rfl rfl) (ev_nm 8 rfl rz)) el_nil) (by simp))) (ea_cons (ev_nm (r := rInt) 2 rfl rfl) ea_nil))) ⟨hW, by show (as ++ [(nm, z)]).length ≤ 100; simp; omega, fun x hx => by
          rcases List.mem_append.mp hx with h | h
          · exact hnm x h
          · simp at h; rw [h]; exact hnn⟩))) (ev_nm (r := rInt) 4 rfl rfl)))).eq ef.symm) (fun v9 H9 s9 rv => k v9 H9 (sE.trans s9) rv)
/-! law_pot -/
abbrev sLpo : Stmt := top 70
abbrev nLpo : List Str := ["_law_script", "_law_place", "_law_cell", "_law_own", "_law_small"]
theorem scLpo : FnScope nLpo ["_law_script", "_law_place"] (defScope sLpo) := ⟨rfl, rfl, rfl, by decide +kernel, rfl, by decide +kernel, by decide +kernel⟩
def spLpo (K : PySem.W.Frag) : Sp := fun vs H Q _ => ∃ (a : Addr) (ns : List Int) (i : Nat), vs = [.ref a, .int (i : Int)] ∧ SqL K H a (ns.map V.int) ∧ i ≤ 1000 ∧ ∀ l H', H l = none → Same H H' → Pot l 0 H' → Q (.ref l) H'
theorem ev_absV {X : Cx} {a : Expr} {σ : L2.St} {H : Hp} {p pos : Pos} {i : Int} (hm : X.mg "abs" = none) (ha : Ev X a σ H rInt i) (hg : Gl X "abs" := by rfl) (he : starEach [a] X.env = (false, eval a X.env) :: starEach [] X.env := by rfl) (hpl : (backTo pos (starEach [] X.env)).any (·.1) = false := by rfl) : ∃ j : Int, Ev X (.Call (.Name "abs" p) [a] [] pos) σ H rInt j := ⟨_, ev_abs hm ha hg he hpl⟩
theorem ok_law_pot (T : Glo mg) (F : Fun K "_law_pot" "_law_pot" sLpo f fd) : FnOk P w K mg base CX0 1 f fd ["_law_script", "_law_place"] (spLpo K) := by
  refine F.ok (N := nLpo) scLpo (fun vs H Q E h => ?_) (fun cdv A outer s H vs Q E hr h => ⟨wpSs _ _, wpSs_pss, ?_⟩)
  · obtain ⟨a, ns, i, rfl, _⟩ := h
    rfl
  · obtain ⟨a, ns, i, rfl, hS, hi, k⟩ := h
    have hcell : ∃ c : Int, (if i < ns.length then ns[i]? = some c else 311 * (i : Int) + 173 = c) := by
      by_cases h : i < ns.length
      · exact ⟨ns[i], by rw [if_pos h]; exact List.getElem?_eq_getElem h⟩
      · exact ⟨_, by rw [if_neg h]⟩
    obtain ⟨c, hc⟩ := hcell
    have hm1 : CMul 311 (i : Int) := .inl ⟨by decide, by decide⟩
    refine ss_set (i := 2) (r := rInt) (x := c) (ev_if (k := decide ((i : Int) < ((ns.map V.int).length : Int))) (et_lt (ev_nm (r := rInt) 1 rfl rfl) (int_of_nat (ev_b1 call_len_seq PySem.boot_len T.len (ev_nm (r := rVal) (x := .ref a) 0 rfl rfl) (fun v H1 Q s rv q => ⟨a, ns.map V.int, by rw [show v = _ from rv], .inl (s.seq hS), q _ H1 (Same.refl _) rfl⟩)))) (fun hq => ?_) (fun hq => ?_)) (fun v2 H1 s1 r1 => ?_) scLpo.nd
    · have hlt : i < ns.length := by simp at hq; exact hq
      rw [if_pos hlt] at hc
      exact fun H1 s Q q => wpE_of (pe_ix ix_list wpE_pe wpE_pe (fun _ _ => rfl)) (wpE_ev (ev_nm (r := rVal) (x := .ref a) 0 rfl rfl) fun v H2 s2 rv => wpE_ev (ev_nm (r := rInt) (x := (i : Int)) 1 rfl rfl) fun w H3 s3 rw' => ⟨a, ns.map V.int, (i : Int), .int c, rv, rw', (s3.seq (s2.seq (s.seq hS))), atI_nat (by rw [List.getElem?_map, hc]; rfl), q _ H3 (s2.trans s3) rfl⟩)
    · have hlt : ¬ i < ns.length := by simp at hq; omega
      rw [if_neg hlt] at hc
      exact (ev_add (ev_mul hm1 ev_int (ev_nm (r := rInt) 1 rfl rfl)) ev_int).eq hc
    have r1 : v2 = .int c := r1
    subst r1
    have hp1 : CPow 10 60 := ⟨by decide, by decide, by decide⟩
    have hp2 : CPowW (10 ^ (60 : Int).toNat) 5 := ⟨by decide, by decide +kernel⟩
    have hp3 : CPow 10 18 := ⟨by decide, by decide, by decide⟩
    have hmb : ∀ (x : Int) (k : Bool), CMul x (if k then 1 else 0) := fun x k => .inr (by cases k <;> exact ⟨by decide, by decide⟩)
    refine ss_set (i := 3) (r := rInt) (ev_mul (hmb _ _) (ev_mod (by decide +kernel) (ev_intI T.int (ev_abs T.abs (ev_nm (r := rInt) 2 rfl rfl))) (ev_powW hp2 (ev_pow hp1 ev_int ev_int) ev_int)) (ev_intB T.int (ev_ge (ev_abs T.abs (ev_nm (r := rInt) 2 rfl rfl)) (ev_pow hp3 ev_int ev_int)))) (fun v3 H2 s2 r2 => ?_) scLpo.nd
    refine ss_set (i := 4) (r := rInt) (ev_mod (by decide) (ev_intI T.int (ev_nm (r := rInt) 2 rfl rfl)) ev_int) (fun v4 H3 s3 r3 => ?_) scLpo.nd
    generalize c % 2305843009213693951 = sm at r3
    have hm2 : CMul sm 72931 := .inr ⟨by decide, by decide⟩
    have hm3 : CMul 7793 (i : Int) := .inl ⟨by decide, by decide⟩
    have hm4 : CMul (7793 * (i : Int)) (i : Int) := .inr ⟨by omega, by omega⟩
    obtain ⟨own, r2⟩ : ∃ own : Int, v3 = .int own := ⟨_, r2⟩
    subst r2
    have e0 := Int.emod_nonneg (sm * 72931 + 7793 * (i : Int) * (i : Int) + 229) (show (2305843009213693921 : Int) ≠ 0 by decide)
    have e1 := Int.emod_lt_of_pos (sm * 72931 + 7793 * (i : Int) * (i : Int) + 229) (show (0 : Int) < 2305843009213693921 by decide)
    refine ss_retL (r := rInt) (xs := [own, (sm * 72931 + 7793 * (i : Int) * (i : Int) + 229) % 2305843009213693921, 0]) (el_lst (el_cons (ev_nm (r := rInt) 3 rfl rfl) (el_cons (ev_mod (by decide) (ev_intI T.int (ev_add (ev_add (ev_mul hm2 (ev_nm 4 rfl r3) ev_int) (ev_mul hm4 (ev_mul hm3 ev_int (ev_nm (r := rInt) 1 rfl rfl)) (ev_nm (r := rInt) 1 rfl rfl))) ev_int)) ev_int) (el_cons ev_int el_nil))) (by simp)) (fun l vs H4 nl s4 hl hu => ?_)
    have hv := us_int hu
    subst hv
    have sA := ((s1.trans s2).trans s3)
    exact k l H4 (none_of_same sA nl) (sA.trans s4) ⟨own, _, 0, hl, e0, by omega, by decide, by decide⟩
/-! law_cells -/
abbrev sLce : Stmt := top 74
abbrev nLce : List Str := ["_law_script", "_law_limit"]
theorem scLce : FnScope nLce ["_law_script", "_law_limit"] (defScope sLce) := ⟨rfl, rfl, rfl, by decide +kernel, rfl, by decide +kernel, by decide +kernel⟩
def spLce (K : PySem.W.Frag) : Sp := fun vs H Q _ => ∃ (a : Addr) (ns : List Int), vs = [.ref a, .int 3] ∧ SqL K H a (ns.map V.int) ∧ ∀ l m H', m ≤ 3 → H l = none → Same H H' → H' l = some (.lst ((List.range m).map fun i : Nat => V.int (i : Int))) → Q (.ref l) H'
theorem ok_law_cells (T : Glo mg) (F : Fun K "_law_cells" "_law_cells" sLce f fd) : FnOk P w K mg base CX0 1 f fd ["_law_script", "_law_limit"] (spLce K) := by
  refine F.ok (N := nLce) scLce (fun vs H Q E h => ?_) (fun cdv A outer s H vs Q E hr h => ⟨wpSs _ _, wpSs_pss, ?_⟩)
  · obtain ⟨a, ns, rfl, _⟩ := h
    rfl
  · obtain ⟨a, ns, rfl, hS, k⟩ := h
    have hmn : ∃ m : Nat, m ≤ 3 ∧ (if (if ((ns.map V.int).length : Int) < 3 then ((ns.map V.int).length : Int) else 3) > 1 then (if ((ns.map V.int).length : Int) < 3 then ((ns.map V.int).length : Int) else 3) else 1) = (m : Int) := by
      generalize (ns.map V.int).length = z
      by_cases h1 : (z : Int) < 3
      · rw [if_pos h1]
        by_cases h2 : (z : Int) > 1
        · rw [if_pos h2]; exact ⟨z, by omega, rfl⟩
        · rw [if_neg h2]; exact ⟨1, by omega, rfl⟩
      · rw [if_neg h1, if_pos (by decide)]; exact ⟨3, by omega, rfl⟩
    obtain ⟨m, hm3, hm⟩ := hmn
    refine ss_cons (wpS_of (ps_ret (pe_listRg rfl rfl T.list (prg_1 rfl T.range wpE_pe))) ?_)
    refine wpE_ev ((ev_max2 rfl T.max ev_int (ev_min2 rfl T.min (ev_nm (r := rInt) 1 rfl rfl) (int_of_nat (ev_b1 call_len_seq PySem.boot_len T.len (ev_nm (r := rVal) (x := .ref a) 0 rfl rfl) (fun v H1 Q s rv q => ⟨a, ns.map V.int, by rw [show v = _ from rv], .inl (s.seq hS), q _ H1 (Same.refl _) rfl⟩)))))) fun v H1 s1 rv => ?_
    have rv : v = .int _ := rv
    rw [hm] at rv
    subst rv
    refine ⟨(m : Int), rfl, ?_, fun q nq => ?_⟩
    · exact ⟨by omega, by omega, by omega, by omega, by omega⟩
    · refine k q m _ hm3 (none_of_same s1 nq) (s1.trans (Same.new nq)) ?_
      rw [upd_same]
      unfold rgV
      simp
end
end LK
set_option maxHeartbeats 4000000
namespace LK
open PySem PySem.Spec PyProof.Rows L2
/-! ### the wrapper of ValueError.__init__, called -/
section
open PySem.W
variable {prog : Program} {w : World} {A : Around} {E : Value → Shared → Prop} {h : Heap} {g : Array GenState} {d : Drawn} {t : Nat} {os : OsState}
variable {nm q : Str} {C N : Addr} {bs bm bmB : List Value} {hdct : Bool} {sn : List Str} {sub : List Value} {ab : Bool} {col : Option Bool} {dd : Option Addr} {k0 k1 k2 k3 k5 : Option Value} {B newId initId : String}
theorem call_mw (FB : ExcBaseFacts B newId initId bmB) {u e t0 : Addr} {rest : List Value} {Q : Value → Shared → Prop}
    (hC : h.get? C = some (excClassObj nm q C N bs bm hdct sn sub ab col dd k0 k1 k2 k3 k5 newId)) (he : h.get? e = some (HandSPX.excO C t0)) (hu : h.get? u = some (kxs_mw initId e)) (hrest : rest.length ≤ sizeLine)
    (hq : ∀ h' t1, (∀ b o, b ≠ e → h.get? b = some o → h'.get? b = some o) → h'.get? e = some (HandSPX.excO C t1) → Q .none ⟨h', g, d, t, os⟩) :
    wpAny (model prog w) A (call (.ref u) rest) Q E ⟨h, g, d, t, os⟩ := by
  refine wpAny_call (codeAny_of_tree ?_)
  show wpAny _ A.in1 (callAny (.ref u) ⟨rest, []⟩) _ _ _
  simp only [callAny]
  refine wpAny_bind (wpAny_load hu ?_)
  simp only [kxs_mw, show (Value.type "method-wrapper" == Value.type "method" || Value.type "method-wrapper" == Value.type "builtin_function_or_method" || Value.type "method-wrapper" == Value.type "method-wrapper") = true by decide, if_true]
  refine KFB.if_so (by decide) ?_
  refine wpAny_bind (check_bound_init FB.toExcCallFacts hC he rfl ?_)
  refine wpAny_bind (wpAny_pure (wpAny_pure ?_))
  refine ⟨plainId_quiet FB.init.plain _, codeAny_builtin FB.initEntry ?_⟩
  exact exc_init_tree (cls := .ref C) (t0 := t0) (dv := none) (c2 := .none) (c3 := .none) (b4 := .bool false) he hrest fun h' k e' _ => hq h' h.objs.size k e'
end
/-! ### LotError.__init__ -/
/-- what the written part says of it -/
structure SupK (P : Program) (K : PySem.W.Frag) (mg : Str → Option Value) (D C f : Addr) (fd : FuncData) : Prop where
  ex : ∃ (oc : Value) (od : Option Addr) (kV doc pm ct : Value) (an : Option Addr) (cda cc : Addr) (osl : Array (Option Value)), fd = PySem.W.ksFn "__init__" "LotError.__init__" (defArgs sLer) (defBody sLer) (defScope sLer) .none kV doc pm an (.ref cda) ct cc ∧
    K.lookup f = some ⟨oc, od, .func fd, osl⟩ ∧ PySem.W.codeIn K (.ref cda) "LotError.__init__" = true ∧ (∃ ccl cdd vs ccs file tf, K.lookup cda = some ⟨ccl, cdd, .fields vs, ccs⟩ ∧ vs[2]? = some (.str file tf) ∧ ((P.main.file : Str) == file) = true) ∧
    ∃ cl cld csl, K.lookup cc = some ⟨cl, cld, .cell (some (.ref D)), csl⟩
  clsD : ∃ cdD, PySem.W.clsIn K D = some cdD
  subD : PySem.W.mroIn K C (.ref D) = some true
  sup : PySem.W.ks_superIn K C D "__init__" = some (some (.builtin "ValueError.__init__"))
  subV : PySem.W.subIn K (.ref C) (.type "ValueError") = some true
  opq : PySem.W.nsIn K cStatics "thirdparty.any" = some none
  noV : PySem.W.findIn K (.ref C) "value" = some none
  msup : mg "super" = none
  top : (P.main.scope.names.lookup ("super" : Str)).isSome = false
  oex : OexC K C
def spLer (C : Addr) : Sp := fun vs H Q _ => ∃ a v, vs = [.ref a, v] ∧ H a = some (exo a C none) ∧ ∀ dx, H dx = none → dx ≠ a → Q .non (upd (upd H dx (exd dx [("value", v)])) a (exo a C (some dx)))
/-- the context of its body -/
def supCx (P : Program) (w : World) (K : PySem.W.Frag) (mg : Str → Option Value) (base : Heap) (A : Around) (outer : List Env) (s : Shared) (H : Hp) (xe : Value → Shared → Prop) (f cda cc : Addr) : Cx where
  prog := P
  w := w
  K := K
  mg := mg
  base := base
  A := A.deeper (PySem.W.ksEnv "LotError.__init__" (defScope sLer) s.heap.objs.size f (.ref cda) cc)
  N := ["self", "value"]
  s_0 := s
  H_0 := H
  env := PySem.W.ksEnv "LotError.__init__" (defScope sLer) s.heap.objs.size f (.ref cda) cc
  outer := outer
  stack := PySem.W.ksEnv "LotError.__init__" (defScope sLer) s.heap.objs.size f (.ref cda) cc :: outer
  ex := []
  fn := fun _ => false
  calm := true
  pn := []
  xe := xe
theorem ler_local (y : Str) (h : y = "self" ∨ y = "value") : (defScope sLer).names.lookup y = some .local := by rcases h with rfl | rfl <;> rfl
section
variable {P : Program} {w : World} {K : PySem.W.Frag} {mg : Str → Option Value} {base : Heap} {f D C : Addr} {fd : FuncData}
theorem sup_start {A : Around} {outer : List Env} {s : Shared} {H : Hp} {xe : Value → Shared → Prop} {cda cc : Addr} {h₁ : Heap} {tk : Nat} {ux uv : Value} {vx vv : V} (e0 : Env0 P w K mg base A outer s H) (hd : A.handled = none)
    (hns : h₁.Ns s.heap.objs.size fun y => ([(("self" : Str), ux), ("value", uv)] : List (Str × Value)).reverse.lookup y) (kp : ∀ b o, s.heap.get? b = some o → h₁.get? b = some o) (rx : RelV vx ux) (rv : RelV vv uv)
    (hcc : ∃ o, base.get? cc = some o ∧ o.data = .cell (some (.ref D))) : Inv (supCx P w K mg base A outer s H xe f cda cc) [] [some vx, some vv] H { s with heap := h₁, toks := tk } := by
  obtain ⟨ocl, hcb, hcd⟩ := hcc
  have hcs := e0.bs _ _ hcb
  have cl1 : ∀ y c, ([(("__class__" : Str), cc)] : List (Str × Addr)).lookup y = some c → y = "__class__" ∧ c = cc := fun y c h => by
    have hm := PySem.mem_of_lookup h
    simp at hm
    exact hm
  have noA : ∀ b : Addr, b ∉ (supCx P w K mg base A outer s H xe f cda cc).ex := fun b z => absurd (show b ∈ ([] : List Addr) from z) (by simp)
  refine ⟨⟨e0.mod, rfl, rfl, rfl, Nat.le_refl _, fun y z c e1 e2 => (cl1 y c e1).1.trans (cl1 z c e2).1.symm, fun y hy => ?_, fun y c z _ => ?_, fun _ => hd, Around.frames_deeper e0.frames, .inr ⟨rfl, rfl⟩, fun b z => absurd z (noA b), e0.bs, e0.bsz, fun b _ _ => noA b,
      fun b z => absurd z (noA b), e0.funs, e0.frf⟩,
    rfl, e0.bare, Un.kept kp, ⟨_, hns, fun i y v e1 e2 e3 => ?_⟩, fun y c e => ?_, e0.hok.fresh (Nat.le_refl _), fun y c e => ?_, fun q hq => absurd (show q ∈ ([] : List (Addr × Obj)) ++ [] from hq) (by simp), e0.hok.kept kp, rfl⟩
  · have hy : (defScope sLer).names.lookup y = some .cell ∨ (defScope sLer).names.lookup y = some .free := hy
    have hm : ∀ z ∈ (defScope sLer).names, z.2 ≠ .cell ∧ (z.2 = .free → z.1 = "__class__") := by decide +kernel
    rcases hy with hy | hy
    · exact absurd rfl (hm _ (PySem.mem_of_lookup hy)).1
    · have := (hm _ (PySem.mem_of_lookup hy)).2 rfl
      have e : y = "__class__" := this
      subst e
      exact ⟨cc, rfl⟩
  · have z : false = true := z
    cases z
  · match i, e1, e2 with
    | 0, e1, e2 =>
      have e1 : (some ("self" : Str)) = some y := e1
      have e2 : (some (some vx)) = some (some v) := e2
      cases e1
      cases e2
      exact ⟨ux, rx, .inl ⟨rfl, rfl⟩⟩
    | 1, e1, e2 =>
      have e1 : (some ("value" : Str)) = some y := e1
      have e2 : (some (some vv)) = some (some v) := e2
      cases e1
      cases e2
      exact ⟨uv, rv, .inl ⟨rfl, rfl⟩⟩
    | i + 2, e1, e2 => exact absurd (show (([] : List Str)[i]?) = some y from e1) (by simp)
  · rw [(cl1 y c e).2]
    exact ⟨_, ocl, kp _ _ hcs.1, hcd⟩
  · rw [(cl1 y c e).2]
    exact hcs.2
end
end LK
set_option maxHeartbeats 4000000
namespace LK
open PySem PySem.Spec PyProof.Rows L2 PySem.Calls PySem.W
section
variable {P : Program} {w : World} {K : PySem.W.Frag} {mg : Str → Option Value} {base : Heap} {f D C : Addr} {fd : FuncData} {CX : CXT}
theorem ok_LotError (S : SupK P K mg D C f fd) : FnOk P w K mg base CX 1 f fd ["self", "value"] (spLer C) := by
  obtain ⟨oc, od, kV, doc, pm, ct, an, cda, cc, osl, rfl, lk, hcd, ⟨ccl, cdd, vs, ccs, file, tf, hcode, hvs, hfile⟩, cl, cld, csl, hcell⟩ := S.ex
  obtain ⟨cdD, hD⟩ := S.clsD
  refine ⟨?_, ?_⟩
  · rintro vs H Q E ⟨a, v, rfl, _⟩
    rfl
  intro A outer s H args us vs1 Q E hr e0 hb r hsp
  obtain ⟨a, v, rfl, ea, hq⟩ := hsp
  cases r with
  | @cons _ u0 _ ur ra rw' =>
  obtain rfl : u0 = Value.ref a := ra
  cases rw' with
  | @cons _ u1 _ ur rv rw' =>
  cases rw'
  have KX : K.In s.heap := e0.mod.kin.keeps fun b o e => (e0.bs b o e).1
  have lim : s.heap.NoLimit := e0.mod.nolimit.keeps fun b o e => (e0.bs b o e).1
  refine ks_codeAny_call_defAt (fd := PySem.W.ksFn "__init__" "LotError.__init__" (defArgs sLer) (defBody sLer) (defScope sLer) .none kV doc pm an (.ref cda) ct cc) (body := defBody sLer) (binds := [("self", .ref a), ("value", u1)]) hr.depth (KX _ _ lk) rfl lim (PySem.W.codeRec_of KX hcd) rfl hb (show ∀ x ∈ (defScope sLer).names, x.2 ≠ .cell by decide +kernel) (by
    intro x hx
    have hx : x = (("self" : Str), Value.ref a) ∨ x = (("value" : Str), u1) := by simpa using hx
    rcases hx with rfl | rfl <;> exact ler_local _ (by simp)) (fun h₁ hns hk₁ => ?_) (show (defScope sLer).isCoroutine = false by decide +kernel) (show (defScope sLer).isGenerator = false by decide +kernel) (show (defScope sLer).kind = .function by decide +kernel)
  have I := sup_start (xe := fun e s' => wpAny (model P w) (A.deeper (PySem.W.ksEnv "LotError.__init__" (defScope sLer) s.heap.objs.size f (.ref cda) cc)) (leaving (PySem.W.ksEnv "LotError.__init__" (defScope sLer) s.heap.objs.size f (.ref cda) cc) e) (fun _ s'' => CR CX outer P w H s Q E (.error e) s'') (fun e' s'' => CR CX outer P w H s Q E (.error e') s'') s') (f := f) (cda := cda) (tk := s.toks + 2) e0 hr.hd hns hk₁ (vx := .ref a) (ux := .ref a) rfl rv (by
    have := e0.mod.kin _ _ hcell
    exact ⟨_, this, rfl⟩)
  obtain ⟨t1, hx⟩ := exo_at I.hok ea
  obtain ⟨nm, q, N, bs, bm, sn, sub, ab, col, dd, k0, k1, k2, k3, k5, hC, hbm⟩ := S.oex.cls
  have Kh : ∀ {h' : Heap}, (∀ b o, h₁.get? b = some o → h'.get? b = some o) → K.In h' := fun {h'} k => I.kIn.keeps fun b o e => k b o e
  have Xc := I.kIn
  show PySem.wpAt _ _ _ (execs (defBody sLer) _) _ _ _
  obtain ⟨oD, hD1, hD2⟩ : ∃ oD, h₁.get? D = some oD ∧ oD.data = .cls cdD := by
    unfold clsIn at hD
    split at hD
    · rename_i c d cd' sl ho
      cases hD
      exact ⟨_, Xc _ _ ho, rfl⟩
    · cases hD
  refine ks_wpAt_execs_cons (ks_wpAt_Expr_any (ks_wpAt_MethodCall (ks_wpAt_super_base (env := ksEnv "LotError.__init__" (defScope sLer) s.heap.objs.size f (.ref cda) cc) (ar := (defArgs sLer).args.head!) rfl rfl rfl rfl (Xc _ _ lk) rfl rfl rfl (Xc _ _ hcode) rfl hvs hfile S.top ?_)))
  obtain ⟨mb, b1, b2⟩ := I.mod.blt
  refine ks_loadName_global rfl rfl (loadGlobal_builtin (mg := mg) (mb := mb) (v := .type "super") (I.ok.glob ▸ I.mod.glob.keeps I.bk) S.msup (I.ok.blt ▸ b1.keeps I.bk) ((b2 _ (by decide)).trans (by kernel_rfl)) ⟨rfl, ?_⟩)
  refine wpAny_loadName_free rfl rfl rfl ⟨_, Xc _ _ hcell, rfl⟩ ?_
  refine wpAny_loadName_local rfl rfl hns rfl ?_
  refine ks_wpAny_isType_cls hD1 hD2 ⟨rfl, ?_⟩
  have IA : PySem.W.InstAt h₁ a { cls := .ref C, dict := none, data := .fields #[.ref t1, .none, .none, .none, .bool false, .none] } C none := ⟨hx, rfl, rfl, trivial⟩
  refine ks_wpAny_call_super hD1 hD2 hx rfl (fun c e => by cases e) (PySem.W.looks_mroIn Xc S.subD) (fun h2 e2 k2 => ?_)
  have I2 := I.kept (t' := s.toks + 2) k2
  have X2 : K.In h2 := I2.kIn
  obtain ⟨t2, hx2⟩ := exo_at I2.hok ea
  have IB : PySem.W.InstAt h2 a { cls := .ref C, dict := none, data := .fields #[.ref t2, .none, .none, .none, .bool false, .none] } C none := ⟨hx2, rfl, rfl, trivial⟩
  have hcl : PySem.W.clsIn K C = some { name := nm, bases := bs, mro := .ref C :: bm, ns := N, qualname := q, hasDict := true, slotNames := sn, subclasses := sub, abstract := ab, collection := col, hasDel := false } := by unfold PySem.W.clsIn; rw [hC] <;> rfl
  have hsup := S.sup
  unfold PySem.W.ks_superIn at hsup
  rw [hcl] at hsup
  refine kxs_getMethod kxs_ValueError e2 (looks_opaque X2 S.opq) (l₀ := .ref C :: bm) (fun A Q E s k q => wpAny_bind ((looks_clsIn X2 hcl) A _ E s k (wpAny_pure q))) rfl X2 hsup (IB.type.andThen (looks_subIn X2 S.subV)) (ks_ne X2 IB hcl) rfl ?_
  have k3 : ∀ b o, h2.get? b = some o → (h2.push (kxs_mw "ValueError.__init__" a)).get? b = some o := fun b o e => Heap.get?_push_of_some _ e
  have e3 : (h2.push (kxs_mw "ValueError.__init__" a)).get? h2.objs.size = some (kxs_mw "ValueError.__init__" a) := Heap.get?_push_at rfl rfl
  have I3 := I2.kept (t' := s.toks + 2 + 1) k3
  refine kxs_callWith (i := "ValueError.__init__") (x := a) rfl (evalArgs_plain (spliced_cons ?_))
  have hns3 := hns.at fun o e => k3 _ _ (k2 _ _ e)
  refine wpAny_Name (wpAny_loadName_local rfl rfl hns3 rfl ?_) (by decide)
  refine spliced_nil ⟨e3, ?_⟩
  obtain ⟨t3, hx3⟩ := exo_at I3.hok ea
  refine call_mw F.excBase_ValueError (I3.kIn _ _ hC) hx3 e3 (by rw [sizeLine_eq]; simp) (fun h4 t4 k4 hx4 => ?_)
  have J := I3.write (t' := s.toks + 2 + 1) (x := a) (e := a) (o := exo a C none) (by rw [ea]; exact True.intro) (.inl rfl) k4 ⟨_, hx4⟩ (exo_ok hx4)
  have eu : upd H a (exo a C none) = H := by
    funext b
    by_cases hb : b = a
    · rw [hb, upd_same, ea]
    · rw [upd_ne hb]
  rw [eu] at J
  refine wpAt_of_wpAny ?_
  have hn2 : findIn K (.ref C) "value" = some none := S.noV
  refine wpAny_execs_cons (thn ((ps_ost (pe_var (i := 0) rfl (.inl rfl)) (pe_var (i := 1) rfl (.inl rfl)) rfl).run [] _ _ _ { nx := fun _ H' => Q .non H', rt := fun _ _ => False } J ?_) fun fl s5 h5 => ?_)
  · exact ⟨v, rfl, _, rfl, a, C, rfl, S.oex, hn2, .inl ⟨ea, fun dx n ne => hq dx n ne⟩⟩
  cases fl with
  | next =>
    obtain ⟨σ', H', J', q'⟩ := h5
    exact wpAny_execs_nil ⟨.non, H', J'.os, J'.bare, J'.base, J'.hok, rfl, q'⟩
  | ret u => obtain ⟨_, _, _, _, _, q⟩ := h5; exact False.elim q
  | brk => obtain ⟨_, _, _, q⟩ := h5; exact False.elim q
  | cont => obtain ⟨_, _, _, q⟩ := h5; exact False.elim q
end
end LK
set_option maxHeartbeats 4000000
namespace LK
open PySem PySem.Spec PyProof.Rows L2
theorem records_lay : ∀ n, n ≤ 3 → ∀ z ∈ records n, PyData.canLay0 (.str z) = true := by decide +kernel
theorem believedBy_lay {L : Lore} (W : WF L) {as : List (Str × Str)} {b : Int} : ∀ z ∈ believedBy L as b, PyData.canLay0 (.str z) = true := fun z hz => by
  have := (sortStr_perm _).subset hz
  exact records_lay _ W.p3 z (List.mem_filter.mp this).1
section
variable {X : Cx} {e : Expr} {es : List Expr} {σ : L2.St} {H : Hp} {pos p p2 : Pos} {n : Str} {D : Ends} {rest : List Stmt}
/-! ### calls of defs that raise -/
structure CalX (P : Program) (w : World) (K : PySem.W.Frag) (mg : Str → Option Value) (base : Heap) (k : Nat) (x : Str) (sp : Sp) : Prop where
  ex : ∃ (f : Addr) (fd : FuncData) (ps : List Str), FnOk P w K mg base (L2.CX P w) k f fd ps sp ∧ mg x = some (.ref f) ∧ PySem.W.keepIn K (.ref f) = true ∧ Binds K fd ps []
theorem wp_callX {k : Nat} {sp : Sp} {Q : VK} {E : XK} (C : CalX X.prog X.w X.K X.mg X.base k n sp) (hr : Room k X.A) (hx : Passes (L2.CX X.prog X.w) X E) (ha : wpA X (e :: es) σ H fun vs H1 => sp vs H1 Q E) (hg : Gl X n := by rfl) (hdb : (n == ("__debug__" : Str)) = false := by decide)
    (he : starEach (e :: es) X.env = (false, eval e X.env) :: starEach es X.env := by rfl) (hpl : (backTo pos (starEach es X.env)).any (·.1) = false := by rfl) : wpE X (.Call (.Name n p) (e :: es) [] pos) σ H Q := by
  obtain ⟨f, fd, ps, F, hm, hk, hb⟩ := C.ex
  exact wpE_of (pe_call F hr hg hm hk hb .nil hx wpA_pa hdb he hpl) (wpA_mono ha fun vs H' q' => by rw [List.append_nil]; exact q')
/-- an own exception of the package -/
structure ExC (P : Program) (w : World) (K : PySem.W.Frag) (mg : Str → Option Value) (base : Heap) (x : Str) (C : Addr) : Prop where
  oex : OexC K C
  at_ : mg x = some (.ref C)
  ini : ∃ fI fd, PySem.W.findIn K (.ref C) "__init__" = some (some (.ref fI)) ∧ PySem.W.typeIn K (.ref fI) = some (.type "function") ∧ FnOk P w K mg base CX0 1 fI fd ["self", "value"] (spLer C) ∧ Binds K fd ["self", "value"] []
theorem ss_raise {C : Addr} {s1 : Pos} {Ex : XK} {v : V} (T : ExC X.prog X.w X.K X.mg X.base n C) (hr : Room 2 X.A) (hc : X.calm = true) (tk : Takes X (fun cls d _ H => Ex cls d H)) (ha : Ev X e σ H rVal v) (h : ∀ d H1, H d = none → Same H H1 → H1 d = some (.xd [("value", v)]) → Ex (.ref C) (some d) H1)
    (hg : Gl X n := by rfl) (hdb : (n == ("__debug__" : Str)) = false := by decide) (he : starEach [e] X.env = (false, eval e X.env) :: starEach [] X.env := by rfl) (hpl : (backTo pos (starEach [] X.env)).any (·.1) = false := by rfl) :
    wpSs X (.Raise (some (.Call (.Name n p) [e] [] pos)) none s1 :: rest) D σ H := by
  obtain ⟨fI, fd, h1, h2, F, hb⟩ := T.ini
  refine ss_cons (wpS_of (ps_raise hc tk (pmk_oex (CX := CX0) (es := []) T.oex h1 h2 F hr hb .nil (fun _ _ _ _ _ _ _ z => z.elim) hg T.at_ wpA_pa hdb he hpl)) ?_)
  refine wpA_of (pa_cons wpE_pe pa_nil he) (ha H (Same.refl H) _ fun u H1 s1 rv => ?_)
  have rv : u = v := rv
  subst rv
  show ([u] : List V).length ≤ 1000 ∧ _
  refine ⟨by simp, fun a na => ⟨a, u, rfl, upd_same, fun dx nx nda => ⟨rfl, dx, [("value", u)], upd_same, by rw [upd_ne nda, upd_same], ?_, ?_⟩⟩⟩
  · rw [upd_ne nda] at nx
    exact nx
  · rw [upd_ne nda] at nx
    have nH : H dx = none := none_of_same s1 nx
    refine h dx _ nH (fun b o hb => ?_) upd_same
    have b1 : H1 b = some o := s1 b o hb
    have ba : b ≠ a := ne_of_none b1 na
    have bd : b ≠ dx := ne_of_none b1 nx
    rw [upd_ne bd, del_ne ba, upd_ne ba, upd_ne bd, upd_ne ba]
    exact b1
end
end LK
set_option maxHeartbeats 4000000
namespace LK
open PySem PySem.Spec PyProof.Rows L2
/-- as believed_by, but Unbelieved when none is believed -/
def SpR {β : Type} (C CC U : Addr) (ro : R β) (f : Lore → List (Str × Str) → Int → β) : Sp := fun vs H Q E => ∃ i, (aConsS (rShelf C CC) (aCons rAs (aCons rInt aNil))).rel H vs i ∧ (WF i.1 ∧ Good i.1 i.2.1 ∧ 0 ≤ i.2.2.1 ∧ i.2.2.1 ≤ 3) ∧
  (believedBy i.1 i.2.1 i.2.2.1 = [] → ∀ d H', H d = none → Same H H' → H' d = some (.xd [("value", .int i.2.2.1)]) → E (.ref U) (some d) H') ∧
  (believedBy i.1 i.2.1 i.2.2.1 ≠ [] → ∀ v H', Same H H' → ro.rel H' v (f i.1 i.2.1 i.2.2.1) → Q v H')
section
variable {X : Cx} {e : Expr} {es : List Expr} {σ : L2.St} {H : Hp} {pos p : Pos} {n : Str} {C CC U : Addr} {β : Type} {ro : R β} {g : Lore → List (Str × Str) → Int → β}
theorem wp_callR {k : Nat} {Q : VK} {E : XK} {L : Lore} {as : List (Str × Str)} {b : Int} (cX : CalX X.prog X.w X.K X.mg X.base k n (SpR C CC U ro g)) (hr : Room k X.A) (hx : Passes (L2.CX X.prog X.w) X E) (ha : EvA X (e :: es) σ H (aConsS (rShelf C CC) (aCons rAs (aCons rInt aNil))) (L, as, b, ()))
    (hp : WF L ∧ Good L as ∧ 0 ≤ b ∧ b ≤ 3) (kE : believedBy L as b = [] → ∀ d H', H d = none → Same H H' → H' d = some (.xd [("value", .int b)]) → E (.ref U) (some d) H') (kQ : believedBy L as b ≠ [] → ∀ v H', Same H H' → ro.rel H' v (g L as b) → Q v H') (hg : Gl X n := by rfl) (hdb : (n == ("__debug__" : Str)) = false := by decide)
    (he : starEach (e :: es) X.env = (false, eval e X.env) :: starEach es X.env := by rfl) (hpl : (backTo pos (starEach es X.env)).any (·.1) = false := by rfl) : wpE X (.Call (.Name n p) (e :: es) [] pos) σ H Q :=
  wp_callX cX hr hx (ha H (Same.refl H) _ fun vs H1 s1 ra => ⟨(L, as, b, ()), ra, hp, fun hk d H2 nd s2 hd => kE hk d H2 (none_of_same s1 nd) (s1.trans s2) hd, fun hk v0 H2 s2 rv => kQ hk v0 H2 (s1.trans s2) rv⟩) hg hdb he hpl
end
section
variable {P : Program} {w : World} {K : PySem.W.Frag} {mg : Str → Option Value} {base : Heap} {f C CC U : Addr} {fd : FuncData}
abbrev sCbe : Stmt := top 63
abbrev nCbe : List Str := ["shelf", "answers", "bound"]
theorem scCbe : FnScope nCbe ["shelf", "answers", "bound"] (defScope sCbe) := ⟨rfl, rfl, rfl, by decide +kernel, rfl, by decide +kernel, by decide +kernel⟩
abbrev spCbe (C CC U : Addr) : Sp := SpR C CC U rVal fun _ _ _ => .non
theorem ok_check_believed (T : Glo mg) (TU : ExC P w K mg base "Unbelieved" U) (F : Fun K "check_believed" "check_believed" sCbe f fd) (cChk : Cal P w K mg base 5 "check_answers" (spChk C CC)) (cChb : Cal P w K mg base 2 "check_bound" spChb) (cBby : Cal P w K mg base 7 "believed_by" (spBby C CC)) : FnOk P w K mg base (L2.CX P w) 8 f fd ["shelf", "answers", "bound"] (spCbe C CC U) := by
  refine F.okX (N := nCbe) scCbe (fun vs H Q E h => ?_) (fun cdv A outer s H vs Q E hr h => ⟨wpSs _ _, wpSs_pss, ?_⟩)
  · obtain ⟨i, ⟨v, ws, rfl, _, v2, ws2, rfl, _, v3, ws3, rfl, _, rfl⟩, _⟩ := h
    rfl
  · obtain ⟨⟨L, as, b, _⟩, ⟨v, _, rfl, h1, v2, _, rfl, h2, v3, _, rfl, h3, rfl⟩, ⟨hW, hG, hb0, hb3⟩, kE, kQ⟩ := h
    have hW : WF L := hW
    have hG : Good L as := hG
    have h3 : v3 = V.int b := h3
    subst h3
    refine ss_exprE (ev_call cChk (hr.mono (by decide)) (ea_consS (ev_nmS 0 rfl h1) (ea_cons (ev_nm 1 rfl h2) ea_nil)) ⟨hW, hG⟩) fun H1 s1 => ?_
    refine ss_exprE (ev_call cChb (hr.mono (by decide)) (ea_cons (ev_nm (r := rInt) 2 rfl rfl) ea_nil) ⟨hb0, hb3⟩) fun H2 s2 => ?_
    have s12 := s1.trans s2
    refine ss_if (k := decide (believedBy L as b = [])) ((et_eqNN (ys := []) (enc := PyData.str) (k := decide (believedBy L as b = [])) (hu_of' hr) enc_str (el_call cBby hr (ea_consS (ev_nmS 0 rfl ((rShelf C CC).up s12 h1)) (ea_cons (ev_nm 1 rfl (rAs.up (Same.T s12) h2)) (ea_cons (ev_nm (r := rInt) 2 rfl rfl) ea_nil))) ⟨hW, Nat.le_trans hG.few (by decide)⟩) (el_lst el_nil (by simp)) (shaped_strs _ (believedBy_lay hW)) rfl ?_)) (fun hk H3 s3 => ?_) (fun hk H3 s3 => ?_)
    · show PyData.eqv (.list ((believedBy L as b).map PyData.str)) (.list (([] : List Str).map PyData.str)) = _
      simp only [PyData.eqv, eqv_all_str]
    · have hk : believedBy L as b = [] := of_decide_eq_true hk
      refine ss_raise TU (hr.mono (by decide)) rfl (takes_of rfl rfl rfl rfl) (ev_nm (r := rVal) 2 rfl rfl) fun d H4 nd s4 hd => kE hk d H4 (none_of_same (s12.trans s3) nd) ((s12.trans s3).trans s4) hd
    · have hk : ¬ believedBy L as b = [] := of_decide_eq_false hk
      exact ss_nil (ss_nil (kQ hk .non H3 (s12.trans s3) rfl))
abbrev sAsk : Stmt := top 68
abbrev nAsk : List Str := ["shelf", "answers", "bound", "known", "others", "keeper", "values"]
theorem scAsk : FnScope nAsk ["shelf", "answers", "bound"] (defScope sAsk) := ⟨rfl, rfl, rfl, by decide +kernel, rfl, by decide +kernel, by decide +kernel⟩
def askedP (L : Lore) (as : List (Str × Str)) (b : Int) : List Str := sortStr ((L.names.filter fun n => !decide (n ∈ as.map (·.1))).filter fun n => lessens L as b n)
abbrev spAsk (C CC U : Addr) : Sp := SpR C CC U (rTup rStr) askedP
theorem good_nd {L : Lore} {as : List (Str × Str)} (W : WF L) (G : Good L as) : (as.map (·.1)).Nodup := by
  have h := G.ok
  unfold areAns at h
  rw [Bool.and_eq_true] at h
  rw [of_decide_eq_true h.2]
  exact W.nd.sublist List.filter_sublist
theorem ok_asked_more (T : Glo mg) (S : ShTxt P w K mg base C CC) (F : Fun K "asked_more" "asked_more" sAsk f fd) (cCbe : CalX P w K mg base 8 "check_believed" (spCbe C CC U)) (cDle : Cal P w K mg base 8 "does_lessen" (spDle C CC)) : FnOk P w K mg base (L2.CX P w) 9 f fd ["shelf", "answers", "bound"] (spAsk C CC U) := by
  refine F.okX (N := nAsk) scAsk (fun vs H Q E h => ?_) (fun cdv A outer s H vs Q E hr h => ⟨wpSs _ _, wpSs_pss, ?_⟩)
  · obtain ⟨i, ⟨v, ws, rfl, _, v2, ws2, rfl, _, v3, ws3, rfl, _, rfl⟩, _⟩ := h
    rfl
  · obtain ⟨⟨L, as, b, _⟩, ⟨v, _, rfl, h1, v2, _, rfl, h2, v3, _, rfl, h3, rfl⟩, ⟨hW, hG, hb0, hb3⟩, kE, kQ⟩ := h
    have hW : WF L := hW
    have hG : Good L as := hG
    have h3 : v3 = V.int b := h3
    subst h3
    have h1 : (rShelf C CC).rel H v L := h1
    have h2 : rAs.rel H v2 as := h2
    have kE : believedBy L as b = [] → ∀ d H', H d = none → Same H H' → H' d = some (.xd [("value", .int b)]) → E (.ref U) (some d) H' := kE
    have kQ : believedBy L as b ≠ [] → ∀ v H', Same H H' → (rTup rStr).rel H' v (askedP L as b) → Q v H' := kQ
    refine ss_expr (wp_callR cCbe hr (passes_call (takes_of rfl rfl rfl rfl) (fun _ _ _ _ h => h)) (ea_consS (ev_nmS 0 rfl h1) (ea_cons (ev_nm 1 rfl h2) (ea_cons (ev_nm (r := rInt) 2 rfl rfl) ea_nil))) ⟨hW, hG, hb0, hb3⟩ kE fun hk v0 H2 s12 _ => ?_)
    have h1 := (rShelf C CC).up s12 h1
    have h2 := rAs.up (Same.T s12) h2
    refine ss_setL (i := 3) (xs := as.map (·.1)) ((el_lc2 (j1 := 5) (j2 := 6) (r := rStr) (r' := rStr) (t := rStr) (f := fun x => x.1) (q := fun _ => true) (by decide) rfl scAsk.nd (blkOk_by (N := nAsk) (sc := defScope sAsk) (by decide +kernel)) (ei_tup (ev_nm 1 rfl h2)) (by have := hG.few; omega) (fun v w x H1 hx s1 r1 r2 s H0 C' cl fp => ⟨ef_nil, fun _ => ev_nm 5 rfl r1⟩)).eq (by rw [filter_true])) (fun p vs3 H3 np s3 hp hu => ?_) scAsk.nd
    have hu' := us_str hu
    subst hu'
    have h1 := (rShelf C CC).up s3 h1
    have h2 := rAs.up (Same.T s3) h2
    refine ss_setLc1 (i := 4) (j := 5) (t := rStr) (f := fun z => z) (q := fun n => !decide (n ∈ as.map (·.1))) rfl scAsk.nd (blkOk_by (N := nAsk) (sc := defScope sAsk) (by decide +kernel)) (ei_tup (ev_names S (hr.mono (by decide)) (ev_circle S (hr.mono (by decide)) (ev_nmS 0 rfl h1))).tup) (by have := hW.n6; omega)
      (fun v x H5 hx s5 rx s H0 C' cl fp => ⟨ef_one (et_ninL (ev_nm 5 rfl rx) (ev_nm (r := rVal) 3 rfl rfl) (s5 _ _ hp)), fun _ => ev_nm 5 rfl rx⟩) (fun p4 vs4 H4 np4 s4 hp4 hu4 => ?_) (sw_true rfl rfl rfl (by decide +kernel))
    have h1 := (rShelf C CC).up s4 h1
    have h2 := rAs.up (Same.T s4) h2
    rw [List.map_id'] at hu4
    have hlen : ((L.names.filter fun n => !decide (n ∈ as.map (·.1))).length) ≤ 6 := Nat.le_trans (List.length_filter_le _ _) hW.n6
    refine ss_ret (ev_tuple T.tuple (el_sorted T.sorted (Nat.lt_of_le_of_lt (List.length_filter_le _ _) (by omega)) (el_fil1 (j := 5) (q := fun n => lessens L as b n) rfl scAsk.nd (blkOk_by (N := nAsk) (sc := defScope sAsk) (by decide +kernel)) (ei_list (ev_nm (r := rVal) 4 rfl rfl) hp4 hu4) (by omega) (fun v x H5 hx s5 rx s H0 C' cl fp => et_val (ev_call cDle hr (ea_consS (ev_nmS 0 rfl ((rShelf C CC).up s5 h1)) (ea_cons (ev_nm 1 rfl (rAs.up (Same.T s5) h2)) (ea_cons (ev_nm (r := rInt) 2 rfl rfl) (ea_cons (ev_nm 5 rfl rx) ea_nil)))) ⟨hW, by have := hG.few; show as.length ≤ 100; omega, ?_⟩)) (fun v x H5 hx s5 rx s H0 C' cl fp => ev_nm 5 rfl rx)))) (fun v9 H9 s9 rv => kQ hk v9 H9 (((s12.trans s3).trans s4).trans s9) rv)
    have hx := (List.mem_filter.mp hx).2
    have hx : x ∉ as.map (·.1) := by simpa using hx
    exact List.nodup_append.mpr ⟨good_nd hW hG, by simp, fun a ha c hc e => by simp at hc; subst hc; subst e; exact hx ha⟩
end
end LK
set_option maxHeartbeats 4000000
namespace LK
open PySem PySem.Spec PyProof.Rows L2
def marksP (rows : List (List Str)) (x : Str × Str) : List Bool := rows.map fun row => decide (x.1 ∈ row)
def kindP (rows : List (List Str)) (x : Str × Str) : Nat := if (marksP rows x).all id then 0 else if (marksP rows x).any id then 2 else 1
def liarsP (L : Lore) (as : List (Str × Str)) (b : Int) : List (List Str) := [0, 1, 2].map fun k => (as.filter fun x => decide (kindP ((believedBy L as b).map (liarsBy L as)) x = k)).map (·.1)
theorem partP_step {rows : List (List Str)} {as : List (Str × Str)} {m k : Nat} {x : Str × Str} (hx : as[m]? = some x) : (((as.take (m + 1)).filter fun x => decide (kindP rows x = k)).map (·.1)) = (((as.take m).filter fun x => decide (kindP rows x = k)).map (·.1)) ++ (if kindP rows x = k then [x.1] else []) := by
  rw [List.take_add_one, hx, List.filter_append, List.map_append]
  congr 1
  by_cases h : kindP rows x = k <;> simp [h]
section
variable {X : Cx} {e a b c : Expr} {σ : L2.St} {H : Hp} {D : Ends} {rest : List Stmt}
/-- a, b, c = x, y, z: three local names, three written values -/
theorem ss_par3 {i j l : Nat} {x y z : Str} {px py pz pt pt2 s1 : Pos} {kt k2 : Nat} (h : wpA X [a, b, c] σ H fun vs H1 => ∃ u v w, vs = [u, v, w] ∧ wpSs X rest D (((σ.set i (some u)).set j (some v)).set l (some w)) H1) (hc : X.calm = true) (hN : X.N.Nodup) (hij : i ≠ j) (hil : i ≠ l) (hjl : j ≠ l) (hi : X.N[i]? = some x := by rfl) (hj : X.N[j]? = some y := by rfl) (hl : X.N[l]? = some z := by rfl)
    (hx : X.env.scope.names.lookup x = some .local := by rfl) (hy : X.env.scope.names.lookup y = some .local := by rfl) (hz : X.env.scope.names.lookup z = some .local := by rfl) (hw : swappedStores [.Tuple [.Name x px, .Name y py, .Name z pz] kt pt] (.Tuple [a, b, c] k2 pt2) X.env = pure (some [x, y, z]) := by rfl)
    (hs : swapsWithSole [.Tuple [.Name x px, .Name y py, .Name z pz] kt pt] (.Tuple [a, b, c] k2 pt2) s1.line X.env = pure false := by rfl) :
    wpSs X (.Assign [.Tuple [.Name x px, .Name y py, .Name z pz] kt pt] (.Tuple [a, b, c] k2 pt2) s1 :: rest) D σ H := ss_cons (wpS_of (ps_par3 hc hN hi hj hl hij hil hjl hx hy hz wpA_pa hw hs) h)
end
section
variable {P : Program} {w : World} {K : PySem.W.Frag} {mg : Str → Option Value} {base : Heap} {f C CC U : Addr} {fd : FuncData}
abbrev sLrs : Stmt := top 64
abbrev nLrs : List Str := ["shelf", "answers", "bound", "rows", "lied", "honest", "perhaps", "keeper", "values", "marks", "record", "row"]
theorem scLrs : FnScope nLrs ["shelf", "answers", "bound"] (defScope sLrs) := ⟨rfl, rfl, rfl, by decide +kernel, rfl, by decide +kernel, by decide +kernel⟩
abbrev spLrs (C CC U : Addr) : Sp := SpR C CC U (rTup (rTup rStr)) liarsP
theorem ok_liars (T : Glo mg) (F : Fun K "liars" "liars" sLrs f fd) (cCbe : CalX P w K mg base 8 "check_believed" (spCbe C CC U)) (cBby : Cal P w K mg base 7 "believed_by" (spBby C CC)) (cLia : Cal P w K mg base 6 "liars_by" (spLia C CC)) : FnOk P w K mg base (L2.CX P w) 9 f fd ["shelf", "answers", "bound"] (spLrs C CC U) := by
  refine F.okX (N := nLrs) scLrs (fun vs H Q E h => ?_) (fun cdv A outer s H vs Q E hr h => ⟨wpSs _ _, wpSs_pss, ?_⟩)
  · obtain ⟨i, ⟨v, ws, rfl, _, v2, ws2, rfl, _, v3, ws3, rfl, _, rfl⟩, _⟩ := h
    rfl
  · obtain ⟨⟨L, as, b, _⟩, ⟨v, _, rfl, h1, v2, _, rfl, h2, v3, _, rfl, h3, rfl⟩, ⟨hW, hG, hb0, hb3⟩, kE, kQ⟩ := h
    have hW : WF L := hW
    have hG : Good L as := hG
    have h3 : v3 = V.int b := h3
    subst h3
    have h1 : (rShelf C CC).rel H v L := h1
    have h2 : rAs.rel H v2 as := h2
    have hn : as.length ≤ 100 := Nat.le_trans hG.few (by decide)
    have kE : believedBy L as b = [] → ∀ d H', H d = none → Same H H' → H' d = some (.xd [("value", .int b)]) → E (.ref U) (some d) H' := kE
    have kQ : believedBy L as b ≠ [] → ∀ v H', Same H H' → (rTup (rTup rStr)).rel H' v (liarsP L as b) → Q v H' := kQ
    refine ss_expr (wp_callR cCbe (hr.mono (by decide)) (passes_call (takes_of rfl rfl rfl rfl) (fun _ _ _ _ h => h)) (ea_consS (ev_nmS 0 rfl h1) (ea_cons (ev_nm 1 rfl h2) (ea_cons (ev_nm (r := rInt) 2 rfl rfl) ea_nil))) ⟨hW, hG, hb0, hb3⟩ kE fun hk v0 H2 s2 _ => ?_)
    have h1 := (rShelf C CC).up s2 h1
    have h2 := rAs.up (Same.T s2) h2
    have hbl : (believedBy L as b).length ≤ 8 := by
      unfold believedBy
      rw [(sortStr_perm _).length_eq]
      exact Nat.le_trans (List.length_filter_le _ _) (records_len hW)
    have hbm : ∀ z ∈ believedBy L as b, z.length ≤ 1000 := fun z hz => by
      have := (sortStr_perm _).subset hz
      exact rec_len' hW (List.mem_filter.mp this).1
    refine ss_setLc1 (i := 3) (j := 10) (t := rTup rStr) (f := liarsBy L as) (q := fun _ => true) rfl scLrs.nd (blkOk_by (N := nLrs) (sc := defScope sLrs) (by decide +kernel)) (ei_newlist (el_call cBby (hr.mono (by decide)) (ea_consS (ev_nmS 0 rfl h1) (ea_cons (ev_nm 1 rfl h2) (ea_cons (ev_nm (r := rInt) 2 rfl rfl) ea_nil))) ⟨hW, hn⟩)) (by
        show (believedBy L as b).length ≤ 100000
        omega)
      (fun v' z H5 hz s5 rz s H0 C' cl fp => ⟨ef_nil, fun _ => ev_call cLia (hr.mono (by decide)) (o := liarsBy L as z) (ea_consS (ev_nmS 0 rfl ((rShelf C CC).up s5 h1)) (ea_cons (ev_nm 1 rfl (rAs.up (Same.T s5) h2)) (ea_cons (ev_nm 10 rfl rz) ea_nil))) ⟨hW, hn, hbm z hz⟩⟩)
      (fun rp rvs H3 nrp s3 hrp hru => ?_) (sw_true rfl rfl rfl (by decide +kernel))
    rw [filter_true] at hru
    have hru : (rTup rStr).us H3 rvs ((believedBy L as b).map (liarsBy L as)) := hru
    have h1 := (rShelf C CC).up s3 h1
    have h2 := rAs.up (Same.T s3) h2
    have s03 := s2.trans s3
    have hrl : ((believedBy L as b).map (liarsBy L as)).length ≤ 8 := by rw [List.length_map]; exact hbl
    have kQ : ∀ v H', Same H3 H' → (rTup (rTup rStr)).rel H' v ([0, 1, 2].map fun k => (as.filter fun x => decide (kindP ((believedBy L as b).map (liarsBy L as)) x = k)).map (·.1)) → Q v H' := fun v H' s' rv => kQ hk v H' (s03.trans s') rv
    generalize (believedBy L as b).map (liarsBy L as) = rows at hru hrl kQ
    refine ss_par3 (i := 4) (j := 5) (l := 6) (wpA_of (pa_cons (pe_lst pa_nil) (pa_cons (pe_lst pa_nil) (pa_cons (pe_lst pa_nil) pa_nil))) ?_) rfl scLrs.nd (by decide) (by decide) (by decide)
    refine ⟨sz_of (by simp), fun l0 n0 => ⟨sz_of (by simp), fun l1 n1 => ⟨sz_of (by simp), fun l2 n2 => ⟨_, _, _, rfl, ?_⟩⟩⟩⟩
    have d10 : l1 ≠ l0 := fun e => by rw [e, upd_same] at n1; cases n1
    have d21 : l2 ≠ l1 := fun e => by rw [e, upd_same] at n2; cases n2
    have d20 : l2 ≠ l0 := fun e => by rw [e, upd_ne d10.symm, upd_same] at n2; cases n2
    have n1' : H3 l1 = none := by rw [upd_ne d10] at n1; exact n1
    have n2' : H3 l2 = none := by rw [upd_ne d21, upd_ne d20] at n2; exact n2
    have hl0 : upd (upd (upd H3 l0 (.lst [])) l1 (.lst [])) l2 (.lst []) l0 = some (.lst []) := by rw [upd_ne d20.symm, upd_ne d10.symm, upd_same]
    have hl1 : upd (upd (upd H3 l0 (.lst [])) l1 (.lst [])) l2 (.lst []) l1 = some (.lst []) := by rw [upd_ne d21.symm, upd_same]
    have hl2 : upd (upd (upd H3 l0 (.lst [])) l1 (.lst [])) l2 (.lst []) l2 = some (.lst []) := upd_same
    have sA : Same H3 (upd (upd (upd H3 l0 (.lst [])) l1 (.lst [])) l2 (.lst [])) := (Same.new n0).trans ((Same.new n1).trans (Same.new n2))
    generalize upd (upd (upd H3 l0 (.lst [])) l1 (.lst [])) l2 (.lst []) = HA at hl0 hl1 hl2 sA
    have hw : Same H3 (wo (wo (wo HA l0) l1) l2) := fun b o e => by
      rw [wo_ne (ne_of_none e n2'), wo_ne (ne_of_none e n1'), wo_ne (ne_of_none e n0)]
      exact sA _ _ e
    refine ss_for2 (j1 := 7) (j2 := 8) (r := rStr) (r' := rStr) (xs := as) (Hb := wo (wo (wo HA l0) l1) l2) (((wo_same _ _).trans (wo_same _ _)).trans (wo_same _ _)) (ei_tup (ev_nm 1 rfl (rAs.up (Same.T hw) h2))) rfl (passes_of rfl) scLrs.nd (fun B H4 b1 b2 b3 fr => ?_)
    have c2 : B l2 = none := fr l2 (by rw [hl2]; simp) (wo_at _ _)
    have c1 : B l1 = none := fr l1 (by rw [hl1]; simp) (by rw [wo_ne d21.symm, wo_at])
    have c0 : B l0 = none := fr l0 (by rw [hl0]; simp) (by rw [wo_ne d20.symm, wo_ne d10.symm, wo_at])
    refine ⟨fun m σ' H' => Same B H' ∧ SameT H4 H' ∧ ∃ v0 v1 v2' o1 o2 o3 o4 o5, H' l0 = some (.lst v0) ∧ H' l1 = some (.lst v1) ∧ H' l2 = some (.lst v2') ∧ rStr.us H' v0 (((as.take m).filter fun x => decide (kindP rows x = 0)).map (·.1)) ∧ rStr.us H' v1 (((as.take m).filter fun x => decide (kindP rows x = 1)).map (·.1)) ∧ rStr.us H' v2' (((as.take m).filter fun x => decide (kindP rows x = 2)).map (·.1)) ∧ σ' = [some v, some v2, some (.int b), some (.ref rp), some (.ref l0), some (.ref l1), some (.ref l2), o1, o2, o3, o4, o5],
      ⟨b2, SameT.refl _, [], [], [], _, _, _, _, _, b3 _ _ hl0, b3 _ _ hl1, b3 _ _ hl2, .nil, .nil, .nil, rfl⟩, fun m σ' H' h => ⟨h.1, h.2.1⟩, ?_, ?_⟩
    · rintro m x v6 v7 σ' Ha Hc hx ⟨sB, sT, v0, v1, v2', o1, o2, o3, o4, o5, e0, e1, e2, u0, u1, u2, rfl⟩ sC r1 r2
      have hm : m < as.length := (List.getElem?_eq_some_iff.mp hx).1
      have sHc : Same H3 Hc := (hw.trans b1).trans (sB.trans sC)
      refine ss_setLc1 (i := 9) (j := 11) (r := rTup rStr) (t := rBool) (f := fun row : List Str => decide (x.1 ∈ row)) (q := fun _ => true) rfl scLrs.nd (blkOk_by (N := nLrs) (sc := defScope sLrs) (by decide +kernel)) (ei_list (ev_nm (r := rVal) 3 rfl rfl) (sHc _ _ hrp) (R.us_up (Same.T sHc) hru)) (by omega)
        (fun v' row H5 hz s5 rz s H0 C cl fp => ⟨ef_nil, fun _ => ev_inT (ev_nm 7 rfl (rStr.up (Same.T s5) r1)) (ev_nm 11 rfl rz)⟩)
        (fun mp mvs H5 nmp s5 hmp hmu => ?_) (sw_true rfl rfl rfl (by decide +kernel))
      rw [filter_true] at hmu
      have hmu : rBool.us H5 mvs (marksP rows x) := hmu
      have hl : ∀ (u : List V) (j : Nat), rStr.us Ha u (((as.take m).filter fun x => decide (kindP rows x = j)).map (·.1)) → u.length < 100000 := fun u j hu => by
        rw [us_length hu, List.length_map]
        exact Nat.lt_of_le_of_lt (List.length_filter_le _ _) (by rw [List.length_take]; omega)
      have sA5 : Same Ha H5 := sC.trans s5
      have up5 : ∀ {u : List V} {ys : List Str} (hu : rStr.us Ha u ys) {H8 : Hp} {li : Addr} {wv : List V} {o : HO}, Same Ha H8 → H8 li = some (.lst wv) → rStr.us (upd H8 li o) u ys := fun {_ _} hu {_ _ _ _} s8 h8 => R.us_up ((Same.T s8).trans (SameT.upd h8)) hu
      refine ss_if (k := (marksP rows x).all id) (et_val (ev_allK rfl T.all (ev_nm (r := rVal) 9 rfl rfl) hmp hmu)) (fun hA H6 s6 => ?_) (fun hA H6 s6 => ?_)
      · have hk : kindP rows x = 0 := by unfold kindP; rw [hA]; rfl
        have sA6 := sA5.trans s6
        refine ss_app (l := l0) (r := rStr) (x := x.1) (sA6 _ _ e0) (hl _ _ u0) (ev_nm (r := rVal) 4 rfl rfl) (ev_nm 7 rfl (rStr.up (Same.T (s5.trans s6)) r1)) (fun v8 H8 s8 r8 => ss_nil (ss_nil ?_))
        have q0 := s8 _ _ (sA6 _ _ e0)
        have sA8 := sA6.trans s8
        refine ⟨Same.mut (sB.trans sA8) c0, sT.trans ((Same.T sA8).trans (SameT.upd q0)), _, _, _, _, _, _, _, _, upd_same, by rw [upd_ne d10]; exact sA8 _ _ e1, by rw [upd_ne d20]; exact sA8 _ _ e2, ?_, ?_, ?_, rfl⟩
        · rw [partP_step hx, if_pos hk]
          exact paired_append (up5 u0 sA8 q0) (.cons (rStr.up (SameT.upd q0) r8) .nil)
        · rw [partP_step hx, if_neg (by rw [hk]; decide), List.append_nil]
          exact up5 u1 sA8 q0
        · rw [partP_step hx, if_neg (by rw [hk]; decide), List.append_nil]
          exact up5 u2 sA8 q0
      · refine ss_if (k := (marksP rows x).any id) (et_val (ev_anyK rfl T.any (ev_nm (r := rVal) 9 rfl rfl) (s6 _ _ hmp) (R.us_up (Same.T s6) hmu))) (fun hB H7 s7 => ?_) (fun hB H7 s7 => ?_)
        · have hk : kindP rows x = 2 := by unfold kindP; rw [hA, hB]; rfl
          have sA7 := (sA5.trans s6).trans s7
          refine ss_app (l := l2) (r := rStr) (x := x.1) (sA7 _ _ e2) (hl _ _ u2) (ev_nm (r := rVal) 6 rfl rfl) (ev_nm 7 rfl (rStr.up (Same.T ((s5.trans s6).trans s7)) r1)) (fun v8 H8 s8 r8 => ss_nil (ss_nil (ss_nil ?_)))
          have sA8 := sA7.trans s8
          have q0 := sA8 _ _ e2
          refine ⟨Same.mut (sB.trans sA8) c2, sT.trans ((Same.T sA8).trans (SameT.upd q0)), _, _, _, _, _, _, _, _, by rw [upd_ne d20.symm]; exact sA8 _ _ e0, by rw [upd_ne d21.symm]; exact sA8 _ _ e1, upd_same, ?_, ?_, ?_, rfl⟩
          · rw [partP_step hx, if_neg (by rw [hk]; decide), List.append_nil]
            exact up5 u0 sA8 q0
          · rw [partP_step hx, if_neg (by rw [hk]; decide), List.append_nil]
            exact up5 u1 sA8 q0
          · rw [partP_step hx, if_pos hk]
            exact paired_append (up5 u2 sA8 q0) (.cons (rStr.up (SameT.upd q0) r8) .nil)
        · have hk : kindP rows x = 1 := by unfold kindP; rw [hA, hB]; rfl
          have sA7 := (sA5.trans s6).trans s7
          refine ss_app (l := l1) (r := rStr) (x := x.1) (sA7 _ _ e1) (hl _ _ u1) (ev_nm (r := rVal) 5 rfl rfl) (ev_nm 7 rfl (rStr.up (Same.T ((s5.trans s6).trans s7)) r1)) (fun v8 H8 s8 r8 => ss_nil (ss_nil (ss_nil ?_)))
          have sA8 := sA7.trans s8
          have q0 := sA8 _ _ e1
          refine ⟨Same.mut (sB.trans sA8) c1, sT.trans ((Same.T sA8).trans (SameT.upd q0)), _, _, _, _, _, _, _, _, by rw [upd_ne d10.symm]; exact sA8 _ _ e0, upd_same, by rw [upd_ne d21]; exact sA8 _ _ e2, ?_, ?_, ?_, rfl⟩
          · rw [partP_step hx, if_neg (by rw [hk]; decide), List.append_nil]
            exact up5 u0 sA8 q0
          · rw [partP_step hx, if_pos hk]
            exact paired_append (up5 u1 sA8 q0) (.cons (rStr.up (SameT.upd q0) r8) .nil)
          · rw [partP_step hx, if_neg (by rw [hk]; decide), List.append_nil]
            exact up5 u2 sA8 q0
    · rintro σ' H' ⟨sB, sT, v0, v1, v2', o1, o2, o3, o4, o5, e0, e1, e2, u0, u1, u2, rfl⟩
      rw [List.take_length] at u0 u1 u2
      refine ss_ret (ev_tup (r := rTup rStr) (el_cons (ev_tupleK T.tuple (ev_nm (r := rVal) 4 rfl rfl) e0 u0).tupN (el_cons (ev_tupleK T.tuple (ev_nm (r := rVal) 5 rfl rfl) e1 u1).tupN (el_cons (ev_tupleK T.tuple (ev_nm (r := rVal) 6 rfl rfl) e2 u2).tupN el_nil))) (by simp)) (fun v9 H9 s9 rv => kQ v9 H9 (((hw.trans b1).trans sB).trans s9) rv)
end
end LK
set_option maxHeartbeats 4000000
namespace LK
open PySem PySem.Spec PyProof.Rows L2
/-! ### one piece's value -/
def bsOf (z : Str) : List Bool := (signs z).map fun c => decide (c = ("1" : Str))
def natOf : List Bool → Nat
  | [] => 0
  | b :: r => (if b then 1 else 0) + 2 * natOf r
theorem rec_bits : ∀ n, n ≤ 3 → ∀ z ∈ valuesBy n, recordBits z = natOf (bsOf z) ∧ signs z = (bsOf z).map (fun b => if b then ("1" : Str) else "0") ∧ (bsOf z).length = n := by decide +kernel
theorem one_zero : (("0" : Str) = "1") = False := by simp; decide +kernel
theorem bits_eq (parts pc : List Str) (bs : List Bool) (h3 : parts.length ≤ 3) (hl : bs.length = parts.length) :
    ((parN (bitsOf parts pc &&& natOf bs) : Nat) : Int) = (((parts.zip (bs.map fun b => if b then ("1" : Str) else "0")).filter fun x => decide (x.1 ∈ pc)).map fun x => if x.2 = ("1" : Str) then (1 : Int) else 0).sum % 2 := by
  have hz := one_zero
  match parts, bs, hl, h3 with
  | [], [], _, _ => simp [bitsOf, numbered, natOf, parN]
  | [a], [p], _, _ =>
    by_cases ha : a ∈ pc <;> cases p <;> simp [bitsOf, numbered, natOf, ha, hz, List.range, List.range.loop] <;> decide
  | [a, b], [p, q], _, _ =>
    by_cases ha : a ∈ pc <;> by_cases hb : b ∈ pc <;> cases p <;> cases q <;> simp [bitsOf, numbered, natOf, ha, hb, hz, List.range, List.range.loop] <;> decide
  | [a, b, c], [p, q, r], _, _ =>
    by_cases ha : a ∈ pc <;> by_cases hb : b ∈ pc <;> by_cases hc : c ∈ pc <;> cases p <;> cases q <;> cases r <;> simp [bitsOf, numbered, natOf, ha, hb, hc, hz, List.range, List.range.loop] <;> decide
  | _ :: _ :: _ :: _ :: _, _, _, h => simp at h
theorem value_eq {parts pc : List Str} {z : Str} (h3 : parts.length ≤ 3) (hz : z ∈ valuesBy parts.length) : ((parN (bitsOf parts pc &&& recordBits z) : Nat) : Int) = pieceVal parts pc z := by
  obtain ⟨h1, h2, h4⟩ := rec_bits _ h3 z hz
  unfold pieceVal
  rw [h1, h2]
  exact bits_eq parts pc (bsOf z) h3 h4
/-! ### a keeper's spots, its answer -/
theorem spots_none {k : Str} : ∀ {names : List Str} {pieces : List (List (List Str))}, k ∉ names → (((names.zip pieces).flatMap fun x => (List.range x.2.length).map fun i => (x.1, i)).filter fun s => decide (s.1 ∈ [k])) = []
  | [], _, _ => rfl
  | _ :: _, [], _ => rfl
  | n :: ns, p :: ps, h => by
    have h1 : n ≠ k := fun e => h (by rw [e]; exact List.mem_cons_self)
    have h2 : k ∉ ns := fun e => h (List.mem_cons_of_mem _ e)
    rw [List.zip_cons_cons, List.flatMap_cons, List.filter_append, spots_none h2, List.append_nil]
    rw [List.filter_eq_nil_iff]
    intro s hs
    obtain ⟨i, _, rfl⟩ := List.mem_map.mp hs
    simpa using h1
theorem spots_at {k : Str} : ∀ {names : List Str} {pieces : List (List (List Str))}, names.Nodup → pieces.length = names.length → k ∈ names →
    (((names.zip pieces).flatMap fun x => (List.range x.2.length).map fun i => (x.1, i)).filter fun s => decide (s.1 ∈ [k])) = (List.range (pieces.getD (names.idxOf k) []).length).map fun i => (k, i)
  | [], _, _, _, h => by cases h
  | n :: ns, [], _, hl, _ => by simp at hl
  | n :: ns, p :: ps, nd, hl, h => by
    rw [List.zip_cons_cons, List.flatMap_cons, List.filter_append]
    have hn := List.nodup_cons.mp nd
    by_cases e : n = k
    · subst e
      rw [spots_none hn.1, List.append_nil, List.idxOf_cons_self, List.getD_cons_zero, List.filter_eq_self.mpr]
      intro s hs
      obtain ⟨i, _, rfl⟩ := List.mem_map.mp hs
      simp
    · have hk : k ∈ ns := by rcases List.mem_cons.mp h with h | h; exact absurd h.symm e; exact h
      have ih := spots_at (pieces := ps) hn.2 (by simpa using hl) hk
      have ix : (n :: ns).idxOf k = ns.idxOf k + 1 := by
        rw [List.idxOf_cons, beq_false_of_ne e]
        rfl
      rw [ih, ix, List.getD_cons_succ]
      have : ((List.range p.length).map fun i => (n, i)).filter (fun s => decide (s.1 ∈ [k])) = [] := by
        rw [List.filter_eq_nil_iff]
        intro s hs
        obtain ⟨i, _, rfl⟩ := List.mem_map.mp hs
        simpa using e
      show ((List.range p.length).map fun i => (n, i)).filter _ ++ _ = _
      rw [this, List.nil_append]
theorem spotsOf_one {L : Lore} (W : WF L) {k : Str} (h : k ∈ L.names) : spotsOf L [k] = (List.range (L.pieces.getD (L.names.idxOf k) []).length).map fun i => (k, i) := spots_at W.nd W.len h
theorem range_getD {α : Type} (l : List α) (d : α) : (List.range l.length).map (fun i => l.getD i d) = l := by
  apply List.ext_getElem
  · simp
  · intro i h1 h2
    simp [List.getD_eq_getElem?_getD, List.getElem?_eq_getElem h2]
theorem answer_eq {L : Lore} (W : WF L) {k z : Str} (h : k ∈ L.names) (hz : z ∈ valuesBy L.parts.length) : answerOf L k z = lawAns L k z := by
  show Txt.join "" ((spotsOf L [k]).map fun s => numS (valueAt L s z)) = _
  rw [spotsOf_one W h, List.map_map]
  unfold lawAns
  congr 1
  generalize hp : L.pieces.getD (L.names.idxOf k) [] = ps
  have : (fun pc => (toString (pieceVal L.parts pc z) : Str)) = fun pc => numS (parN (bitsOf L.parts pc &&& recordBits z)) := by
    funext pc
    unfold numS
    rw [value_eq W.p3 hz]
  have e2 : (fun pc => (Str.ofString (toString (pieceVal L.parts pc z)))) = fun pc => numS (parN (bitsOf L.parts pc &&& recordBits z)) := this
  rw [e2]
  conv => rhs; rw [← range_getD ps []]
  rw [List.map_map]
  refine List.map_congr_left fun i _ => ?_
  show numS (parN (bitsOf L.parts (pieceOf L (k, i)) &&& recordBits z)) = _
  unfold pieceOf
  rw [hp]
  rfl
end LK
set_option maxHeartbeats 4000000
namespace LK
open PySem PySem.Spec PyProof.Rows L2
/-! ### a caught exception, known from then on -/
/-- at a: an exception of the class, its dict at d -/
def exC (a : Addr) (cls : Value) (d : Option Addr) : HO := .ext fun h => ∃ (oe : Obj) (vs : Array Value), h.get? a = some oe ∧ oe.cls = cls ∧ oe.dict = d ∧ oe.data = .fields vs
theorem exC_ok {P : Program} {w : World} {H : Hp} {h : Heap} {a : Addr} {cls : Value} {d : Option Addr} {oe : Obj} {vs : Array Value} (he : h.get? a = some oe) (hz : Zc cls d oe) (hd : oe.data = .fields vs) : ObjOk P w H h a (exC a cls d) :=
  ⟨⟨oe, vs, he, hz.1, hz.2, hd⟩, ⟨_, he⟩, fun h1 h2 z k => by
    obtain ⟨o, v, q, r⟩ := z
    exact ⟨o, v, k _ q, r⟩⟩
theorem exC_at {P : Program} {w : World} {H : Hp} {h : Heap} {a : Addr} {cls : Value} {d : Option Addr} (hok : HOk P w H h) (he : H a = some (exC a cls d)) : ∃ (oe : Obj) (vs : Array Value), h.get? a = some oe ∧ oe.cls = cls ∧ oe.dict = d ∧ oe.data = .fields vs := by
  have x : ObjOk P w H h a (exC a cls d) := hok a _ he
  exact x.1
section
variable {X : Cx} {pins : List (Addr × Obj)} {σ : L2.St} {H : Hp} {s sI s' : Shared} {B : Heap}
theorem inv_landed {a : Addr} {cls : Value} {d : Option Addr} {oe : Obj} {vs : Array Value} (I : Inv X pins σ H sI) (nb : ∀ b o, sI.heap.get? b = some o → b ∉ frs X.stack → B.get? b = some o) (st : B.StaysIn s'.heap) (up : sI.heap.UpToSlots s'.heap) (os : s'.os = sI.os) (ag : AllBare s'.gens)
    (ba : B.get? a = none) (nfr : a ∉ frs X.stack) (na : H a = none) (he : s'.heap.get? a = some oe) (hz : Zc cls d oe) (hd : oe.data = .fields vs) : Inv X pins σ (upd H a (exC a cls d)) s' := by
  have J := I.landed nb st up os ag
  have noI : ∀ b o, sI.heap.get? b = some o → b ≠ a := fun b o e z => by
    by_cases hb : b ∈ frs X.stack
    · exact nfr (z ▸ hb)
    · have := nb b o e hb
      rw [z, ba] at this
      cases this
  have nf : ∀ b ∈ frs X.stack, ∀ o, sI.heap.get? b = some o → ∃ sl, s'.heap.get? b = some { o with slots := sl } := fun b hb o e => by
    obtain ⟨_, o', e', hd'⟩ := I.stack.mem hb
    rw [e] at e'; cases e'
    exact up b o e hd'
  refine I.call' (ch := []) os ⟨fun b o e _ hb _ => st b o (nb b o e hb), fun b o e _ hb _ => nf b hb o e, fun b o e n _ => by rw [upd_ne (noI b o e)]; exact n, fun b o e _ => by
      by_cases hb : b ∈ frs X.stack
      · obtain ⟨sl, q⟩ := nf b hb o e
        exact ⟨_, q⟩
      · exact ⟨o, st b o (nb b o e hb)⟩, fun b xs e => by rw [upd_ne (ne_of_none e na)]; exact e, fun b o u e => by rw [upd_ne (ne_of_none e na)]; exact e, fun b ps e => ⟨#[], by rw [upd_ne (ne_of_none e na), e]; simp⟩⟩
    (fun b o e => ?_) ag (fun _ z => nomatch z)
  by_cases hb : b = a
  · subst hb
    rw [upd_same] at e
    cases e
    exact exC_ok he hz hd
  · rw [upd_ne hb] at e
    exact (J.hok b o e).stay (fun c v _ q => q) (fun c q => by rw [upd_ne (ne_of_none q na)]; exact q) fun c xs q => by rw [upd_ne (ne_of_none q na)]; exact q
theorem inv_suite (I : Inv X pins σ H s) (a : Addr) : Inv (X.suite a (X.pn ++ pins)) [] σ H s :=
  ⟨I.ok.suite _ _, I.os, I.bare, I.base, I.loc, I.cell, I.free, I.freeC, fun p hp => I.pin p (by rw [List.append_nil] at hp; exact hp), I.hok, I.len⟩
theorem inv_unsuite {a : Addr} {pn' : List (Addr × Obj)} (I : Inv (X.suite a (X.pn ++ pins)) pn' σ H s) (ok : X.Ok) : Inv X pins σ H s :=
  ⟨ok, I.os, I.bare, I.base, I.loc, I.cell, I.free, I.freeC, fun p hp => I.pin p (List.mem_append_left _ hp), I.hok, I.len⟩
end
/-- what 'except x as n' wishes here: each exception is caught, and known in the suite; slot i is n's -/
def wCat (K : PySem.W.Frag) (c : Value) (i : Nat) (ts : TS) (D : Ends) : WX := fun cls d σ H =>
  PySem.W.exmOne K cls c = some true ∧ ∀ a, H a = none → ts { nx := fun σ' H' => D.nx (σ'.set i none) H', rt := D.rt, bk := fun σ' H' => D.bk (σ'.set i none) H', ct := fun σ' H' => D.ct (σ'.set i none) H' } (σ.set i (some (.ref a))) (upd H a (exC a cls d))
section
variable {X : Cx} {x n : Str} {c : Value} {i : Nat} {body suite : List Stmt} {b₀ : Stmt} {np pos pos' : Pos} {tb : WX → TS} {ts : TS}
theorem ps_try_cat (hs : X.stack = X.env :: X.outer) (hf : X.env.frame = some X.env.locals) (hN : X.N.Nodup) (hi : X.N[i]? = some n) (hln : X.env.kindOf n = some .local) (hc : Names X x c)
    (hb : ∀ (W : WX) (pn : List (Addr × Obj)) (xe : Value → Shared → Prop), Takes (X.tr pn xe) W → PassesOwn (model X.prog X.w) X.A X.env xe → PSs (X.tr pn xe) body (tb W))
    (hsu : ∀ (a : Addr) (pn : List (Addr × Obj)), PSs (X.suite a pn) (b₀ :: suite) ts) :
    PS X (.Try body [.ExceptHandler (some (.Name x np)) (some n) (b₀ :: suite) pos'] [] [] pos) (fun D σ H => tb (wCat X.K c i ts D) D σ H) := by
  refine ⟨fun pins s σ H D I h => ?_⟩
  have ok := I.ok
  have hfr : X.A.frames = some (X.env :: X.outer) := by rw [ok.frames, hs]
  refine wpAny_Try_except ?_
  refine wpAny_mono ((hb (wCat X.K c i ts D) (X.pn ++ pins) (fun e s₁ => wpAny (model X.prog X.w) X.A (noteFrame e X.env) (fun _ s₂ => wpAny (model X.prog X.w) X.A (setFlight e none) (fun _ s₃ =>
    wpAny (model X.prog X.w) X.A (handleBy e X.env [.ExceptHandler (some (.Name x np)) (some n) (b₀ :: suite) pos']) (SP X pins D) X.xe s₃) X.xe s₂) X.xe s₁) (fun u s' xx => ?_) PassesOwn.looking).run [] s σ H D (I.toTry _) h) (fun f s1 hsp => ?_) (fun e s1 he => he)
  · obtain ⟨a, B, sI, pins', σ', H', cls, d, rfl, J', nb, up, sky, na, os, ag, hb1, hyes⟩ := xx
    have J : Inv X pins σ' H' sI := J'.ofTry ok
    have sky' : Sky B (X.env :: X.outer) a (Zc cls d) X.env.locals s'.heap := by rw [← hs]; exact sky
    refine Sky.land Zc.steady hfr hf sky' fun h3 fl3 up3 => ?_
    have J3 : Inv X pins σ' H' { s' with heap := h3 } := J.landed nb fl3.1 (up.trans up3) os ag
    obtain ⟨oe3, vs3, he3, hz3, hd3⟩ := fl3.there
    have nfr : a ∉ frs (X.env :: X.outer) := fun hm => by
      obtain ⟨_, o', e', hnf⟩ := fl3.2.2.1.mem hm
      rw [he3] at e'; cases e'
      exact hnf _ hd3
    have S3 := inv_suite J3 a
    refine wpAny_handleBy_cons (codeAny_handlers_test ?_) (by intro q; cases q)
    have LT : PySem.W.Looks (model X.prog X.w) h3 (typeOf (.ref a)) cls := fun A Q E s k q => wpAny_typeOf_ref (k _ _ he3) (by rw [hz3.1]; exact q)
    have LM := PySem.W.exm_one (M := model X.prog X.w) (J3.kIn) LT hb1
    have test : ∀ {Q : Value → Shared → Prop} {E : Value → Shared → Prop}, Q c { s' with heap := h3 } → wpAny (model X.prog X.w) (X.A.mark (some (.ref a))) (eval (.Name x np) X.env) Q E { s' with heap := h3 } := fun {Q E} q => by
      obtain ⟨hg, hdbg, hm | ⟨hm, hv, hnn⟩⟩ := hc
      · exact ld_glob (X := X.suite a (X.pn ++ pins)) S3 hg hm q hdbg
      · exact ld_blt (X := X.suite a (X.pn ++ pins)) S3 hg hm hv q hnn hdbg
    refine test (LM.here ?_)
    refine codeAny_handlers_suite_as ?_
    refine HandSPX.lands_againZ fl3 fun h4 fl4 up4 => ?_
    obtain ⟨oe4, vs4, he4, hz4, hd4⟩ := fl4.there
    have J4 : Inv X pins σ' (upd H' a (exC a cls d)) { s' with heap := h4 } := inv_landed J nb fl4.1 ((up.trans up3).trans up4) os ag fl4.2.1 (by rw [hs]; exact nfr) na he4 hz4 hd4
    refine store_ok (X := X.suite a (X.pn ++ pins)) (v := .ref a) (inv_suite J4 a) hN hi (.inl hln) rfl (fun s5 S5 => ?_) (.inr hln)
    refine wpAny_mono ((hsu a (X.pn ++ pins)).run [] s5 _ _ _ S5 (hyes a na)) (fun f s6 hsp => ?_) (fun _ _ z => False.elim z)
    have end_ : ∀ {σ6 : L2.St} {H6 : Hp} {Q : Shared → Prop}, Inv (X.suite a (X.pn ++ pins)) [] σ6 H6 s6 → (∀ s7, Inv X pins (σ6.set i none) H6 s7 → Q s7) →
        wpAny (model X.prog X.w) X.A (do bindName X.env n .none; unbindBehindTheSuite X.env n pos') (fun _ s7 => Q s7) X.xe s6 := fun {σ6 H6 Q} S6 hq => gone_ok (inv_unsuite S6 ok) hN hi hln hq
    cases f with
    | next =>
      obtain ⟨σ6, H6, S6, q6⟩ := hsp
      exact end_ S6 fun s7 J7 => ⟨_, _, J7, q6⟩
    | brk =>
      obtain ⟨σ6, H6, S6, q6⟩ := hsp
      exact end_ S6 fun s7 J7 => ⟨_, _, J7, q6⟩
    | cont =>
      obtain ⟨σ6, H6, S6, q6⟩ := hsp
      exact end_ S6 fun s7 J7 => ⟨_, _, J7, q6⟩
    | ret u =>
      obtain ⟨v6, σ6, H6, S6, r6, q6⟩ := hsp
      exact end_ S6 fun s7 J7 => ⟨_, _, _, J7, r6, q6⟩
  · cases f with
    | next =>
      obtain ⟨σ', H', J', q⟩ := hsp
      exact wpAny_execs_nil ⟨σ', H', J'.ofTry ok, q⟩
    | brk =>
      obtain ⟨σ', H', J', q⟩ := hsp
      exact ⟨σ', H', J'.ofTry ok, q⟩
    | cont =>
      obtain ⟨σ', H', J', q⟩ := hsp
      exact ⟨σ', H', J'.ofTry ok, q⟩
    | ret u =>
      obtain ⟨v, σ', H', J', r, q⟩ := hsp
      exact ⟨v, σ', H', J'.ofTry ok, r, q⟩
end
end LK
set_option maxHeartbeats 4000000
namespace LK
open PySem PySem.Spec PyProof.Rows L2
/-! ### a lambda handed over: what the called one lets out is told of the slots at the call -/
section
variable {X : Cx} {pins : List (Addr × Obj)} {σ : L2.St} {H HZ : Hp} {s s1 : Shared}
abbrev gCx (X : Cx) (Ng : List Str) (x : Str) (sg : Scope) (g : Addr) (cdg : Value) (s : Shared) (H : Hp) : Cx := cxOf C8.CX0 X.prog X.w X.K X.mg X.base Ng x sg g cdg X.A X.stack s H C8.E0
theorem pe_actS {Ng : List Str} {qg : Str} {sg : Scope} {g f c' : Addr} {cdg pm ctv : Value} {params : Arguments} {body : Expr} {scope : Scope} {k i : Nat} {a : Str} {pn : List (Addr × Obj)} {xe : Value → Shared → Prop} {W : WX} {tb : XK → TE} {p1 p2 : Pos}
    (I : Inv X pins σ H s) (L : LamX.LamS X.env.scope scope) (hf : s.heap.get? f = some (PySem.W.kla_obj "<lambda>" (X.env.qual ++ "<lambda>") params body scope (cloFrom X.env.cells scope.names []) pm c' ctv)) (hfn : H f = none) (hfr : f ∉ frs X.stack)
    (hbind : bindArgs (PySem.W.kla_fn "<lambda>" (X.env.qual ++ "<lambda>") params body scope (cloFrom X.env.cells scope.names []) pm (.ref c') ctv) ⟨[], []⟩ = pure [])
    (tk : Takes ((gCx X Ng qg sg g cdg s H).tr pn xe) W) (hr : Room (k + 1) (X.A.deeper (envOfC qg sg s.heap.objs.size g cdg)))
    (hbody : ∀ (A : Around) (outer : List Env) (s : Shared) (H : Hp) (E : XK), Room k (A.deeper (LamX.lamEnv X scope s.heap.objs.size f c')) → PE (LamX.lamCx X A outer s H E scope f c') body (tb E))
    (hN : Ng[i]? = some a) (hv : Vis sg a) (hd : (a == ("__debug__" : Str)) = false := by decide) (hcd : (a == ("__classdict__" : Str)) = false := by decide) :
    PE ((gCx X Ng qg sg g cdg s H).tr pn xe) (.Call (.Name a p1) [] [] p2)
      (fun σZ HZ Q => σZ[i]? = some (some (.ref f)) ∧ HZ c' = some (LamX.CodeO c' (X.env.qual ++ "<lambda>")) ∧ tb (fun cls d H' => W cls d σZ H') σ HZ Q) := by
  refine ⟨fun pinsZ sZ σZ HZ Q IZ ⟨hs, hc, ht⟩ => ?_⟩
  refine wpAny_Call_Name_kw (thn ((pe_var (pos := p1) (i := i) hN hv hd hcd).run pinsZ sZ σZ HZ (fun v H1 => v = .ref f ∧ H1 = HZ) IZ ⟨.ref f, hs, rfl, rfl⟩) fun u s1 ⟨v, H1, I1, r1, ev, eH⟩ => ?_)
  subst ev
  rw [eH] at I1
  obtain rfl : u = Value.ref f := r1
  have of1 : s1.heap.get? f = some (PySem.W.kla_obj "<lambda>" (X.env.qual ++ "<lambda>") params body scope (cloFrom X.env.cells scope.names []) pm c' ctv) := I1.base.keep f _ hf hfn hfr (fun z => nomatch (show f ∈ ([] : List Addr) from z))
  refine PySem.W.callWith_F0 ⟨_, _, _, _, of1⟩ ?_
  have un : Un (frs X.stack) [] H HZ s.heap s1.heap := I1.base
  obtain ⟨⟨oc, vs, t, hoc, hdc, hvc⟩, _, _⟩ := I1.hok c' _ hc
  have rc : codeAny (model X.prog X.w) (X.A.deeper (envOfC qg sg s.heap.objs.size g cdg)) (.call (.ref f) ⟨[], []⟩) (CR (L2.CX X.prog X.w) (envOfC qg sg s.heap.objs.size g cdg :: X.stack) X.prog X.w HZ s1 Q (fun cls d H' => W cls d σZ H')) s1 := by
    refine PySem.W.kla_callFunE hr.depth of1 rfl L.co L.gen rfl ⟨c', oc, vs, t, rfl, hoc, hdc, hvc⟩ ?_
    rw [hbind]
    refine wpAny_pure (wpAny_newFunctionEnv (fun y hy => (L.own y hy).2) (fun y hy => absurd hy (by simp)) (fun h₁ hns hsb => ⟨I1.nolimit.fresh _ hsb, ?_⟩) L.kind)
    show codeAny _ _ (.expr body (LamX.lamEnv X scope s1.heap.objs.size f c')) _ _
    have J := LamX.lam_start2 (E := fun cls d H' => W cls d σZ H') (f := f) (c' := c') (tk := s1.toks + ([] : List (Str × Value)).length) I L I1.env0 hr.hd un hns (fun b o e => hsb.extBut b o (Nat.ne_of_lt (Heap.lt_size e)) (Heap.get?_push_of_some _ e))
    refine PySem.W.kla_codeExpr (wpAny_mono ((hbody _ _ s1 HZ _ (hr.deeper _)).run [] _ _ HZ Q J ht) (fun v s' hq => ?_) fun e s' hq => hq)
    obtain ⟨w', H', J', rv, q⟩ := hq
    exact ⟨w', H', J'.os, J'.bare, J'.base, J'.hok, rv, q⟩
  refine wpAny_call (codeAny_mono rc fun r s' hq => ?_)
  cases r with
  | error e => exact passAt tk σZ pinsZ HZ s1 e s' I1 hq
  | ok fl =>
    cases fl with
    | ret u => exact I1.after hq
    | next => exact False.elim hq
    | brk => exact False.elim hq
    | cont => exact False.elim hq
end
/-- as LamX.GivesTo, the call's exceptions told of the slots -/
def Gives (X : Cx) (Ng : List Str) (x : Str) (sg : Scope) (g : Addr) (cdg : Value) (bg : List Stmt) (a : Str) (q : Str) (TT : (XK → Hp → VK → Prop) → Hp → VK → Prop) : Prop :=
  ∀ (f c' : Addr) (s : Shared) (H : Hp) (Q : VK) (tl : XK → Hp → VK → Prop),
    (∀ (W : WX) (pn : List (Addr × Obj)) (xe : Value → Shared → Prop) (p1 p2 : Pos), Takes ((gCx X Ng x sg g cdg s H).tr pn xe) W →
      PE ((gCx X Ng x sg g cdg s H).tr pn xe) (.Call (.Name a p1) [] [] p2) (fun σZ HZ Q => σZ[0]? = some (some (.ref f)) ∧ HZ c' = some (LamX.CodeO c' q) ∧ tl (fun cls d H' => W cls d σZ H') HZ Q)) →
    H c' = some (LamX.CodeO c' q) → TT tl H Q →
    ∃ t, PSs (gCx X Ng x sg g cdg s H).nox bg t ∧ t { nx := fun _ H' => Q .non H', rt := Q } (L2.start Ng [.ref f]) H
theorem pe_lamcallS {X : Cx} {T : List (Addr × Str)} {TT : (XK → Hp → VK → Prop) → Hp → VK → Prop} {x a : Str} {g c P : Addr} {k : Nat} {pg : Arguments} {bg : List Stmt} {sg : Scope} {dV kV doc pm cdv ct oc : Value} {an od : Option Addr} {osl : Array (Option Value)} {Ng : List Str}
    {params : Arguments} {body : Expr} {scope : Scope} {t : XK → TE} {p lpos pos : Pos} (hg : Gl X x) (hm : X.mg x = some (.ref g)) (hk : PySem.W.keepIn X.K (.ref g) = true)
    (lk : X.K.lookup g = some ⟨oc, od, .func (PySem.W.fnOf x x pg bg sg dV kV doc pm an cdv ct), osl⟩) (hcg : PySem.W.codeIn X.K cdv x = true) (hb : L2.Binds X.K (PySem.W.fnOf x x pg bg sg dV kV doc pm an cdv ct) [a] []) (Sg : FnScope Ng [a] sg) (hNg : Ng[0]? = some a) (hva : Vis sg a)
    (hG : Gives X Ng x sg g cdv bg a (X.env.qual ++ "<lambda>") TT)
    (TB : LamX.TabB X.base X.mg c P) (hcode : X.env.code = .ref c) (hmT : (P, X.env.qual ++ "<lambda>") ∈ T) (hu : ∀ p ∈ T, p.1 = P → p.2 = X.env.qual ++ "<lambda>") (hr : Room (k + 2) X.A) (L : LamX.LamS X.env.scope scope) (hdef : defaultsOf params X.env = ([], []))
    (hbind : ∀ (q : Str) (cl : List (Str × Addr)) (pm cv ctv : Value), bindArgs (PySem.W.kla_fn "<lambda>" q params body scope cl pm cv ctv) ⟨[], []⟩ = pure [])
    (hbody : ∀ (A : Around) (outer : List Env) (s : Shared) (H : Hp) (E : XK) (f c' : Addr), Room k (A.deeper (LamX.lamEnv X scope s.heap.objs.size f c')) → PE (LamX.lamCx X A outer s H E scope f c') body (t E))
    (hdb : (x == ("__debug__" : Str)) = false := by decide) (hd : (a == ("__debug__" : Str)) = false := by decide) (hcd : (a == ("__classdict__" : Str)) = false := by decide) :
    PE X (.Call (.Name x p) [.Lambda params body scope lpos] [] pos) (LamX.tLam T TT t) := by
  refine ⟨fun pins s σ H Q I ⟨hT, h⟩ => ?_⟩
  refine wpAny_Call_Name_kw (ld_glob I hg hm ?_ hdb)
  refine PySem.W.callWith_K (h₀ := X.base) I.ok.mod.kin hk ?_ (by rfl) (by rfl)
  show wpAny _ _ (spliced ((false, eval (.Lambda params body scope lpos) X.env) :: backTo pos (starEach [] X.env))) _ _ s
  refine Calls.spliced_cons (LamX.lam_make2 I TB hcode hmT hu hT hdef (L.has I.ok) fun f c' pm' ctv H1 s' I1 eN T1 hf hfn hfr hco => ?_)
  refine Calls.spliced_nil ⟨I1.kIn, ?_⟩
  have rc : codeAny (model X.prog X.w) X.A (.call (.ref g) ⟨[.ref f], []⟩) (CR C8.CX0 X.stack X.prog X.w H1 s' Q C8.E0) s' := by
    refine LamX.run_ofS (N := Ng) (ps := [a]) (us := [.ref f]) (vs := [.ref f]) lk hcg Sg hr I1.env0 (hb s' [.ref f] I1.kIn rfl) (.cons rfl .nil) rfl fun hr' => ?_
    obtain ⟨t', ht', hq'⟩ := hG f c' s' H1 Q (fun E H' Q' => t E σ H' Q') (fun W pn xe p1 p2 tk => pe_actS (i := 0) I1 L hf hfn hfr (hbind _ _ _ _ _) tk hr' (fun A outer s H E hr2 => hbody A outer s H E f c' hr2) hNg hva hd hcd) hco (h H1 eN T1)
    exact ⟨t', ht'.nox, hq'⟩
  refine wpAny_call (codeAny_mono rc fun r s2 hq => ?_)
  cases r with
  | error e => exact (show False from hq).elim
  | ok fl =>
    cases fl with
    | ret u => exact I1.after hq
    | next => exact False.elim hq
    | brk => exact False.elim hq
    | cont => exact False.elim hq
/-! ### _law_heard -/
abbrev sHea : Stmt := top 75
abbrev nHea : List Str := ["_law_call", "_law_caught", "_law_back", "_law_error"]
theorem scHea : FnScope nHea ["_law_call"] (defScope sHea) := ⟨rfl, rfl, rfl, by decide +kernel, rfl, by decide +kernel, by decide +kernel⟩
/-- what _law_heard makes of the call: (caught, None) or (None, back) -/
def hdE (K : PySem.W.Frag) (CS : Addr) (Q : VK) : XK := fun cls d H' => PySem.W.exmOne K cls (.ref CS) = some true ∧ ∀ a, H' a = none → ∀ t H2, Same (upd H' a (exC a cls d)) H2 → H2 t = some (.tup [.ref a, .non]) → Q (.ref t) H2
def hdQ (Q : VK) : VK := fun v H' => ∀ t H2, Same H' H2 → H2 t = some (.tup [.non, v]) → Q (.ref t) H2
def TTh (K : PySem.W.Frag) (CS : Addr) : (XK → Hp → VK → Prop) → Hp → VK → Prop := fun tl H Q => ∀ HZ (E' : XK) (Q' : VK), Same H HZ → (∀ cls d H', hdE K CS Q cls d H' → E' cls d H') → (∀ v H', hdQ Q v H' → Q' v H') → tl E' HZ Q'
def tsCat : TS := fun D σ H => ∃ v, σ[3]? = some (some v) ∧ D.nx (σ.set 1 (some v)) H
section
variable {X : Cx}
theorem heard_gives {q : Str} {g CS : Addr} {cdg : Value} (hme : X.mg "LotError" = some (.ref CS)) : Gives X nHea "_law_heard" (defScope sHea) g cdg (defBody sHea) "_law_call" q (TTh X.K CS) := by
  intro f c' s H Q tl act hc h
  refine ⟨wpSs _ _, wpSs_pss, ?_⟩
  refine ss_unpack (i := 1) (j := 2) (r := rVal) (r' := rVal) (ev_pair ev_non ev_non) (fun v w H1 s1 r1 r2 => ?_) rfl scHea.nd
  obtain rfl : v = .non := r1
  obtain rfl : w = .non := r2
  refine ss_cons (wpS_of (ps_try_cat (n := "_law_error") (i := 3) (c := .ref CS) (ts := tsCat)
    (tb := fun W D σ H => σ[0]? = some (some (.ref f)) ∧ H c' = some (LamX.CodeO c' q) ∧ tl (fun cls d H' => W cls d σ H') H (fun v H' => D.nx (σ.set 2 (some v)) H')) rfl rfl scHea.nd rfl rfl ⟨rfl, by decide, .inl hme⟩ (fun W pn xe tk _ => ?_) (fun a pn => ?_)) ?_)
  · exact pss_one (ps_set (i := 2) scHea.nd rfl (.inl rfl) (act W pn xe _ _ tk))
  · exact pss_one (ps_set (i := 1) scHea.nd rfl (.inl rfl) (pe_var (i := 3) rfl (.inl rfl)))
  · refine ⟨rfl, s1 _ _ hc, ?_⟩
    refine h H1 _ _ s1 (fun cls d H' q => ⟨q.1, fun a na => ⟨_, rfl, ?_⟩⟩) (fun v H' q => ?_)
    · exact ss_ret (ev_pair (ev_nm (r := rVal) 1 rfl rfl) (ev_nm (r := rVal) 2 rfl rfl)) (fun u H2 s2 ru => by
        obtain ⟨t, w1, w2, rfl, ht, r1, r2⟩ := ru
        obtain rfl : w1 = .ref a := r1
        obtain rfl : w2 = .non := r2
        exact q.2 a na t H2 s2 ht)
    · exact ss_ret (ev_pair (ev_nm (r := rVal) 1 rfl rfl) (ev_nm (r := rVal) 2 rfl rfl)) (fun u H2 s2 ru => by
        obtain ⟨t, w1, w2, rfl, ht, r1, r2⟩ := ru
        obtain rfl : w1 = .non := r1
        obtain rfl : w2 = v := r2
        exact q t H2 s2 ht)
end
end LK
set_option maxHeartbeats 4000000
namespace LK
open PySem PySem.Spec PyProof.Rows L2
section
variable {X : Cx} {α β : Type} {r : R α} {t : R β} {x : α} {e : Expr} {σ : L2.St} {H : Hp} {pos p p2 : Pos} {n : Str}
/-! ### repr of data -/
theorem call_reprD (hg : X.A.guards = some []) (hu : X.A.units + 64 < cLine) : CallR X (.builtin "repr") (fun xs H Q => ∃ a d, xs = [.ref a] ∧ Dp X.K H (.ref a) d ∧ d.showable = true ∧ d.hasDict = false ∧ d.depth ≤ 8 ∧ d.shown.length ≤ sizeLine ∧ Q (.str d.shown) H) := by
  intro pins s σ H xs us Q I rr h
  obtain ⟨a, d, rfl, dp, hs, hd, hdp, hz, q⟩ := h
  obtain ⟨u, rfl, ru⟩ := vals1 rr
  obtain rfl : u = Value.ref a := ru
  obtain ⟨as, rd⟩ := Dp.reads I d (.ref a) (.ref a) dp rfl
  exact repr_of_reads' rd hs (PyData.noDict_hsm hd) hg (by omega) (fun b o z => z) (fun h' u tk hk => ⟨.str _, H, I.kept (t' := tk) hk, ⟨_, rfl⟩, q⟩) hz
theorem ev_repr {enc : α → PyData} (hg : X.A.guards = some []) (hu : X.A.units + 64 < cLine) (hm : X.mg "repr" = none) (hE : Enc r enc) (hr : ∀ H v, r.rel H v x → ∃ a, v = .ref a) (ha : Ev X e σ H r x) (hs : (enc x).showable = true) (hd : (enc x).hasDict = false) (hdp : (enc x).depth ≤ 8) (hz : (enc x).shown.length ≤ sizeLine)
    (hgl : Gl X "repr" := by rfl) (he : starEach [e] X.env = (false, eval e X.env) :: starEach [] X.env := by rfl) (hpl : (backTo pos (starEach [] X.env)).any (·.1) = false := by rfl) : Ev X (.Call (.Name "repr" p) [e] [] pos) σ H rStr (enc x).shown :=
  ev_b1 (call_reprD hg hu) (by decide +kernel) hm ha (fun v H1 Q s rv q => by
    obtain ⟨a, rfl⟩ := hr H1 v rv
    exact ⟨a, enc x, rfl, hE.dp _ _ _ _ rv, hs, hd, hdp, hz, q _ H1 (Same.refl _) rfl⟩) hgl (by decide) (by decide) he hpl
theorem enc_nat : Enc rNat (fun k : Nat => PyData.int (k : Int)) := ⟨fun K H v x h => by rw [show v = _ from h]; exact .int _⟩
theorem enc_pair {e1 : α → PyData} {e2 : β → PyData} (h1 : Enc r e1) (h2 : Enc t e2) : Enc (rPair r t) (fun x => PyData.tuple [e1 x.1, e2 x.2]) :=
  ⟨fun K H v x ⟨p, a, b, e, hp, ha, hb⟩ => by rw [e]; exact .tup (SqT.of hp) (.cons (h1.dp K H _ _ ha) (.cons (h2.dp K H _ _ hb) .nil))⟩
def encN (x : Nat × List Str) : PyData := .tuple [.int (x.1 : Int), .tuple (x.2.map PyData.str)]
theorem enc_N : Enc (rPair rNat (rTup rStr)) encN := enc_pair enc_nat (enc_tup enc_str)
/-! ### caught errors -/
def rErr (U : Addr) (b : Int) : R Unit := ⟨fun H v _ => ∃ a d, v = .ref a ∧ H a = some (exC a (.ref U) (some d)) ∧ H d = some (.xd [("value", .int b)]), fun e ⟨a, d, h1, h2, h3⟩ => ⟨a, d, h1, e _ _ h2 trivial, e _ _ h3 trivial⟩⟩
theorem kia_same {prog : Program} {w : World} {A : Around} {E : Value → Shared → Prop} {s : Shared} {Q : Value → Shared → Prop} {a : Addr} {c : Value} (P : Heap → Prop) (hty : ∀ (M : Model) (h : Heap), P h → PySem.W.Looks M h (typeOf (.ref a)) c) (hp : P s.heap) (h : ∀ tk, Q (.bool true) { s with toks := tk }) :
    wpAny (model prog w) A (call (.builtin "isinstance") [.ref a, c]) Q E s := by
  obtain ⟨h0, g, d, tt, os⟩ := s
  refine call_isinstance_of ?_ (fun z => nomatch z)
  unfold Builtin.«isinstance.nested»
  refine wpAny_bind ((hty (model prog w) h0 hp).at ?_)
  rw [if_pos (beq_self_eq_true c)]
  first
    | exact h tt
    | exact wpAny_bind (wpAny_rule (h tt))
    | exact wpAny_bind (wpAny_rule (wpAny_pure (h tt)))
end
section
variable {X : Cx} {e : Expr} {σ : L2.St} {H : Hp} {pos p p2 : Pos} {n : Str} {U : Addr} {b : Int}
theorem call_isErr : CallR X (.builtin "isinstance") (fun xs H Q => ∃ a d, xs = [.ref a, .ref U] ∧ H a = some (exC a (.ref U) d) ∧ Q (.bl true) H) := by
  intro pins s σ H xs us Q I rr h
  obtain ⟨a, d, rfl, ha, q⟩ := h
  cases rr with
  | @cons _ u0 _ ur ra rw' =>
  cases rw' with
  | @cons _ u1 _ ur rv rw' =>
  cases rw'
  obtain rfl : u0 = Value.ref a := ra
  obtain rfl : u1 = Value.ref U := rv
  obtain ⟨oe, vs, he, hz, hd, hf⟩ := exC_at I.hok ha
  exact kia_same (fun h => ∃ oe, h.get? a = some oe ∧ oe.cls = .ref U) (fun M h ⟨oe, he, hz⟩ => fun A Q E s k q => wpAny_typeOf_ref (k _ _ he) (by rw [hz]; exact q)) ⟨oe, he, hz⟩ fun tk => ⟨.bl true, H, I.kept (t' := tk) fun _ _ z => z, rfl, q⟩
theorem ev_isErr {c : Expr} (hm : X.mg "isinstance" = none) (hU : X.mg n = some (.ref U)) (ha : Ev X e σ H (rErr U b) ()) (hc : Ev X c σ H rVal (.ref U)) (hgl : Gl X "isinstance" := by rfl) (he : starEach [e, c] X.env = (false, eval e X.env) :: starEach [c] X.env := by rfl) (he2 : starEach [c] X.env = (false, eval c X.env) :: starEach [] X.env := by rfl)
    (hpl : (backTo pos (starEach [c] X.env)).any (·.1) = false := by rfl) : Ev X (.Call (.Name "isinstance" p) [e, c] [] pos) σ H rBool true := fun H1 s Q q =>
  wpE_of (pe_callB (call_isErr (U := U)) hgl hm (by decide +kernel) (pa_cons wpE_pe (pa_cons wpE_pe pa_nil he2) he) (by decide) (by decide) he hpl)
    (ha H1 s _ fun v H2 s2 rv => hc H2 (s.trans s2) _ fun w H3 s3 rw => by
      obtain ⟨a, d, rfl, h1, h2⟩ := (rErr U b).up (Same.T s3) rv
      exact ⟨a, some d, by rw [show w = V.ref U from rw], h1, q _ H3 (s2.trans s3) rfl⟩)
/-- error.value -/
theorem ev_errval (T : XfC X.K U) (hno : PySem.W.findIn X.K (.ref U) "value" = some none) (ha : Ev X e σ H (rErr U b) ()) (hb : attributeBase e "value" X.env (eval e X.env) = eval e X.env := by rfl) : Ev X (.Attribute e "value" pos) σ H rInt b := fun H1 s Q q => by
  have hp : PE X (.Attribute e "value" pos) (fun σ H Q => wpE X e σ H fun v H2 => (rErr U b).rel H2 v () ∧ Q (.int b) H2) := by
    refine ⟨fun pins s σ H Q I h => ?_⟩
    refine attr_of hb (thn (h.run pins s I) fun u s1 hh => ?_)
    obtain ⟨x, H1, I1, rx, ⟨a, d, rfl, h1, h2⟩, q⟩ := hh
    obtain rfl : u = Value.ref a := rx
    obtain ⟨oe, vs, he, hz, hd, hf⟩ := exC_at I1.hok h1
    have hx : ObjOk X.prog X.w H1 s1.heap d (.xd [("value", .int b)]) := I1.hok d _ h2
    obtain ⟨mA, hns, hr⟩ := hx
    obtain ⟨od, ho, hl⟩ := lookIn_ns hns
    obtain ⟨u, hu, ru⟩ := RelO.some_of (v := V.int b) (o := mA "value") (by have := hr "value"; exact this)
    have J : PySem.W.InstAt s1.heap a oe U (some od) := ⟨he, hz, by unfold PySem.W.notCls; rw [hf] <;> rfl, by rw [hd]; exact ho⟩
    exact HandSPX.exc_get I1.kIn J T.ga T.gg T.exC (PySem.W.findObj_own T.hdC hno rfl (by rw [hl, hu])) (handed_of ru) ⟨_, H1, I1.tok _, ru, q⟩
  exact wpE_of hp (ha H1 s _ fun v H2 s2 rv => ⟨rv, q _ H2 s2 rfl⟩)
end
end LK
set_option maxHeartbeats 4000000
namespace LK
open PySem PySem.Spec PyProof.Rows L2
/-! ### defs whose promise holds where no repr is under way -/
structure FnG (P : Program) (w : World) (K : PySem.W.Frag) (mg : Str → Option Value) (base : Heap) (k : Nat) (f : Addr) (fd : FuncData) (ps : List Str) (sp : Sp) : Prop where
  len : ∀ vs H Q E, sp vs H Q E → vs.length = ps.length
  run : ∀ (A : Around) (outer : List Env) (s : Shared) (H : Hp) (args : Args) (us : List Value) (vs : List V) (Q : VK) (E : XK), A.guards = some [] → Room k A → Env0 P w K mg base A outer s H → BindsTo s fd args (ps.zip us) → Vals vs us → sp vs H Q E →
    codeAny (model P w) A (.call (.ref f) args) (CR CX0 outer P w H s Q E) s
/-- a def, its code object told -/
structure FunC (K : PySem.W.Frag) (x qual : Str) (st : Stmt) (f : Addr) (fd : FuncData) (cdv : Value) : Prop where
  ex : ∃ (oc : Value) (od : Option Addr) (kV doc pm : Value) (an : Option Addr) (ct : Value) (osl : Array (Option Value)),
    fd = PySem.W.fnOf x qual (defArgs st) (defBody st) (defScope st) .none kV doc pm an cdv ct ∧ K.lookup f = some ⟨oc, od, .func fd, osl⟩ ∧ PySem.W.codeIn K cdv qual = true
  kp : PySem.W.keepIn K (.ref f) = true
section
variable {P : Program} {w : World} {K : PySem.W.Frag} {mg : Str → Option Value} {base : Heap}
theorem FunC.fun {x qual : Str} {st : Stmt} {f : Addr} {fd : FuncData} {cdv : Value} (F : FunC K x qual st f fd cdv) : Fun K x qual st f fd := by
  obtain ⟨oc, od, kV, doc, pm, an, ct, osl, e, lk, hcd⟩ := F.ex
  exact ⟨⟨oc, od, kV, doc, pm, an, cdv, ct, osl, e, lk, hcd⟩, F.kp⟩
theorem Fun.c {x qual : Str} {st : Stmt} {f : Addr} {fd : FuncData} (F : Fun K x qual st f fd) : ∃ cdv, FunC K x qual st f fd cdv := by
  obtain ⟨oc, od, kV, doc, pm, an, cdv, ct, osl, e, lk, hcd⟩ := F.ex
  exact ⟨cdv, ⟨oc, od, kV, doc, pm, an, ct, osl, e, lk, hcd⟩, F.kp⟩
theorem FunC.okG {x qual : Str} {st : Stmt} {f : Addr} {fd : FuncData} {cdv : Value} {N ps : List Str} {k : Nat} {sp : Sp} (F : FunC K x qual st f fd cdv) (S : FnScope N ps (defScope st)) (len : ∀ vs H Q E, sp vs H Q E → vs.length = ps.length)
    (hbody : ∀ (A : Around) (outer : List Env) (s : Shared) (H : Hp) (vs : List V) (Q : VK) (E : XK), A.guards = some [] → Room k (A.deeper (envOfC qual (defScope st) s.heap.objs.size f cdv)) → sp vs H Q E →
      ∃ t, PSs (cxOf CX0 P w K mg base N qual (defScope st) f cdv A outer s H E) (defBody st) t ∧ t { nx := fun _ H' => Q .non H', rt := Q } (start N vs) H) : FnG P w K mg base (k + 1) f fd ps sp := by
  obtain ⟨oc, od, kV, doc, pm, an, ct, osl, rfl, lk, hcd⟩ := F.ex
  exact ⟨len, fun A outer s H args us vs Q E hg hr e0 hb r hsp => LamX.run_ofS lk hcd S hr e0 hb r (len _ _ _ _ hsp) fun hr' => hbody A outer s H vs Q E hg hr' hsp⟩
structure CalG (P : Program) (w : World) (K : PySem.W.Frag) (mg : Str → Option Value) (base : Heap) (k : Nat) (x : Str) (sp : Sp) : Prop where
  ex : ∃ (f : Addr) (fd : FuncData) (ps : List Str), FnG P w K mg base k f fd ps sp ∧ mg x = some (.ref f) ∧ PySem.W.keepIn K (.ref f) = true ∧ Binds K fd ps []
end
section
variable {X : Cx} {e : Expr} {es : List Expr} {σ : L2.St} {H : Hp} {pos p : Pos} {n : Str}
theorem wp_callG {k : Nat} {sp : Sp} {Q : VK} (C : CalG X.prog X.w X.K X.mg X.base k n sp) (hgd : X.A.guards = some []) (hr : Room k X.A) (ha : wpA X (e :: es) σ H fun vs H1 => sp vs H1 Q E0) (hg : Gl X n := by rfl) (hdb : (n == ("__debug__" : Str)) = false := by decide)
    (he : starEach (e :: es) X.env = (false, eval e X.env) :: starEach es X.env := by rfl) (hpl : (backTo pos (starEach es X.env)).any (·.1) = false := by rfl) : wpE X (.Call (.Name n p) (e :: es) [] pos) σ H Q := by
  obtain ⟨f, fd, ps, F, hm, hk, hb⟩ := C.ex
  refine ⟨fun pins s I => ?_⟩
  refine wpAny_Call_Name_kw (ld_glob I hg hm ?_ hdb)
  refine PySem.W.callWith_K (h₀ := X.base) I.ok.mod.kin hk (thn (ha.run pos pins s I) fun us s1 ⟨vs, H1, I1, r, q⟩ => ⟨I1.kIn, ?_⟩) he hpl
  have hl : (us ++ []).length = ps.length := by rw [List.append_nil, ← r.length]; exact F.len _ _ _ _ q
  have hb' := hb s1 us I1.kIn hl
  rw [List.append_nil] at hb'
  refine wpAny_call (codeAny_mono (F.run X.A X.stack s1 H1 ⟨us, []⟩ us vs Q E0 hgd hr I1.env0 hb' r q) fun r s' hq => ?_)
  cases r with
  | error e => exact (show False from hq).elim
  | ok fl =>
    cases fl with
    | ret u => exact I1.after hq
    | next => exact False.elim hq
    | brk => exact False.elim hq
    | cont => exact False.elim hq
end
end LK
set_option maxHeartbeats 4000000
namespace LK
open PySem PySem.Spec PyProof.Rows L2
/-- the reading of liars(shelf, answers, bound), asked_more(..) in a lambda -/
def tLR {β : Type} (C CC U : Addr) (ro : R β) (gf : Lore → List (Str × Str) → Int → β) (E : XK) : TE := fun σ H Q => ∃ v1 v2 v3, σ[1]? = some (some v1) ∧ σ[2]? = some (some v2) ∧ σ[3]? = some (some v3) ∧ SpR C CC U ro gf [v1, v2, v3] H Q E
section
variable {X : Cx} {β : Type} {ro : R β} {gf : Lore → List (Str × Str) → Int → β} {C CC U CS : Addr} {nm : Str} {k : Nat}
theorem pe_lamR {A : Around} {outer : List Env} {s : Shared} {H : Hp} {E : XK} {scope : Scope} {f c' : Addr} {q0 q1 q2 q3 q4 : Pos} (cX : CalX X.prog X.w X.K X.mg X.base k nm (SpR C CC U ro gf)) (hr : Room k (A.deeper (LamX.lamEnv X scope s.heap.objs.size f c')))
    (h1 : X.N[1]? = some ("_law_shelf_here" : Str)) (h2 : X.N[2]? = some ("_law_answers" : Str)) (h3 : X.N[3]? = some ("_law_bound" : Str)) (hg : scope.names.lookup nm = some .globalImplicit) (l1 : scope.names.lookup ("_law_shelf_here" : Str) = some NameKind.free) (l2 : scope.names.lookup ("_law_answers" : Str) = some NameKind.free) (l3 : scope.names.lookup ("_law_bound" : Str) = some NameKind.free) (hdb : (nm == ("__debug__" : Str)) = false) :
    PE (LamX.lamCx X A outer s H E scope f c') (.Call (.Name nm q0) [.Name "_law_shelf_here" q1, .Name "_law_answers" q2, .Name "_law_bound" q3] [] q4) (tLR C CC U ro gf E) := by
  obtain ⟨ff, fd, ps, F, hm, hk, hb⟩ := cX.ex
  refine ⟨fun pins s' σ H' Q I ⟨v1, v2, v3, e1, e2, e3, hs⟩ => ?_⟩
  refine (pe_call (X := LamX.lamCx X A outer s H E scope f c') F hr hg hm hk hb .nil (passes_call (takes_of rfl rfl rfl rfl) (fun _ _ _ _ h => h)) (pa_cons (pe_var (i := 1) h1 (.inr (.inr l1))) (pa_cons (pe_var (i := 2) h2 (.inr (.inr l2))) (pa_cons (pe_var (i := 3) h3 (.inr (.inr l3))) pa_nil))) hdb).run pins s' σ H' Q I ?_
  exact ⟨v1, e1, v2, e2, v3, e3, hs⟩
theorem ss_lamR {T : List (Addr × Str)} {g c Pt : Addr} {fdh : FuncData} {σ : L2.St} {H : Hp} {D : Ends} {rest : List Stmt} {x y : Str} {i j : Nat} {kt : Nat} {px py pt p pos s1 lpos q0 q1 q2 q3 q4 : Pos} {params : Arguments} {scope : Scope} {v1 v2 : V} {L : Lore} {as : List (Str × Str)} {b : Int}
    (cX : CalX X.prog X.w X.K X.mg X.base k nm (SpR C CC U ro gf)) (FH : Fun X.K "_law_heard" "_law_heard" sHea g fdh) (mH : X.mg "_law_heard" = some (.ref g)) (bH : Binds X.K fdh ["_law_call"] []) (mL : X.mg "LotError" = some (.ref CS)) (eU : PySem.W.exmOne X.K (.ref U) (.ref CS) = some true)
    (TB : LamX.TabB X.base X.mg c Pt) (hcode : X.env.code = .ref c) (hmT : (Pt, X.env.qual ++ "<lambda>") ∈ T) (hu : ∀ p ∈ T, p.1 = Pt → p.2 = X.env.qual ++ "<lambda>") (hr : Room (k + 2) X.A) (LS : LamX.LamS X.env.scope scope) (hTabs : LamX.Tabs T H)
    (hW : WF L) (hG : Good L as) (hb0 : 0 ≤ b) (hb3 : b ≤ 3) (r1 : (rShelf C CC).rel H v1 L) (r2 : rAs.rel H v2 as) (e1 : σ[1]? = some (some v1)) (e2 : σ[2]? = some (some v2)) (e3 : σ[3]? = some (some (.int b)))
    (shUp : ∀ {H H' v}, LamX.ExtN H H' → (rShelf C CC).rel H v L → (rShelf C CC).rel H' v L)
    (kE : believedBy L as b = [] → ∀ a H1, LamX.ExtN H H1 → LamX.Tabs T H1 → (rErr U b).rel H1 (.ref a) () → wpSs X rest D ((σ.set i (some (.ref a))).set j (some .non)) H1)
    (kQ : believedBy L as b ≠ [] → ∀ v H1, LamX.ExtN H H1 → LamX.Tabs T H1 → ro.rel H1 v (gf L as b) → wpSs X rest D ((σ.set i (some .non)).set j (some v)) H1)
    (hc : X.calm = true) (hN : X.N.Nodup) (h1 : X.N[1]? = some ("_law_shelf_here" : Str)) (h2 : X.N[2]? = some ("_law_answers" : Str)) (h3 : X.N[3]? = some ("_law_bound" : Str)) (hg : scope.names.lookup nm = some .globalImplicit) (l1 : scope.names.lookup ("_law_shelf_here" : Str) = some NameKind.free) (l2 : scope.names.lookup ("_law_answers" : Str) = some NameKind.free) (l3 : scope.names.lookup ("_law_bound" : Str) = some NameKind.free) (hdb : (nm == ("__debug__" : Str)) = false)
    (hgl : Gl X "_law_heard" := by rfl) (hi : X.N[i]? = some x := by rfl) (hj : X.N[j]? = some y := by rfl) (hx : Loc X.env.scope x := by first | exact Or.inl rfl | exact Or.inr rfl) (hy : Loc X.env.scope y := by first | exact Or.inl rfl | exact Or.inr rfl)
    (hdef : defaultsOf params X.env = ([], []) := by rfl)
    (hbind : ∀ (q : Str) (cl : List (Str × Addr)) (pm cv ctv : Value), bindArgs (PySem.W.kla_fn "<lambda>" q params (.Call (.Name nm q0) [.Name "_law_shelf_here" q1, .Name "_law_answers" q2, .Name "_law_bound" q3] [] q4) scope cl pm cv ctv) ⟨[], []⟩ = pure [] := by intros; rfl)
    (hs : swapsWithSole [.Tuple [.Name x px, .Name y py] kt pt] (.Call (.Name "_law_heard" p) [.Lambda params (.Call (.Name nm q0) [.Name "_law_shelf_here" q1, .Name "_law_answers" q2, .Name "_law_bound" q3] [] q4) scope lpos] [] pos) s1.line X.env = pure false := by rfl)
    (hw : swappedStores [.Tuple [.Name x px, .Name y py] kt pt] (.Call (.Name "_law_heard" p) [.Lambda params (.Call (.Name nm q0) [.Name "_law_shelf_here" q1, .Name "_law_answers" q2, .Name "_law_bound" q3] [] q4) scope lpos] [] pos) X.env = pure none := by rfl)
    (hf1 : X.fn x = true ∨ X.env.scope.names.lookup x = some .local := by first | exact .inl rfl | exact .inr rfl) (hf2 : X.fn y = true ∨ X.env.scope.names.lookup y = some .local := by first | exact .inl rfl | exact .inr rfl)
    (ha : (assignEach [.Tuple [.Name x px, .Name y py] kt pt] X.env).map (·.2) = [assign (.Tuple [.Name x px, .Name y py] kt pt) X.env] := by rfl) :
    wpSs X (.Assign [.Tuple [.Name x px, .Name y py] kt pt] (.Call (.Name "_law_heard" p) [.Lambda params (.Call (.Name nm q0) [.Name "_law_shelf_here" q1, .Name "_law_answers" q2, .Name "_law_bound" q3] [] q4) scope lpos] [] pos) s1 :: rest) D σ H := by
  obtain ⟨oc, od, kV, doc, pm, an, cdv, ct, osl, rfl, lk, hcd⟩ := FH.ex
  refine ss_cons (wpS_of (ps_asg (pe_lamcallS (t := tLR C CC U ro gf) hgl mH FH.kp lk hcd bH scHea rfl (.inl rfl) (heard_gives mL) TB hcode hmT hu hr LS hdef hbind (fun A outer s H E f c' hr' => pe_lamR cX hr' h1 h2 h3 hg l1 l2 l3 hdb)) (pg_tup hc (pgs_cons (pg_name hN hi hx hf1) (pgs_cons (pg_name hN hj hy hf2) pgs_nil))) hs hw ha) ?_)
  refine ⟨hTabs, fun H1 eN T1 HZ E' Q' sZ hE hQ => ⟨v1, v2, .int b, e1, e2, e3, (L, as, b, ()), ⟨v1, _, rfl, (rShelf C CC).up sZ (shUp eN r1), v2, _, rfl, rAs.up (fun bb o e n => sZ _ _ (eN bb o e (fun ps z => by subst z; exact n))) r2, .int b, _, rfl, rfl, rfl⟩, ⟨hW, hG, hb0, hb3⟩, fun hk d H2 nd s2 hd => hE _ _ _ ⟨eU, fun a na t H3 s3 ht => ?_⟩, fun hk v H2 s2 rv => hQ _ _ fun t H3 s3 ht => ?_⟩⟩
  · have hda : d ≠ a := fun z => by rw [z, na] at hd; cases hd
    have s13 : Same H1 H3 := fun bb o e => by
      have e2 := s2 _ _ (sZ _ _ e)
      exact s3 _ _ (by rw [upd_ne (ne_of_none e2 na)]; exact e2)
    refine ⟨t, [.ref a, .non], rfl, SqT.of ht, rfl, .ref a, [.non], rfl, .non, [], rfl, rfl, kE hk a H3 (eN.trans (LamX.ExtN.of s13)) (T1.ext s13) ⟨a, d, rfl, s3 _ _ upd_same, s3 _ _ (by rw [upd_ne hda]; exact hd)⟩⟩
  · have s13 : Same H1 H3 := fun bb o e => s3 _ _ (s2 _ _ (sZ _ _ e))
    exact ⟨t, [.non, v], rfl, SqT.of ht, rfl, .non, [v], rfl, v, [], rfl, rfl, kQ hk v H3 (eN.trans (LamX.ExtN.of s13)) (T1.ext s13) (ro.up (Same.T s3) rv)⟩
end
end LK
set_option maxHeartbeats 4000000
namespace LK
open PySem PySem.Spec PyProof.Rows L2
theorem ext_T {H H' : Hp} (e : LamX.ExtN H H') : SameT H H' := fun b o h n => e b o h (fun ps z => by subst z; exact n)
theorem shelf_ext {C CC : Addr} {H H' : Hp} {v : V} {L : Lore} (e : LamX.ExtN H H') (h : (rShelf C CC).rel H v L) : (rShelf C CC).rel H' v L := by
  obtain ⟨a, dx, tx, pa, c, pp, ls, vs, h1, h2, h3, h4, h5, h6, h7⟩ := h
  obtain ⟨a2, dx2, pn, g1, g2, g3⟩ := h4
  exact ⟨a, dx, tx, pa, c, pp, ls, vs, h1, e _ _ h2 (fun ps z => nomatch z), (rTup rStr).up (ext_T e) h3, ⟨a2, dx2, pn, g1, e _ _ g2 (fun ps z => nomatch z), (rTupN rStr).up (ext_T e) g3⟩, (rTup (rTup (rTup rStr))).up (ext_T e) h5, e _ _ h6 (fun ps z => nomatch z), R.us_up (ext_T e) h7⟩
theorem valuesBy_lay : ∀ n, n ≤ 3 → ∀ z ∈ valuesBy n, PyData.canLay0 (.str z) = true ∧ z.cps.size ≤ 3 ∧ z.cps.toList.all (fun c => decide (c < 16 ^ 8)) = true := by decide +kernel
/-- what the promise of _law_is_answered_right asks (maths) -/
structure ArOk (L : Lore) (as : List (Str × Str)) (b : Int) : Prop where
  W : WF L
  G : Good L as
  mem : ∀ x ∈ as, x.1 ∈ L.names
  b0 : 0 ≤ b
  b3 : b ≤ 3
  bel : believedBy L as b = lawBel L as b
  near : ∃ k : Nat, ((List.range 7).filter fun n : Nat => !decide (lawBel L as (n : Int) = []))[0]? = some k ∧ k ≤ 6 ∧ nearestOf L as = (k, lawBel L as (k : Int))
  who : liarsP L as b = whoL L as (lawBel L as b)
  ask : askedP L as b = sortStr (L.names.filter fun n => !decide (n ∈ as.map (·.1)) && lawLess L as b n)
theorem lawBel_len {L : Lore} (W : WF L) (as : List (Str × Str)) (b : Int) : (lawBel L as b).length ≤ 8 := by
  unfold lawBel
  refine Nat.le_trans (List.length_filter_le _ _) ?_
  rw [valuesBy_len]
  have := W.p3
  exact Nat.le_trans (Nat.pow_le_pow_right (by decide) this) (by decide)
theorem lawBel_mem {L : Lore} {as : List (Str × Str)} {b : Int} {z : Str} (h : z ∈ lawBel L as b) : z ∈ valuesBy L.parts.length := (List.mem_filter.mp h).1
theorem lawBel_lay {L : Lore} (W : WF L) {as : List (Str × Str)} {b : Int} : ∀ z ∈ lawBel L as b, PyData.canLay0 (.str z) = true := fun z hz => (valuesBy_lay _ W.p3 z (lawBel_mem hz)).1
theorem lay_tt : ∀ {zs : List (List Str)}, (∀ xs ∈ zs, ∀ n ∈ xs, PyData.canLay0 (.str n) = true) → PyData.canLayAll0 (zs.map fun xs => PyData.tuple (xs.map PyData.str)) = true
  | [], _ => rfl
  | a :: t, h => by
    simp only [List.map_cons, PyData.canLayAll0, PyData.canLay0, lay_tt fun xs hx => h xs (List.mem_cons_of_mem _ hx), Bool.and_true]
    exact lay_strs _ (h a List.mem_cons_self)
theorem whoL_lay {L : Lore} (W : WF L) {as : List (Str × Str)} (hm : ∀ x ∈ as, x.1 ∈ L.names) (recs : List Str) : ∀ xs ∈ whoL L as recs, ∀ n ∈ xs, PyData.canLay0 (.str n) = true := fun xs hx n hn => by
  obtain ⟨k, _, rfl⟩ := List.mem_map.mp hx
  obtain ⟨x, hx, rfl⟩ := List.mem_map.mp hn
  exact W.okS _ (hm x (List.mem_filter.mp hx).1)
theorem depth_tt : ∀ zs : List (List Str), PyData.depthAll (zs.map fun xs => PyData.tuple (xs.map PyData.str)) ≤ 1
  | [] => by simp [PyData.depthAll]
  | a :: t => by
    have := depth_tt t
    simp only [List.map_cons, PyData.depthAll, PyData.depth, depth_strs]
    omega
theorem shaped_tt {zs : List (List Str)} (h : ∀ xs ∈ zs, ∀ n ∈ xs, PyData.canLay0 (.str n) = true) : SeqAt.shaped (.tuple (zs.map fun xs => PyData.tuple (xs.map PyData.str))) = true := by
  have hd := depth_tt zs
  refine Bool.and_eq_true_iff.mpr ⟨lay_tt h, decide_eq_true ?_⟩
  show PyData.depthAll _ + 1 ≤ 64
  omega
theorem weight_strs : ∀ (zs : List Str), (∀ z ∈ zs, z.cps.size ≤ 3) → PyData.weightAll (zs.map PyData.str) ≤ 4 * zs.length
  | [], _ => by simp [PyData.weightAll]
  | a :: t, h => by
    have h1 := h a List.mem_cons_self
    have ih := weight_strs t fun z hz => h z (List.mem_cons_of_mem _ hz)
    simp only [List.map_cons, PyData.weightAll, PyData.weight, List.length_cons]
    omega
theorem short_strs : ∀ (zs : List Str), (∀ z ∈ zs, z.cps.toList.all (fun c => decide (c < 16 ^ 8)) = true) → PyData.leavesShortAll 8 (zs.map PyData.str) = true
  | [], _ => rfl
  | a :: t, h => by
    simp only [List.map_cons, PyData.leavesShortAll, PyData.leavesShort, short_strs t fun z hz => h z (List.mem_cons_of_mem _ hz), Bool.and_true]
    exact h a List.mem_cons_self
theorem show_strs : ∀ (zs : List Str), PyData.showableAll (zs.map PyData.str) = true ∧ PyData.hasDictAll (zs.map PyData.str) = false
  | [] => ⟨rfl, rfl⟩
  | a :: t => by
    obtain ⟨h1, h2⟩ := show_strs t
    simp only [List.map_cons, PyData.showableAll, PyData.showable, PyData.hasDictAll, PyData.hasDict, h1, h2]
    exact ⟨rfl, rfl⟩
theorem int_short : ∀ k : Nat, k ≤ 6 → (PyData.shown (.int (k : Int))).length ≤ 8 ∧ ((k : Int)).natAbs.log2 < 1920 ∧ (PyData.int (k : Int)).weight ≤ 3 := by decide +kernel
theorem encN_ok {k : Nat} {zs : List Str} (hk : k ≤ 6) (hl : zs.length ≤ 8) (h3 : ∀ z ∈ zs, z.cps.size ≤ 3) (h8 : ∀ z ∈ zs, z.cps.toList.all (fun c => decide (c < 16 ^ 8)) = true) :
    (encN (k, zs)).showable = true ∧ (encN (k, zs)).hasDict = false ∧ (encN (k, zs)).depth ≤ 8 ∧ (encN (k, zs)).shown.length ≤ sizeLine := by
  obtain ⟨s1, s2⟩ := show_strs zs
  obtain ⟨i1, i2, i3⟩ := int_short k hk
  refine ⟨?_, ?_, ?_, ?_⟩
  · simp only [encN, PyData.showable, PyData.showableAll, s1, Bool.and_true, decide_eq_true_eq]
    exact i2
  · simp only [encN, PyData.hasDict, PyData.hasDictAll, s2]
    rfl
  · simp only [encN, PyData.depth, PyData.depthAll, depth_strs]
    decide
  · have hw := weight_strs zs h3
    have hs : (encN (k, zs)).leavesShort 8 = true := by
      simp only [encN, PyData.leavesShort, PyData.leavesShortAll, short_strs zs h8, Bool.and_true, decide_eq_true_eq]
      exact i1
    have h := PyData.shown_le 8 (by decide) (encN (k, zs)) hs
    have he : (encN (k, zs)).weight ≤ 100 := by
      show (PyData.int (k : Int)).weight + 1 + (PyData.weightAll (zs.map PyData.str) + 1 + 0) ≤ 100
      omega
    rw [sizeLine_eq]
    omega
end LK
set_option maxHeartbeats 4000000
namespace LK
open PySem PySem.Spec PyProof.Rows L2
section
variable {X : Cx} {a : Expr} {σ : L2.St} {H : Hp} {pos p : Pos}
theorem el_sortedK {xs : List Str} {l : Addr} {vs : List V} (hm : X.mg "sorted" = none) (hl : xs.length < 64) (ha : Ev X a σ H rVal (.ref l)) (hp : H l = some (.lst vs)) (hu : rStr.us H vs xs) (hg : Gl X "sorted" := by rfl) (he : starEach [a] X.env = (false, eval a X.env) :: starEach [] X.env := by rfl) (hpl : (backTo pos (starEach [] X.env)).any (·.1) = false := by rfl) :
    EvL X (.Call (.Name "sorted" p) [a] [] pos) σ H rStr (sortStr xs) := fun H1 s Q q =>
  wpE_of (pe_callB cr_sortedS hg hm (by decide +kernel) (pa_cons wpE_pe pa_nil he) (by decide) (by decide) he hpl) (ha H1 s _ fun v H2 s2 rv => by
    have rv : v = .ref l := rv
    subst rv
    exact ⟨l, xs, rfl, by rw [← us_str hu]; exact SqL.of (s2 _ _ (s _ _ hp)), hl, fun ys p' pm so hp' => by
      rw [sortStr_of pm so]
      exact q p' _ _ (none_of_same s2 hp') (s2.trans (Same.new hp')) upd_same (str_us _)⟩)
end
abbrev sAr : Stmt := top 94
abbrev nAr : List Str := ["_law_lore", "_law_shelf_here", "_law_answers", "_law_bound", "_law_due", "_law_fewest", "_law_caught", "_law_heard_now", "_law_late", "_law_more", "_law_marks", "_law_known", "_law_others", "_law_number", "_law_error", "_law_name", "_law_values"]
theorem scAr : FnScope nAr ["_law_lore", "_law_shelf_here", "_law_answers", "_law_bound"] (defScope sAr) := ⟨rfl, rfl, rfl, by decide +kernel, rfl, by decide +kernel, by decide +kernel⟩
def qAr : Str := (envOfC "_law_is_answered_right" (defScope sAr) 0 0 .none).qual ++ "<lambda>"
def spAr (C CC Pt : Addr) : Sp := fun vs H Q _ => ∃ i, (aCons rLore (aConsS (rShelf C CC) (aCons rAs (aCons rInt aNil)))).rel H vs i ∧ i.2.1 = i.1 ∧ ArOk i.1 i.2.2.1 i.2.2.2.1 ∧ LamX.Tabs [(Pt, qAr)] H ∧ ∀ H', LamX.ExtN H H' → LamX.Tabs [(Pt, qAr)] H' → Q (.bl true) H'
section
variable {P : Program} {w : World} {K : PySem.W.Frag} {mg : Str → Option Value} {base : Heap} {f c Pt C CC U CS gh : Addr} {fd fdh : FuncData}
theorem ok_answered (T : Glo mg) (TR : mg "repr" = none) (F : FunC K "_law_is_answered_right" "_law_is_answered_right" sAr f fd (.ref c)) (TB : LamX.TabB base mg c Pt)
    (FH : Fun K "_law_heard" "_law_heard" sHea gh fdh) (mH : mg "_law_heard" = some (.ref gh)) (bH : Binds K fdh ["_law_call"] []) (mL : mg "LotError" = some (.ref CS)) (mU : mg "Unbelieved" = some (.ref U)) (eU : PySem.W.exmOne K (.ref U) (.ref CS) = some true) (XU : XfC K U) (noV : PySem.W.findIn K (.ref U) "value" = some none)
    (cLbe : Cal P w K mg base 3 "_law_believed" spLbe) (cBel : Cal P w K mg base 8 "believed" (spBel C CC)) (cNea : Cal P w K mg base 7 "nearest" (spNea C CC)) (cLrs : CalX P w K mg base 9 "liars" (spLrs C CC U)) (cAsk : CalX P w K mg base 9 "asked_more" (spAsk C CC U))
    (cLin : Cal P w K mg base 1 "_law_is_int" spLin) (cLwl : Cal P w K mg base 3 "_law_who_lied" spLwl) (cLdl : Cal P w K mg base 4 "_law_does_lessen" spLdl) : FnG P w K mg base 12 f fd ["_law_lore", "_law_shelf_here", "_law_answers", "_law_bound"] (spAr C CC Pt) := by
  refine F.okG (N := nAr) scAr (fun vs H Q E h => ?_) (fun A outer s H vs Q E hgd hr h => ⟨wpSs _ _, wpSs_pss, ?_⟩)
  · obtain ⟨i, ⟨v, ws, rfl, _, v2, ws2, rfl, _, v3, ws3, rfl, _, v4, ws4, rfl, _, rfl⟩, _⟩ := h
    rfl
  · obtain ⟨⟨L, L2, as, b, _⟩, ⟨v, _, rfl, h1, v2, _, rfl, h2, v3, _, rfl, h3, v4, _, rfl, h4, rfl⟩, eL, ok, hT, k⟩ := h
    have eL : L2 = L := eL
    subst eL
    have h4 : v4 = V.int b := h4
    subst h4
    have h1 : rLore.rel H v L2 := h1
    have h2 : (rShelf C CC).rel H v2 L2 := h2
    have h3 : rAs.rel H v3 as := h3
    have ok : ArOk L2 as b := ok
    have hW := ok.W
    have hG := ok.G
    have hn : as.length ≤ 100 := Nat.le_trans hG.few (by decide)
    have hgd' : (cxOf CX0 P w K mg base nAr "_law_is_answered_right" (defScope sAr) f (.ref c) A outer s H E).A.guards = some [] := hgd
    have hu := hu_of' hr
    obtain ⟨kk, hk0, hk6, hnear⟩ := ok.near
    refine ss_setL (i := 4) (xs := lawBel L2 as b) (el_call cLbe (hr.mono (by decide)) (ea_cons (ev_nm 0 rfl h1) (ea_cons (ev_nm 2 rfl h3) (ea_cons (ev_nm (r := rInt) 3 rfl rfl) ea_nil))) ⟨hW, hn, ok.mem⟩) (fun dp dvs H1 ndp s1 hdp hdu => ?_) scAr.nd
    have h1' := rLore.up (Same.T s1) h1
    have h2' := (rShelf C CC).up s1 h2
    have h3' := rAs.up (Same.T s1) h3
    refine ss_no ((et_neD (k := true) hu (enc_tup enc_str) (enc_tup enc_str) (ev_call cBel (hr.mono (by decide)) (o := lawBel L2 as b) (ea_consS (ev_nmS 1 rfl h2') (ea_cons (ev_nm 2 rfl h3') (ea_cons (ev_nm (r := rInt) 3 rfl rfl) ea_nil))) ⟨hW, hG, ok.b0, ok.b3⟩ ok.bel) (ev_tupleK T.tuple (ev_nm (r := rVal) 4 rfl rfl) hdp hdu).tupN (shaped_strsT _ (lawBel_lay hW)) (shaped_strsT _ (lawBel_lay hW)) (eqv_allT _ _ rfl)).eq rfl) fun H2 s2 => ?_
    have s12 := s1.trans s2
    have h1' := rLore.up (Same.T s12) h1
    have h2' := (rShelf C CC).up s12 h2
    have h3' := rAs.up (Same.T s12) h3
    refine ss_set (i := 5) (r := rNat) (x := kk) (ev_ixN (i := 0) hk0 (el_fil1 (j := 13) (r := rNat) (q := fun n : Nat => !decide (lawBel L2 as (n : Int) = [])) rfl scAr.nd (blkOk_by (N := nAr) (sc := defScope sAr) (by decide +kernel)) (ei_range (k := 7) ev_int (by decide) T.range) (by simp)
      (fun v x H5 hx s5 rx s H0 C' cl fp => et_neNN (ys := []) (enc := PyData.str) (k := decide (lawBel L2 as (x : Int) = [])) hu enc_str (el_call cLbe (hr.mono (by decide)) (o := lawBel L2 as (x : Int)) (ea_cons (ev_nm 0 rfl (rLore.up (Same.T s5) h1')) (ea_cons (ev_nm 2 rfl (rAs.up (Same.T s5) h3')) (ea_cons (int_of_nat (ev_nm 13 rfl rx)) ea_nil))) ⟨hW, hn, ok.mem⟩) (el_lst el_nil (by simp)) (shaped_strs _ (lawBel_lay hW)) rfl (by
        show PyData.eqv (.list ((lawBel L2 as (x : Int)).map PyData.str)) (.list (([] : List Str).map PyData.str)) = _
        simp only [PyData.eqv, eqv_all_str])) (fun v x H5 hx s5 rx s H0 C' cl fp => ev_nm 13 rfl rx)) ev_int) (fun v5 H3 s3 rv5 => ?_) scAr.nd
    have s123 := s12.trans s3
    have h1' := rLore.up (Same.T s123) h1
    have h2' := (rShelf C CC).up s123 h2
    have h3' := rAs.up (Same.T s123) h3
    have hbk : ∀ z ∈ lawBel L2 as (kk : Int), PyData.canLay0 (.str z) = true ∧ z.cps.size ≤ 3 ∧ z.cps.toList.all (fun c => decide (c < 16 ^ 8)) = true := fun z hz => valuesBy_lay _ hW.p3 z (lawBel_mem hz)
    obtain ⟨n1, n2, n3, n4⟩ := encN_ok hk6 (lawBel_len hW as (kk : Int)) (fun z hz => (hbk z hz).2.1) (fun z hz => (hbk z hz).2.2)
    have hrf : ∀ H v, (rPair rNat (rTup rStr)).rel H v (kk, lawBel L2 as (kk : Int)) → ∃ a, v = V.ref a := fun H v ⟨p, _, _, e, _⟩ => ⟨p, e⟩
    refine ss_no ((et_neS (ev_repr hgd' hu TR enc_N hrf (ev_call cNea (hr.mono (by decide)) (o := (kk, lawBel L2 as (kk : Int))) (ea_consS (ev_nmS 1 rfl h2') (ea_cons (ev_nm 2 rfl h3') ea_nil)) ⟨hW, hG⟩ hnear) n1 n2 n3 n4)
      (ev_repr hgd' hu TR enc_N hrf (ev_pair (ev_nm 5 rfl rv5) (ev_tuple T.tuple (el_call cLbe (hr.mono (by decide)) (o := lawBel L2 as (kk : Int)) (ea_cons (ev_nm 0 rfl h1') (ea_cons (ev_nm 2 rfl h3') (ea_cons (int_of_nat (ev_nm 5 rfl rv5)) ea_nil))) ⟨hW, hn, ok.mem⟩))) n1 n2 n3 n4)).eq (by simp)) fun H4 s4 => ?_
    have s1234 := s123.trans s4
    have h1' := rLore.up (Same.T s1234) h1
    have h2' := (rShelf C CC).up s1234 h2
    have h3' := rAs.up (Same.T s1234) h3
    have T4 := hT.ext s1234
    have hdp4 := (s2.trans (s3.trans s4)) _ _ hdp
    have hdu4 := R.us_up (Same.T (s2.trans (s3.trans s4))) hdu
    have E4 : LamX.ExtN H H4 := LamX.ExtN.of s1234
    by_cases hd0 : lawBel L2 as b = []
    · refine ss_lamR (i := 6) (j := 7) cLrs FH mH bH mL eU TB rfl (List.mem_singleton.mpr rfl) (fun p hp _ => by rw [List.mem_singleton.mp hp]) hr (show LamX.LamS (defScope sAr) _ from LamX.lamS_by (by decide +kernel)) T4 hW hG ok.b0 ok.b3 h2' h3' rfl rfl rfl (fun e h => shelf_ext e h) (fun hk a H5 e5 T5 r5 => ?_) (fun hk => absurd (ok.bel.trans hd0) hk) rfl scAr.nd rfl rfl rfl rfl rfl rfl rfl rfl
      have h2' := shelf_ext e5 h2'
      have h3' := rAs.up (ext_T e5) h3'
      refine ss_lamR (i := 8) (j := 9) cAsk FH mH bH mL eU TB rfl (List.mem_singleton.mpr rfl) (fun p hp _ => by rw [List.mem_singleton.mp hp]) hr (show LamX.LamS (defScope sAr) _ from LamX.lamS_by (by decide +kernel)) T5 hW hG ok.b0 ok.b3 h2' h3' rfl rfl rfl (fun e h => shelf_ext e h) (fun hk a2 H6 e6 T6 r6 => ?_) (fun hk => absurd (ok.bel.trans hd0) hk) rfl scAr.nd rfl rfl rfl rfl rfl rfl rfl rfl
      have r5 := (rErr U b).up (ext_T e6) r5
      have E6 := (E4.trans e5).trans e6
      have hdp6 := e6 _ _ (e5 _ _ hdp4 (fun ps z => nomatch z)) (fun ps z => nomatch z)
      have hdu6 := R.us_up (ext_T e6) (R.us_up (ext_T e5) hdu4)
      rw [hd0] at hdu6
      refine ss_if (k := true) (et_eqLL hu enc_str (ev_nm (r := rVal) 4 rfl rfl) hdp6 hdu6 (el_lst el_nil (by simp)) rfl rfl rfl) (fun _ H7 s7 => ?_) (fun z => Bool.noConfusion z)
      have r5 := (rErr U b).up (Same.T s7) r5
      have r6 := (rErr U b).up (Same.T s7) r6
      refine ss_setLc1 (i := 10) (j := 14) (r := rErr U b) (xs := [(), ()]) (t := rBool) (f := fun _ => true) (q := fun _ => true) rfl scAr.nd (blkOk_by (N := nAr) (sc := defScope sAr) (by decide +kernel)) (ei_tup (ev_tup (el_cons (ev_nm 6 rfl r5) (el_cons (ev_nm 8 rfl r6) el_nil)) (by simp))) (by simp)
        (fun v x H8 hx s8 rx s H0 C' cl fp => ⟨ef_nil, fun _ => (ev_and (ev_isErr T.isinstance mU (ev_nm 14 rfl rx) (ev_gl mU rfl)) (fun _ => ev_call cLin (hr.mono (by decide)) (o := true) (ea_cons (ev_errval XU noV (ev_nm 14 rfl rx)) (ea_cons (ev_nm (r := rInt) 3 rfl rfl) (ea_cons (ev_nm (r := rInt) 3 rfl rfl) ea_nil))) trivial (by simp))).eq rfl⟩)
        (fun mp mvs H8 nmp s8 hmp hmu => ?_) (sw_true rfl rfl rfl (by decide +kernel))
      rw [filter_true] at hmu
      refine ss_ret (ev_eqLL (k := true) hu enc_bool (ev_nm (r := rVal) 10 rfl rfl) hmp hmu (el_lst (el_cons ev_bl (el_cons ev_bl el_nil)) (by simp)) rfl rfl rfl) (fun v9 H9 s9 rv => ?_)
      have rv : v9 = .bl true := rv
      subst rv
      have s79 := (s7.trans s8).trans s9
      exact k H9 (E6.trans (LamX.ExtN.of s79)) (T6.ext s79)
    · refine ss_lamR (i := 6) (j := 7) cLrs FH mH bH mL eU TB rfl (List.mem_singleton.mpr rfl) (fun p hp _ => by rw [List.mem_singleton.mp hp]) hr (show LamX.LamS (defScope sAr) _ from LamX.lamS_by (by decide +kernel)) T4 hW hG ok.b0 ok.b3 h2' h3' rfl rfl rfl (fun e h => shelf_ext e h) (fun hk => absurd (ok.bel.symm.trans hk) hd0) (fun hk v7 H5 e5 T5 r7 => ?_) rfl scAr.nd rfl rfl rfl rfl rfl rfl rfl rfl
      have h2' := shelf_ext e5 h2'
      have h3' := rAs.up (ext_T e5) h3'
      refine ss_lamR (i := 8) (j := 9) cAsk FH mH bH mL eU TB rfl (List.mem_singleton.mpr rfl) (fun p hp _ => by rw [List.mem_singleton.mp hp]) hr (show LamX.LamS (defScope sAr) _ from LamX.lamS_by (by decide +kernel)) T5 hW hG ok.b0 ok.b3 h2' h3' rfl rfl rfl (fun e h => shelf_ext e h) (fun hk => absurd (ok.bel.symm.trans hk) hd0) (fun hk v9 H6 e6 T6 r9 => ?_) rfl scAr.nd rfl rfl rfl rfl rfl rfl rfl rfl
      rw [ok.who] at r7
      rw [ok.ask] at r9
      have E6 := (E4.trans e5).trans e6
      have r7 := (rTup (rTup rStr)).up (ext_T e6) r7
      have h1' := rLore.up (ext_T e6) (rLore.up (ext_T e5) h1')
      have h3' := rAs.up (ext_T e6) h3'
      have hdp6 := e6 _ _ (e5 _ _ hdp4 (fun ps z => nomatch z)) (fun ps z => nomatch z)
      have hdu6 := R.us_up (ext_T e6) (R.us_up (ext_T e5) hdu4)
      refine ss_if (k := false) (et_eqLL hu enc_str (ev_nm (r := rVal) 4 rfl rfl) hdp6 hdu6 (ys := []) (el_lst el_nil (by simp)) (shaped_strs _ (lawBel_lay hW)) rfl (by
        show PyData.eqv (.list ((lawBel L2 as b).map PyData.str)) (.list (([] : List Str).map PyData.str)) = _
        simp only [PyData.eqv, eqv_all_str, hd0, decide_false])) (fun z => Bool.noConfusion z) (fun _ H7 s7 => ?_)
      refine ss_nil ?_
      have h1' := rLore.up (Same.T s7) h1'
      have h3' := rAs.up (Same.T s7) h3'
      have hf := hG.few
      have hu1 : (cxOf CX0 P w K mg base nAr "_law_is_answered_right" (defScope sAr) f (.ref c) A outer s H E).A.units + 1 < cLine := Nat.lt_of_le_of_lt (Nat.add_le_add_left (by decide) _) hu
      refine ss_setL (i := 11) (xs := as.map (·.1)) ((el_lc2 (j1 := 15) (j2 := 16) (r := rStr) (r' := rStr) (t := rStr) (f := fun x => x.1) (q := fun _ => true) (by decide) rfl scAr.nd (blkOk_by (N := nAr) (sc := defScope sAr) (by decide +kernel)) (ei_tup (ev_nm 2 rfl h3')) (by omega) (fun v w x H1 hx s1 r1 r2 s H0 C' cl fp => ⟨ef_nil, fun _ => ev_nm 15 rfl r1⟩)).eq (by rw [filter_true])) (fun p vs3 H8 np s8 hp hu8 => ?_) scAr.nd
      have hu' := us_str hu8
      subst hu'
      have h1' := rLore.up (Same.T s8) h1'
      have h3' := rAs.up (Same.T s8) h3'
      refine ss_setLc1 (i := 12) (j := 15) (t := rStr) (f := fun z => z) (q := fun n => !decide (n ∈ as.map (·.1)) && lawLess L2 as b n) rfl scAr.nd (blkOk_by (N := nAr) (sc := defScope sAr) (by decide +kernel)) (ei_tup (ev_lnames hu1 (ev_nm 0 rfl h1')).tup) (by have := hW.n6; omega)
        (fun v x H9 hx s9 rx s H0 C' cl fp => ⟨ef_one (et_and (et_ninL (ev_nm 15 rfl rx) (ev_nm (r := rVal) 11 rfl rfl) (s9 _ _ hp)) (fun _ => et_val (ev_call cLdl (hr.mono (by decide)) (ea_cons (ev_nm 0 rfl (rLore.up (Same.T s9) h1')) (ea_cons (ev_nm 2 rfl (rAs.up (Same.T s9) h3')) (ea_cons (ev_nm (r := rInt) 3 rfl rfl) (ea_cons (ev_nm 15 rfl rx) ea_nil)))) ⟨hW, by show as.length ≤ 99; omega, ok.mem, hx⟩))), fun _ => ev_nm 15 rfl rx⟩) (fun p4 vs4 H9 np4 s9 hp4 hu4 => ?_) (sw_true rfl rfl rfl (by decide +kernel))
      rw [List.map_id'] at hu4
      have s79 := (s7.trans s8).trans s9
      have h1' := rLore.up (Same.T s9) h1'
      have h3' := rAs.up (Same.T s9) h3'
      have r7 := (rTup (rTup rStr)).up (Same.T s79) r7
      have r9 := (rTup rStr).up (Same.T s79) r9
      have hlw := whoL_lay hW ok.mem (lawBel L2 as b)
      have hln : (L2.names.filter fun n => !decide (n ∈ as.map (·.1)) && lawLess L2 as b n).length ≤ 6 := Nat.le_trans (List.length_filter_le _ _) hW.n6
      have hlo : ∀ n ∈ sortStr (L2.names.filter fun n => !decide (n ∈ as.map (·.1)) && lawLess L2 as b n), PyData.canLay0 (.str n) = true := fun n hn => hW.okS n (List.mem_filter.mp ((sortStr_perm _).subset hn)).1
      refine ss_ret ((ev_and (k := true) (l := true) (ev_eqD hu (enc_tup (enc_tup enc_str)) (enc_tup (enc_tup enc_str)) (ev_nm 7 rfl r7) (ev_call cLwl (hr.mono (by decide)) (o := whoL L2 as (lawBel L2 as b)) (ea_cons (ev_nm 0 rfl h1') (ea_cons (ev_nm 2 rfl h3') (ea_consS (r := rLst rStr) (ev_nmS 4 rfl ⟨dp, dvs, rfl, s79 _ _ hdp6, R.us_up (Same.T s79) hdu6⟩) ea_nil))) ⟨hW, hn, ok.mem, by have := lawBel_len hW as b; show (lawBel L2 as b).length ≤ 1000; omega, fun z hz => rec_of (lawBel_mem hz)⟩) (shaped_tt hlw) (shaped_tt hlw) (SeqAt.eqv_refl _ (lay_tt hlw)))
        (fun _ => ev_eqD hu (enc_tup enc_str) (enc_tup enc_str) (ev_nm 9 rfl r9) (ev_tuple T.tuple (el_sortedK T.sorted (by omega) (ev_nm (r := rVal) 12 rfl rfl) hp4 hu4)) (shaped_strsT _ hlo) (shaped_strsT _ hlo) (eqv_allT _ _ rfl))).eq rfl) (fun v10 H10 s10 rv => ?_)
      have rv : v10 = .bl true := rv
      subst rv
      have s710 := s79.trans s10
      exact k H10 (E6.trans (LamX.ExtN.of s710)) (T6.ext s710)
end
end LK
set_option maxHeartbeats 4000000
namespace LK
open PySem PySem.Spec PyProof.Rows L2
/-! ### what stays when lambdas are made and numbers drawn -/
def ET (l : Addr) (H H' : Hp) : Prop := ∀ b o, H b = some o → b ≠ l → (∀ ps, o ≠ .tbl ps) → H' b = some o
theorem ET.refl (l : Addr) (H : Hp) : ET l H H := fun _ _ h _ _ => h
theorem ET.trans {l : Addr} {H H1 H2 : Hp} (a : ET l H H1) (b : ET l H1 H2) : ET l H H2 := fun c o h n m => b c o (a c o h n m) n m
theorem ET.dl {l : Addr} {H H' : Hp} (d : DL l H H') : ET l H H' := fun b o h n _ => d b o h n
theorem ET.ext {l : Addr} {H H' : Hp} (d : LamX.ExtN H H') : ET l H H' := fun b o h _ m => d b o h m
theorem ET.same {l : Addr} {H H' : Hp} (d : Same H H') : ET l H H' := fun b o h _ _ => d b o h
theorem pot_ext {l : Addr} {n : Nat} {H H' : Hp} (P : Pot l n H) (d : LamX.ExtN H H') : Pot l n H' := by
  obtain ⟨a, b, c, h, r⟩ := P
  exact ⟨a, b, c, d _ _ h (fun ps z => nomatch z), r⟩
theorem tabs_dl {T : List (Addr × Str)} {l : Addr} {n : Nat} {H H' : Hp} (t : LamX.Tabs T H) (P : Pot l n H) (d : DL l H H') : LamX.Tabs T H' := fun p hp => by
  obtain ⟨a, b, c, hl, _⟩ := P
  obtain ⟨ps, h1, h2, h3⟩ := t p hp
  refine ⟨ps, d _ _ h1 (fun z => ?_), h2, fun pos cv hc => ?_⟩
  · rw [z, hl] at h1; cases h1
  · obtain ⟨c', e1, e2⟩ := h3 pos cv hc
    refine ⟨c', e1, d _ _ e2 (fun z => ?_)⟩
    rw [z, hl] at e2
    have e3 : HO.lst _ = LamX.CodeO l p.2 := Option.some.inj e2
    unfold LamX.CodeO at e3
    cases e3
theorem shelf_dl {C CC : Addr} {l : Addr} {n : Nat} {H H' : Hp} {v : V} {L : Lore} (P : Pot l n H) (d : DL l H H') (h : (rShelf C CC).rel H v L) : (rShelf C CC).rel H' v L := by
  have dT := d.T P
  obtain ⟨x, y, z, hl, _⟩ := P
  have ne : ∀ {b : Addr} {o : HO}, H b = some o → (∀ ws, o ≠ .lst ws) → b ≠ l := fun {b o} e q z => by
    rw [z, hl] at e
    exact q _ (Option.some.inj e).symm
  obtain ⟨a, dx, tx, pa, c, pp, ls, vs, h1, h2, h3, h4, h5, h6, h7⟩ := h
  obtain ⟨a2, dx2, pn, g1, g2, g3⟩ := h4
  refine ⟨a, dx, tx, pa, c, pp, ls, vs, h1, d _ _ h2 (ne h2 fun ws z => nomatch z), (rTup rStr).up dT h3, ⟨a2, dx2, pn, g1, d _ _ g2 (ne g2 fun ws z => nomatch z), (rTupN rStr).up dT g3⟩, (rTup (rTup (rTup rStr))).up dT h5, d _ _ h6 (fun z => ?_), R.us_up dT h7⟩
  rw [z, hl] at h6
  cases h6
  generalize spots L = sp at h7
  cases h7 with
  | cons q _ =>
    obtain ⟨p, _, _, e, _⟩ := q
    cases e
section
variable {α β : Type} {X : Cx} {iter : Expr} {σ : L2.St} {H : Hp} {l : Addr} {n k : Nat} {nm : Str} {rest body : List Stmt} {D : Ends}
/-- for y in iter, where the walk looks at no object -/
theorem ss_forF {r : R α} {post : List α → Prop} {j : Nat} {py s1 : Pos} (hi : EvIF X (.Name nm py) iter σ H l n k r post) (P0 : Pot l n H) (hc : X.calm = true) (hp : PassesOwn (model X.prog X.w) X.A X.env X.xe) (hN : X.N.Nodup)
    (kk : ∀ xs H2, DL l H H2 → Pot l (n + k) H2 → post xs → ∃ P : Nat → L2.St → Hp → Prop, P 0 σ H2 ∧ (∀ i x v σ' Ha Hc, xs[i]? = some x → P i σ' Ha → Same Ha Hc → r.rel Hc v x → wpSs X body { D with nx := P (i + 1), ct := P (i + 1), bk := wpSs X rest D } (σ'.set j (some v)) Hc) ∧ ∀ σ' H', P xs.length σ' H' → wpSs X rest D σ' H')
    (hj : X.N[j]? = some nm := by rfl) (hx : Loc X.env.scope nm := by first | exact Or.inl rfl | exact Or.inr rfl) (hf : X.fn nm = true ∨ X.env.scope.names.lookup nm = some .local := by first | exact .inl rfl | exact .inr rfl)
    (hs : ∀ x, foldedSetIterable iter X.env x = pure x := by intro _; rfl) : wpSs X (.For (.Name nm py) iter body [] s1 :: rest) D σ H := by
  refine ss_cons (wpS_of (ps_for hp hc wpI_pi (pg_name hN hj hx hf) wpSs_pss hs) ?_)
  refine hi H (DL.refl l H) P0 _ fun J xs H2 d2 P2 hpx wk => ?_
  obtain ⟨P, p0, pt, pe⟩ := kk xs H2 d2 P2 hpx
  refine for_it (n := xs.length) (G := fun _ => True) (Y := fun i Ha v Hb => Same Ha Hb ∧ ∃ x, xs[i]? = some x ∧ r.rel Hb v x)
    ⟨fun i Ha hi _ => wk.goes i Ha hi, fun Ha _ => wk.stops Ha, fun i Ha v Hb hi _ y => wk.yields i Ha v Hb hi y⟩ P p0 (fun _ _ _ _ _ => trivial) ?_ pe
  rintro i v σ' Ha Hc hlt p ⟨sAB, x, hx, rx⟩
  exact pt i x v σ' Ha Hc hx p sAB rx
end
theorem ev_newShelfL {X : Cx} {σ : L2.St} {H : Hp} {e : Expr} {i : TIn} {p pos : Pos} {C CC : Addr} {L : Lore} (eL : loreOf i = L) (M : Mkl X.prog X.w X.K X.mg X.base 4 "Shelf" C (spShe C CC)) (hr : Room 5 X.A) (he : Ev X e σ H rStr i.text) (hS : ShelfOk i) (hg : Gl X "Shelf" := by rfl)
    (hs : starEach [e] X.env = (false, eval e X.env) :: starEach [] X.env := by rfl) (hpl : (backTo pos (starEach [] X.env)).any (·.1) = false := by rfl) : EvS X (.Call (.Name "Shelf" p) [e] [] pos) σ H (rShelf C CC) L := eL ▸ ev_newShelf M hr he hS hg hs hpl
theorem ss_setS {α : Type} {X : Cx} {e : Expr} {σ : L2.St} {H : Hp} {r : RS α} {x : α} {n : Str} {rest : List Stmt} {D : Ends} {i : Nat} {py : Pos} {s1 : Pos} (h : EvS X e σ H r x) (k : ∀ v H1, Same H H1 → r.rel H1 v x → wpSs X rest D (σ.set i (some v)) H1) (hN : X.N.Nodup) (hi : X.N[i]? = some n := by rfl) (hx : Loc X.env.scope n := by first | exact Or.inl rfl | exact Or.inr rfl) (hs : swapsWith e (some (.Name n py)) s1.line X.env = pure false := by rfl)
    (hf : X.fn n = true ∨ X.env.scope.names.lookup n = some .local := by first | exact .inl rfl | exact .inr rfl) : wpSs X (.Assign [.Name n py] e s1 :: rest) D σ H := ss_setW (h H (Same.refl H) _ fun v H1 s rv => k v H1 s rv) hN hi hx hs hf
abbrev sLri : Stmt := top 95
abbrev nLri : List Str := ["_law_pot_here", "_law_lore", "_law_shelf_here", "_law_lap", "_law_record", "_law_lot", "_law_answers", "_law_bound"]
theorem scLri : FnScope nLri ["_law_pot_here"] (defScope sLri) := ⟨rfl, rfl, rfl, by decide +kernel, rfl, by decide +kernel, by decide +kernel⟩
def spLri (Pt : Addr) : Sp := fun vs H Q _ => ∃ l, vs = [.ref l] ∧ Pot l 0 H ∧ LamX.Tabs [(Pt, qAr)] H ∧ ∀ H', ET l H H' → LamX.Tabs [(Pt, qAr)] H' → Q (.bl true) H'
/-- the maths, as the walk of _law_right asks it -/
structure RightOk : Prop where
  shelf : ∀ L, LoreOk L → ∃ i : TIn, i.text = textOf L ∧ ShelfOk i ∧ loreOf i = L
  wf : ∀ L, LoreOk L → WF L
  ar : ∀ (L : Lore) (as : List (Str × Str)) (so : List Str) (b : Int), LoreOk L → as.map (·.1) = lotOf L.names so → (∀ x ∈ as, AnsOk L x) → 0 ≤ b → b ≤ 3 → ArOk L as b
  inside : ∀ (L : Lore) (as : List (Str × Str)) (b : Int), isInside (lawBel L as b) (lawBel L as (b + 1)) = true
section
variable {P : Program} {w : World} {K : PySem.W.Frag} {mg : Str → Option Value} {base : Heap} {f Pt C CC : Addr} {fd : FuncData} {cdv : Value}
theorem ok_right (M : RightOk) (T : Glo mg) (F : FunC K "_law_right" "_law_right" sLri f fd cdv) (cAr : CalG P w K mg base 12 "_law_is_answered_right" (spAr C CC Pt)) (cLth : Cal P w K mg base 5 "_law_thick_shelf" spLth) (mSh : Mkl P w K mg base 4 "Shelf" C (spShe C CC)) (cLst : Cal P w K mg base 1 "_law_shelf_text" spLst)
    (cLof : Cal P w K mg base 2 "_law_of" (spLof rStr)) (cLofI : Cal P w K mg base 2 "_law_of" (spLof rInt)) (cLre : Cal P w K mg base 1 "_law_records" spLre) (cLal : Cal P w K mg base 3 "_law_a_lot" spLal) (cLli : Cal P w K mg base 3 "_law_lied" spLli) (cLii : Cal P w K mg base 1 "_law_is_inside" spLii) (cBel : Cal P w K mg base 8 "believed" (spBel C CC)) :
    FnG P w K mg base 13 f fd ["_law_pot_here"] (spLri Pt) := by
  refine F.okG (N := nLri) scLri (fun vs H Q E h => ?_) (fun A outer s H vs Q E hgd hr h => ⟨wpSs _ _, wpSs_pss, ?_⟩)
  · obtain ⟨l, rfl, _⟩ := h
    rfl
  · obtain ⟨l, rfl, P0, hT, k⟩ := h
    have hu := hu_of' hr
    refine ss_setD (i := 1) (l := l) (n := 0) (k := 201) (r := rLore.s) (post := LoreOk) (ed_callE (i0 := ((2 : Int), (6 : Int), (3 : Int), ())) cLth (hr.mono (by decide)) (j := 0) rfl (by decide) (ed_a3 (R.stays rInt) (R.stays rInt) ed_ci ed_ci ed_ci) rfl (fun _ h => h)) P0 (fun v L H1 d1 P1 hL rv => ?_) scLri.nd
    have rv : rLore.rel H1 v L := rv
    obtain ⟨ti, et, hSh, eLo⟩ := M.shelf L hL
    have T1 := tabs_dl hT P0 d1
    have E1 : ET l H H1 := ET.dl d1
    have hW := M.wf L hL
    refine ss_setS (i := 2) (r := rShelf C CC) (x := L) (ev_newShelfL eLo mSh (hr.mono (by decide)) (ev_call cLst (hr.mono (by decide)) (o := ti.text) (ea_cons (ev_nm 1 rfl rv) ea_nil) hL et.symm) hSh) (fun v2 H2 s2 rs => ?_) scLri.nd
    have P2 := P1.same s2
    have rv2 := rLore.up (Same.T s2) rv
    have T2 := T1.ext s2
    have E2 := E1.trans (ET.same s2)
    refine ss_forF (l := l) (n := 0 + 201) (k := 0) (r := rNat) (post := fun xs => ∃ m, m = 2 ∧ xs = List.range m) (j := 3) (eif_range (pp := fun m => m = 2) ed_ci (fun z hz => ⟨2, hz, by decide, rfl⟩) T.range) P2 rfl (passes_of rfl) scLri.nd (fun xs H3 d3 P3 hx => ?_)
    obtain ⟨_, rfl, rfl⟩ := hx
    refine ⟨fun i σ' H' => (∃ m, Pot l m H' ∧ m ≤ 201 + 33 * i) ∧ ET l H H' ∧ LamX.Tabs [(Pt, qAr)] H' ∧ rLore.rel H' v L ∧ (rShelf C CC).rel H' v2 L ∧ ∃ o3 o4 o5 o6 o7, σ' = [some (.ref l), some v, some v2, o3, o4, o5, o6, o7],
      ⟨⟨_, P3, by omega⟩, E2.trans (ET.dl d3), tabs_dl T2 P2 d3, rLore.up (d3.T P2) rv2, shelf_dl P2 d3 rs, _, _, _, _, _, rfl⟩, ?_, ?_⟩
    · rintro i x v3 σ' Ha Hc hx ⟨⟨m, PA, hm⟩, EA, TA, rl, rs, o3, o4, o5, o6, o7, rfl⟩ sAc rx
      have hi : i < 2 := by simpa using (List.getElem?_eq_some_iff.mp hx).1
      have PA := PA.same sAc
      have EA := EA.trans (ET.same sAc)
      have TA := TA.ext sAc
      have rl := rLore.up (Same.T sAc) rl
      have rs := (rShelf C CC).up sAc rs
      have hu1 : (cxOf CX0 P w K mg base nLri "_law_right" (defScope sLri) f cdv A outer s H E).A.units + 1 < cLine := Nat.lt_of_le_of_lt (Nat.add_le_add_left (by decide) _) hu
      have hvl : (valuesBy L.parts.length).length ≤ 8 := by
        rw [valuesBy_len]
        exact Nat.le_trans (Nat.pow_le_pow_right (by decide) hW.p3) (by decide)
      have hvp : 0 < (valuesBy L.parts.length).length := by rw [valuesBy_len]; exact Nat.pow_pos (by decide)
      refine ss_parD (i := 4) (j := 5) (l := l) (n := m) (k1 := 1) (k2 := 13) (r := rStr.s) (t := (rTup rStr).s) (post := fun z => z ∈ valuesBy L.parts.length) (post' := fun ys => ∃ so, ys = lotOf L.names so) (R.stays rStr)
        (ed_callE (i0 := (valuesBy L.parts.length, ())) cLof (hr.mono (by decide)) (j := 0) rfl (by omega) (ed_a1 (ed_newL (el_call cLre (hr.mono (by decide)) (ea_cons (ev_nm 1 rfl rl) ea_nil) hW.p3) (fun H1 d => el_call cLre (hr.mono (by decide)) (ea_cons (ev_nm 1 rfl (rLore.up (d.T PA) rl)) ea_nil) hW.p3))) ⟨hvp, by show (valuesBy L.parts.length).length ≤ 1000; omega⟩ (fun _ h => h))
        (ed_callE (i0 := (L.names, (0 : Int), ())) cLal (hr.mono (by decide)) (j := 0) rfl (by omega) (ed_a2 (R.stays (rTup rStr)) (ed_of (fun H1 d P => (ev_lnames hu1 (ev_nm 1 rfl (rLore.up (d.T PA) rl))).tup) rfl) ed_ci) ⟨hW.n6, rfl⟩ (fun _ h => h)) PA (fun vz vt z lot H4 d4 P4 hz hlot rz rt => ?_) rfl scLri.nd (by decide)
      have hz : z ∈ valuesBy L.parts.length := hz
      obtain ⟨so, hlot⟩ := hlot
      have rz : rStr.rel H4 vz z := rz
      have rt : (rTup rStr).rel H4 vt lot := rt
      have P4 : Pot l (m + (1 + 13)) H4 := P4
      have EA := EA.trans (ET.dl d4)
      have TA := tabs_dl TA PA d4
      have rl := rLore.up (d4.T PA) rl
      have rs := shelf_dl PA d4 rs
      have hl6 : lot.length ≤ 6 := by rw [hlot]; exact Nat.le_trans (List.length_filter_le _ _) hW.n6
      have hlm : ∀ n ∈ lot, n ∈ L.names := fun n hn => by rw [hlot] at hn; exact (List.mem_filter.mp hn).1
      refine ss_parD (i := 6) (j := 7) (l := l) (n := m + (1 + 13)) (k1 := 18) (k2 := 1) (r := rAs.s) (t := rInt.s) (post := fun as => as.map (·.1) = lot ∧ ∀ x ∈ as, AnsOk L x) (post' := fun b => b ∈ ([0, 1, 1, 2] : List Int)) (R.stays rAs)
        (ed_callE (i0 := (L, lot, z, ())) cLli (hr.mono (by decide)) (j := 0) rfl (by omega) (ed_a3 (R.stays rLore) (R.stays (rTup rStr)) (ed_nm 1 rfl rl (R.stays rLore) ⟨_, P4⟩) (ed_nm 5 rfl rt (R.stays (rTup rStr)) ⟨_, P4⟩) (ed_nm 4 rfl rz (R.stays rStr) ⟨_, P4⟩)) ⟨hW, hlm, hl6, rec_of hz⟩ (fun _ h => h))
        (ed_callE (i0 := (([0, 1, 1, 2] : List Int), ())) cLofI (hr.mono (by decide)) (j := 0) rfl (by omega) (ed_a1 (ed_disp (fun H1 => el_cons ev_int (el_cons ev_int (el_cons ev_int (el_cons ev_int el_nil)))) (by decide))) ⟨by decide, by decide⟩ (fun _ h => h)) P4 (fun va vb as b H5 d5 P5 has hb ra rb => ?_) rfl scLri.nd (by decide)
      obtain ⟨has1, has2⟩ := has
      have ra : rAs.rel H5 va as := ra
      have rb : vb = .int b := rb
      subst rb
      have hb01 : 0 ≤ b ∧ b ≤ 2 := by
        have hb : b = 0 ∨ b = 1 ∨ b = 1 ∨ b = 2 := by simpa using hb
        omega
      have P5 : Pot l (m + (1 + 13) + (18 + 1)) H5 := P5
      have EA := EA.trans (ET.dl d5)
      have TA := tabs_dl TA P4 d5
      have rl := rLore.up (d5.T P4) rl
      have rs := shelf_dl P4 d5 rs
      have ar := M.ar L as so b hL (has1.trans hlot) has2 hb01.1 (by omega)
      have ar1 := M.ar L as so (b + 1) hL (has1.trans hlot) has2 (by omega) (by omega)
      refine ss_ifW (wpT_of (pt_not wpT_pt) (wpT_of (pt_val wpE_pe (by intro _; rfl)) (wp_callG cAr hgd hr ((ea_cons (ev_nm 1 rfl rl) (ea_consS (ev_nmS 2 rfl rs) (ea_cons (ev_nm 6 rfl ra) (ea_cons (x := b) (ev_nm (r := rInt) 7 rfl rfl) ea_nil)))) H5 (Same.refl _) _ fun vs H6 s6 rw => ?_))))
      refine ⟨(L, L, as, b, ()), rw, rfl, ar, TA.ext s6, fun H7 e7 T7 => ⟨true, rfl, ?_⟩⟩
      refine iteF (ss_nil ?_)
      have P7 := pot_ext (P5.same s6) e7
      have EA := (EA.trans (ET.same s6)).trans (ET.ext e7)
      have rl := rLore.up (ext_T e7) (rLore.up (Same.T s6) rl)
      have rs := shelf_ext e7 ((rShelf C CC).up s6 rs)
      have ra := rAs.up (ext_T e7) (rAs.up (Same.T s6) ra)
      refine ss_no ((et_not (et_val (ev_call cLii (hr.mono (by decide)) (o := true) (ea_cons (ev_call cBel (hr.mono (by decide)) (o := lawBel L as b) (ea_consS (ev_nmS 2 rfl rs) (ea_cons (ev_nm 6 rfl ra) (ea_cons (ev_nm (r := rInt) 7 rfl rfl) ea_nil))) ⟨hW, ar.G, hb01.1, by show b ≤ 3; omega⟩ ar.bel)
        (ea_cons (ev_call cBel (hr.mono (by decide)) (o := lawBel L as (b + 1)) (ea_consS (ev_nmS 2 rfl rs) (ea_cons (ev_nm 6 rfl ra) (ea_cons (ev_add (ev_nm (r := rInt) 7 rfl rfl) ev_int) ea_nil))) ⟨hW, ar.G, by show 0 ≤ b + 1; omega, by show b + 1 ≤ 3; omega⟩ ar1.bel) ea_nil)) (by have := lawBel_len hW as b; show (lawBel L as b).length ≤ 1000; omega) (M.inside L as b)))).eq rfl) fun H8 s8 => ?_
      exact ss_nil ⟨⟨_, P7.same s8, by omega⟩, EA.trans (ET.same s8), T7.ext s8, rLore.up (Same.T s8) rl, (rShelf C CC).up s8 rs, _, _, _, _, _, rfl⟩
    · rintro σ' H' ⟨⟨m, PA, hm⟩, EA, TA, rl, rs, o3, o4, o5, o6, o7, rfl⟩
      exact ss_ret ev_bl (fun v9 H9 s9 rv9 => by
        have rv9 : v9 = .bl true := rv9
        subst rv9
        exact k H9 (EA.trans (ET.same s9)) (TA.ext s9))
end
end LK
set_option maxHeartbeats 4000000
namespace LK
open PySem PySem.Spec PyProof.Rows L2
/-! ### lies, counted -/
theorem nodup_filter_mem {names l : List Str} (nd : names.Nodup) (nl : l.Nodup) (h : ∀ x ∈ l, x ∈ names) : (names.filter fun n => decide (n ∈ l)).Perm l := by
  refine (List.perm_ext_iff_of_nodup (nd.sublist List.filter_sublist) nl).mpr fun a => ?_
  rw [List.mem_filter]
  exact ⟨fun z => of_decide_eq_true z.2, fun z => ⟨h a z, decide_eq_true z⟩⟩
/-- the answers' keepers stand once each, in the circle -/
structure Keys (L : Lore) (as : List (Str × Str)) : Prop where
  nd : (as.map (·.1)).Nodup
  mem : ∀ x ∈ as, x.1 ∈ L.names
def liesL (L : Lore) (as : List (Str × Str)) (z : Str) : List Str := (as.filter fun x => !decide (answerOf L x.1 z = x.2)).map (·.1)
theorem lies_nd {L : Lore} {as : List (Str × Str)} (k : Keys L as) (q : Str × Str → Bool) : ((as.filter q).map (·.1)).Nodup := k.nd.sublist (List.filter_sublist.map _)
theorem liars_perm {L : Lore} (W : WF L) {as : List (Str × Str)} (k : Keys L as) {z : Str} (hz : z ∈ valuesBy L.parts.length) : (liarsBy L as z).Perm (lawLies L as z) := by
  have e : liesL L as z = lawLies L as z := by
    unfold liesL lawLies
    congr 1
    refine List.filter_congr fun x hx => ?_
    rw [answer_eq W (k.mem x hx) hz]
  show (L.names.filter fun n => decide (n ∈ liesL L as z)).Perm _
  rw [← e]
  refine nodup_filter_mem W.nd (lies_nd k _) fun n hn => ?_
  obtain ⟨x, hx, rfl⟩ := List.mem_map.mp hn
  exact k.mem x (List.mem_filter.mp hx).1
theorem recs_perm : ∀ n, n ≤ 3 → (records n).Perm (valuesBy n) := by decide +kernel
theorem vals_sorted : ∀ n, n ≤ 3 → sortedS (valuesBy n) = true := by decide +kernel
theorem vals_pw {n : Nat} (h : n ≤ 3) : (valuesBy n).Pairwise (fun a b => leS a b = true) := pairwise_of_sortedS _ (vals_sorted n h)
theorem sort_filter {n : Nat} (h : n ≤ 3) {q q' : Str → Bool} (e : ∀ z ∈ valuesBy n, q z = q' z) : sortStr ((records n).filter q) = (valuesBy n).filter q' := by
  refine perm_sorted_eq ?_ (sortStr_sorted _) ((vals_pw h).sublist List.filter_sublist)
  rw [← List.filter_congr e]
  exact (sortStr_perm _).trans ((recs_perm n h).filter q)
theorem lies_len {L : Lore} (W : WF L) {as : List (Str × Str)} (k : Keys L as) {z : Str} (hz : z ∈ valuesBy L.parts.length) : (liarsBy L as z).length = (lawLies L as z).length := (liars_perm W k hz).length_eq
theorem bel_eq {L : Lore} (W : WF L) {as : List (Str × Str)} (k : Keys L as) (b : Int) : believedBy L as b = lawBel L as b := by
  unfold believedBy lawBel
  exact sort_filter W.p3 fun z hz => by rw [lies_len W k hz]
theorem lies_le (L : Lore) (as : List (Str × Str)) (z : Str) : (lawLies L as z).length ≤ as.length := by
  unfold lawLies
  rw [List.length_map]
  exact List.length_filter_le _ _
theorem inside_ok (L : Lore) (as : List (Str × Str)) (b : Int) : isInside (lawBel L as b) (lawBel L as (b + 1)) = true := by
  unfold isInside
  refine all_true fun z hz => decide_eq_true ?_
  have h := List.mem_filter.mp hz
  have h2 := of_decide_eq_true h.2
  exact List.mem_filter.mpr ⟨h.1, decide_eq_true (by omega)⟩
/-! ### the nearest -/
theorem leastOf_le' {l : List Nat} {x : Nat} (h : x ∈ l) : leastOf l ≤ x := leastOf_le h
theorem head_range7 : ∀ m, m ≤ 6 → ((List.range 7).filter fun n => decide (m ≤ n))[0]? = some m := by decide +kernel
theorem near_ok {L : Lore} (W : WF L) {as : List (Str × Str)} (k : Keys L as) (h6 : as.length ≤ 6) : ∃ m : Nat, ((List.range 7).filter fun n : Nat => !decide (lawBel L as (n : Int) = []))[0]? = some m ∧ m ≤ 6 ∧ nearestOf L as = (m, lawBel L as (m : Int)) := by
  have hp := recs_perm _ W.p3
  have hne : ((lieTab L as).map (·.2)) ≠ [] := by
    unfold lieTab records
    simp
  obtain ⟨m, hm⟩ : ∃ m, leastOf ((lieTab L as).map (·.2)) = m := ⟨_, rfl⟩
  have hmem : ∃ z, z ∈ valuesBy L.parts.length ∧ (lawLies L as z).length = m := by
    have := leastOf_mem hne
    rw [hm] at this
    obtain ⟨p, hp1, e⟩ := List.mem_map.mp this
    obtain ⟨z, hz, rfl⟩ := List.mem_map.mp hp1
    have hz' := hp.subset hz
    exact ⟨z, hz', by rw [← lies_len W k hz']; exact e⟩
  have hle : ∀ z ∈ valuesBy L.parts.length, m ≤ (lawLies L as z).length := fun z hz => by
    rw [← hm, ← lies_len W k hz]
    refine leastOf_le (List.mem_map.mpr ⟨(z, (liarsBy L as z).length), List.mem_map.mpr ⟨z, hp.symm.subset hz, rfl⟩, rfl⟩)
  have hm6 : m ≤ 6 := by
    obtain ⟨z, hz, e⟩ := hmem
    have := lies_le L as z
    omega
  refine ⟨m, ?_, hm6, ?_⟩
  · have : ((List.range 7).filter fun n : Nat => !decide (lawBel L as (n : Int) = [])) = (List.range 7).filter fun n => decide (m ≤ n) := by
      refine List.filter_congr fun n _ => ?_
      by_cases h : m ≤ n
      · obtain ⟨z, hz, e⟩ := hmem
        have : z ∈ lawBel L as (n : Int) := List.mem_filter.mpr ⟨hz, decide_eq_true (by omega)⟩
        have hn : lawBel L as (n : Int) ≠ [] := fun e => by rw [e] at this; cases this
        simp [h, hn]
      · have hn : lawBel L as (n : Int) = [] := by
          unfold lawBel
          rw [List.filter_eq_nil_iff]
          intro z hz
          have := hle z hz
          simp; omega
        simp [h, hn]
    rw [this]
    exact head_range7 m hm6
  · unfold nearestOf
    rw [hm]
    have : sortStr (((lieTab L as).filter fun x => decide (x.2 = m)).map (·.1)) = lawBel L as (m : Int) := by
      have e : ((lieTab L as).filter fun x => decide (x.2 = m)).map (·.1) = (records L.parts.length).filter fun z => decide ((liarsBy L as z).length = m) := by
        unfold lieTab
        rw [List.filter_map, List.map_map]
        exact (List.map_id' _)
      rw [e]
      unfold lawBel
      refine sort_filter W.p3 fun z hz => ?_
      rw [lies_len W k hz]
      have := hle z hz
      exact decide_eq_decide.mpr (by omega)
    rw [this]
end LK
set_option maxHeartbeats 4000000
namespace LK
open PySem PySem.Spec PyProof.Rows L2
theorem keysAs_of {L : Lore} (W : WF L) {as : List (Str × Str)} {so : List Str} (h1 : as.map (·.1) = lotOf L.names so) (h2 : ∀ x ∈ as, AnsOk L x) : Keys L as :=
  ⟨by rw [h1]; exact W.nd.sublist List.filter_sublist, fun x hx => (h2 x hx).nm⟩
theorem few_of {L : Lore} (W : WF L) {as : List (Str × Str)} {so : List Str} (h1 : as.map (·.1) = lotOf L.names so) : as.length ≤ 6 := by
  have : (as.map (·.1)).length ≤ L.names.length := by rw [h1]; exact List.length_filter_le _ _
  rw [List.length_map] at this
  exact Nat.le_trans this W.n6
theorem pieces_two {L : Lore} (W : WF L) {k : Str} (h : k ∈ L.names) : (L.pieces.getD (L.names.idxOf k) []).length ≤ 2 := by
  have hi : L.names.idxOf k < L.pieces.length := by rw [W.len]; exact List.idxOf_lt_length_iff.mpr h
  rw [List.getD_eq_getElem?_getD, List.getElem?_eq_getElem hi]
  exact W.two _ (List.getElem_mem hi)
theorem good_of {L : Lore} (W : WF L) {as : List (Str × Str)} {so : List Str} (h1 : as.map (·.1) = lotOf L.names so) (h2 : ∀ x ∈ as, AnsOk L x) : Good L as := by
  refine ⟨few_of W h1, fun x hx => ?_, ?_⟩
  · have h := h2 x hx
    have : x.2.length = (signs x.2).length := by rw [signs_length]; rfl
    rw [this, h.len]
    exact pieces_two W h.nm
  · unfold areAns
    rw [Bool.and_eq_true]
    refine ⟨all_true fun x hx => ?_, decide_eq_true ?_⟩
    · have h := h2 x hx
      unfold isAns
      rw [Bool.and_eq_true, Bool.and_eq_true]
      refine ⟨decide_eq_true h.nm, decide_eq_true ?_, all_true fun z hz => decide_eq_true ?_⟩
      · rw [spotsOf_one W h.nm, List.length_map, List.length_range, ← h.len, signs_length]
        rfl
      · rcases h.mks z hz with e | e <;> rw [e] <;> decide +kernel
    · rw [h1]
      unfold lotOf
      refine List.filter_congr fun n hn => ?_
      refine decide_eq_decide.mpr ⟨fun h => List.mem_filter.mpr ⟨hn, decide_eq_true h⟩, fun h => of_decide_eq_true (List.mem_filter.mp h).2⟩
/-! ### who lied -/
theorem fst_inj {as : List (Str × Str)} (nd : (as.map (·.1)).Nodup) {x y : Str × Str} (hx : x ∈ as) (hy : y ∈ as) (e : x.1 = y.1) : x = y := by
  induction as with
  | nil => cases hx
  | cons a t ih =>
    rw [List.map_cons, List.nodup_cons] at nd
    rcases List.mem_cons.mp hx with e1 | hx <;> rcases List.mem_cons.mp hy with e2 | hy
    · rw [e1, e2]
    · exact absurd (List.mem_map.mpr ⟨y, hy, by rw [← e, e1]⟩) nd.1
    · exact absurd (List.mem_map.mpr ⟨x, hx, by rw [e, e2]⟩) nd.1
    · exact ih nd.2 hx hy
theorem in_lies {L : Lore} (W : WF L) {as : List (Str × Str)} (k : Keys L as) {x : Str × Str} (hx : x ∈ as) {z : Str} (hz : z ∈ valuesBy L.parts.length) : decide (x.1 ∈ liarsBy L as z) = !decide (lawAns L x.1 z = x.2) := by
  have hm : x.1 ∈ liarsBy L as z ↔ ¬ lawAns L x.1 z = x.2 := by
    rw [(liars_perm W k hz).mem_iff]
    unfold lawLies
    constructor
    · intro h
      obtain ⟨y, hy, e⟩ := List.mem_map.mp h
      have hy' := List.mem_filter.mp hy
      have := fst_inj k.nd hy'.1 hx e
      subst this
      simpa using hy'.2
    · intro h
      exact List.mem_map.mpr ⟨x, List.mem_filter.mpr ⟨hx, by simpa using h⟩, rfl⟩
  by_cases h : lawAns L x.1 z = x.2
  · simp [h, hm]
  · simp [h, hm]
theorem who_ok {L : Lore} (W : WF L) {as : List (Str × Str)} (k : Keys L as) (b : Int) : liarsP L as b = whoL L as (lawBel L as b) := by
  unfold liarsP whoL
  refine List.map_congr_left fun j _ => ?_
  congr 1
  refine List.filter_congr fun x hx => ?_
  have e : marksP ((believedBy L as b).map (liarsBy L as)) x = marksL L (lawBel L as b) x := by
    unfold marksP marksL
    rw [List.map_map, bel_eq W k]
    exact List.map_congr_left fun z hz => in_lies W k hx (lawBel_mem hz)
  unfold kindP kindL
  rw [e]
/-! ### who leaves fewer -/
theorem law_perm {L : Lore} {as as2 : List (Str × Str)} (p : as.Perm as2) (z : Str) : (lawLies L as z).length = (lawLies L as2 z).length := by
  unfold lawLies
  exact ((p.filter _).map _).length_eq
theorem bel_perm {L : Lore} {as as2 : List (Str × Str)} (p : as.Perm as2) (b : Int) : lawBel L as b = lawBel L as2 b := by
  unfold lawBel
  exact List.filter_congr fun z _ => by rw [law_perm p z]
theorem lookup_mem_nd {as : List (Str × Str)} (nd : (as.map (·.1)).Nodup) {x : Str × Str} (h : x ∈ as) : as.lookup x.1 = some x.2 := by
  induction as with
  | nil => cases h
  | cons a t ih =>
    obtain ⟨n, v⟩ := a
    rw [List.map_cons, List.nodup_cons] at nd
    rcases List.mem_cons.mp h with rfl | h
    · simp [List.lookup]
    · have hne : ¬ x.1 = n := fun e => nd.1 (List.mem_map.mpr ⟨x, h, e⟩)
      rw [List.lookup_cons, beq_false_of_ne hne]
      exact ih nd.2 h
theorem with_perm {L : Lore} (W : WF L) {as : List (Str × Str)} {n z : Str} (k : Keys L (as ++ [(n, z)])) : (withAns L as n z).Perm (as ++ [(n, z)]) := by
  unfold withAns
  have hm : ∀ m ∈ (as ++ [(n, z)]).map (·.1), m ∈ L.names := fun m hm => by
    obtain ⟨x, hx, rfl⟩ := List.mem_map.mp hm
    exact k.mem x hx
  refine ((nodup_filter_mem W.nd k.nd hm).map _).trans ?_
  rw [List.map_map]
  have : (as ++ [(n, z)]).map ((fun m => (m, ((as ++ [(n, z)]).lookup m).getD "")) ∘ fun x : Str × Str => x.1) = (as ++ [(n, z)]).map id := List.map_congr_left fun x hx => by
    show (x.1, ((as ++ [(n, z)]).lookup x.1).getD "") = x
    rw [lookup_mem_nd k.nd hx]
    rfl
  rw [this, List.map_id]
theorem keys_perm {L : Lore} {as as2 : List (Str × Str)} (p : as.Perm as2) (k : Keys L as2) : Keys L as := ⟨(p.map _).nodup_iff.mpr k.nd, fun x hx => k.mem x (p.subset hx)⟩
theorem strs_perm : ∀ n, n ≤ 2 → (valuesBy n).Perm (lawStrs n) := by decide +kernel
theorem less_le (L : Lore) (as : List (Str × Str)) (b : Int) (x : Str × Str) : (lawBel L (as ++ [x]) b).length ≤ (lawBel L as b).length := by
  unfold lawBel
  rw [← List.countP_eq_length_filter, ← List.countP_eq_length_filter]
  refine List.countP_mono_left fun z _ h => ?_
  have h := of_decide_eq_true h
  refine decide_eq_true ?_
  have : (lawLies L as z).length ≤ (lawLies L (as ++ [x]) z).length := by
    unfold lawLies
    rw [List.filter_append, List.map_append, List.length_append]
    omega
  omega
theorem lessens_eq {L : Lore} (W : WF L) {as : List (Str × Str)} (k : Keys L as) (b : Int) {n : Str} (hn : n ∈ L.names) (hk : n ∉ as.map (·.1)) : lessens L as b n = lawLess L as b n := by
  unfold lessens lawLess
  rw [spotsOf_one W hn, List.length_map, List.length_range]
  have key : ∀ z, (!decide ((believedBy L (withAns L as n z) b).length = (believedBy L as b).length)) = decide ((lawBel L (as ++ [(n, z)]) b).length < (lawBel L as b).length) := fun z => by
    have k2 : Keys L (as ++ [(n, z)]) := by
      refine ⟨?_, fun x hx => ?_⟩
      · rw [List.map_append]
        exact List.nodup_append.mpr ⟨k.nd, by simp, fun a ha c hc e => by simp at hc; subst hc; subst e; exact hk ha⟩
      · rcases List.mem_append.mp hx with hx | hx
        · exact k.mem x hx
        · have : x = (n, z) := by simpa using hx
          rw [this]; exact hn
    have p := with_perm W k2
    rw [bel_eq W (keys_perm p k2), bel_eq W k, bel_perm p]
    have := less_le L as b (n, z)
    by_cases h : (lawBel L (as ++ [(n, z)]) b).length = (lawBel L as b).length
    · simp [h]
    · have h2 : (lawBel L (as ++ [(n, z)]) b).length < (lawBel L as b).length := by omega
      simp [h, h2]
  have hf : (fun z => !decide ((believedBy L (withAns L as n z) b).length = (believedBy L as b).length)) = fun z => decide ((lawBel L (as ++ [(n, z)]) b).length < (lawBel L as b).length) := funext key
  rw [hf]
  exact (strs_perm _ (pieces_two W hn)).all_eq
theorem ask_ok {L : Lore} (W : WF L) {as : List (Str × Str)} (k : Keys L as) (b : Int) : askedP L as b = sortStr (L.names.filter fun n => !decide (n ∈ as.map (·.1)) && lawLess L as b n) := by
  unfold askedP
  congr 1
  rw [List.filter_filter]
  refine List.filter_congr fun n hn => ?_
  by_cases h : n ∈ as.map (·.1)
  · simp only [h, decide_true, Bool.not_true, Bool.false_and, Bool.and_false]
  · rw [lessens_eq W k b hn h]
    simp only [h, decide_false, Bool.not_false, Bool.true_and, Bool.and_true]
theorem rightOk : RightOk where
  shelf := fun L h => ⟨tinOf L, rfl, shelf_tin h, lore_tin h⟩
  wf := fun L h => h.wf
  ar := fun L as so b h h1 h2 h3 h4 => by
    have W := h.wf
    have k := keysAs_of W h1 h2
    exact ⟨W, good_of W h1 h2, fun x hx => (h2 x hx).nm, h3, h4, bel_eq W k b, near_ok W k (few_of W h1), who_ok W k b, ask_ok W k b⟩
  inside := inside_ok
end LK
set_option maxHeartbeats 4000000
namespace LK
open PySem PySem.Spec PyProof.Rows L2
abbrev sLaw : Stmt := top 96
abbrev nLaw : List Str := ["_law_script", "_law_place"]
theorem scLaw : FnScope nLaw ["_law_script"] (defScope sLaw) := ⟨rfl, rfl, rfl, by decide +kernel, rfl, by decide +kernel, by decide +kernel⟩
def spLaw (K : PySem.W.Frag) (Pt : Addr) : Sp := fun vs H Q _ => ∃ (a : Addr) (ns : List Int), vs = [.ref a] ∧ SqL K H a (ns.map V.int) ∧ LamX.Tabs [(Pt, qAr)] H ∧ ∀ H', Q (.bl true) H'
theorem sqL_ext {K : PySem.W.Frag} {H H' : Hp} {a : Addr} {vs : List V} (h : SqL K H a vs) (e : LamX.ExtN H H') : SqL K H' a vs := by
  rcases h with (h | ⟨o, h⟩) | h
  · exact .inl (.inl (e _ _ h (fun ps z => nomatch z)))
  · exact .inl (.inr ⟨o, e _ _ h (fun ps z => nomatch z)⟩)
  · exact .inr h
theorem ext_mut {H H1 : Hp} {D : Addr} {o : HO} (e : LamX.ExtN H H1) (h : H D = none) : LamX.ExtN H (upd H1 D o) := fun b u hb n => by
  rw [upd_ne (ne_of_none hb h)]
  exact e b u hb n
theorem tabs_upd {T : List (Addr × Str)} {H : Hp} {D : Addr} {xs : List V} {o : HO} (t : LamX.Tabs T H) (h : H D = some (.lst xs)) : LamX.Tabs T (upd H D o) := fun p hp => by
  obtain ⟨ps, h1, h2, h3⟩ := t p hp
  refine ⟨ps, by rw [upd_ne (fun z => by rw [z, h] at h1; cases h1)]; exact h1, h2, fun pos cv hc => ?_⟩
  obtain ⟨c', e1, e2⟩ := h3 pos cv hc
  have hne : c' ≠ D := fun z => by
    rw [z, h] at e2
    have e3 : HO.lst _ = LamX.CodeO D p.2 := Option.some.inj e2
    unfold LamX.CodeO at e3
    cases e3
  exact ⟨c', e1, by rw [upd_ne hne]; exact e2⟩
section
variable {X : Cx} {iter elt : Expr} {σ : L2.St} {H : Hp} {scope : Scope} {pos : Pos}
/-- [elt for y in iter], elt true each time, tables may grow -/
theorem wp_lcT {T : List (Addr × Str)} {y : Str} {py : Pos} {j : Nat} {Q : VK} (hc : X.calm = true) (hN : X.N.Nodup) (ok : BlkOk X.N X.env.scope scope [(y, j)]) (hi : wpE X iter σ H fun v H2 => ∃ (p : Addr) (xs : List Nat), v = .ref p ∧ H p = none ∧ Same H H2 ∧ H2 p = some (.lst (xs.map fun i : Nat => V.int (i : Int))) ∧ xs.length ≤ 1000 ∧ ∀ x ∈ xs, x ≤ 1000) (hT : LamX.Tabs T H)
    (he : ∀ (x : Nat) H1, x ≤ 1000 → LamX.ExtN H H1 → LamX.Tabs T H1 → ∀ s H0 C cl fp (Q' : VK), (∀ H2, LamX.ExtN H1 H2 → LamX.Tabs T H2 → Q' (.bl true) H2) → wpE (Blk X scope s H0 C cl fp) elt ((σ.set j none).set j (some (.int (x : Int)))) H1 Q')
    (k : ∀ n q H2, LamX.Tabs T H2 → H2 q = some (.lst (List.replicate n (V.bl true))) → Q (.ref q) H2)
    (hj : X.N[j]? = some y := by rfl) (hl : scope.names.lookup y = some .local := by rfl) (hs : ∀ x, foldedSetIterable iter X.env x = pure x := by intro _; rfl) :
    wpE X (.ListComp elt [⟨.Name y py, iter, [], 0⟩] scope pos) σ H Q := by
  refine wpE_of (pe_lc (tt := wpFB X scope []) (te := wpEB X scope elt) hc hN wpI_pi ok (fun s H C cl fp => pg_name hN hj (.inl (blk_local hl)) (.inr (blk_local hl))) (fun s H C cl fp => ⟨fun pins s' σ H' Q I h => (h s H C cl fp).run pins s' I⟩) (fun s H C cl fp => ⟨fun pins s' σ H' Q I h => (h s H C cl fp).run pins s' I⟩) hs) ?_
  refine wpI_of (pi_list wpE_pe) (wpE_mono hi fun v H2 ⟨p, xs, ev, np, s2, hp, hz, hx1000⟩ => ?_)
  subst ev
  refine ⟨p, rfl, ⟨_, SqL.of hp⟩, fun Dd hD => ?_⟩
  have hDH : H Dd = none := none_of_same s2 hD
  have hl' : (xs.map fun i : Nat => V.int (i : Int)).length = xs.length := List.length_map ..
  refine lc_it (walk_list (xs := xs.map fun i : Nat => V.int (i : Int)))
    (fun i Hh => LamX.ExtN H2 Hh ∧ LamX.Tabs T Hh ∧ Hh Dd = some (.lst (List.replicate i (V.bl true)))) ⟨ext_mut (LamX.ExtN.refl _) hD, (hT.ext s2).ext (Same.new hD), upd_same⟩ (fun i Ha _ q => SqL.of (q.1 _ _ hp (fun ps z => nomatch z))) ?_ ?_
  · rintro i v Ha Hb hlt ⟨eA, tA, hv⟩ ⟨eHb, hx⟩
    subst eHb
    rw [List.getElem?_map] at hx
    obtain ⟨x, hx1, hx2⟩ := Option.map_eq_some_iff.mp hx
    subst hx2
    refine ⟨set_set_none, fun s' H0 C cl fp => ef_nil Hb (Same.refl _) _ fun H3 s4 => ?_⟩
    refine iteT fun s' H0 C cl fp => ?_
    have eH3 : LamX.ExtN H H3 := (LamX.ExtN.of s2).trans (eA.trans (LamX.ExtN.of s4))
    refine he x H3 (hx1000 x (List.mem_of_getElem? hx1)) eH3 (tA.ext s4) s' H0 C cl fp _ fun H4 e4 t4 => ?_
    have hD4 : H4 Dd = some (.lst (List.replicate i (V.bl true))) := e4 _ _ (s4 _ _ hv) (fun ps z => nomatch z)
    refine ⟨_, hD4, sz_lt (by rw [List.length_replicate]; omega), ext_mut (eA.trans ((LamX.ExtN.of s4).trans e4)) hD, tabs_upd t4 hD4, ?_⟩
    rw [upd_same, List.replicate_succ']
  · rintro Ha ⟨eA, tA, hv⟩
    rw [hl'] at hv
    exact k _ _ _ tA hv
end
section
variable {P : Program} {w : World} {K : PySem.W.Frag} {mg : Str → Option Value} {base : Heap} {f Pt : Addr} {fd : FuncData} {cdv : Value}
theorem ok_law (T : Glo mg) (F : FunC K "law" "law" sLaw f fd cdv) (cRi : CalG P w K mg base 13 "_law_right" (spLri Pt)) (cPo : Cal P w K mg base 1 "_law_pot" (spLpo K)) (cCe : Cal P w K mg base 1 "_law_cells" (spLce K)) : FnG P w K mg base 14 f fd ["_law_script"] (spLaw K Pt) := by
  refine F.okG (N := nLaw) scLaw (fun vs H Q E h => ?_) (fun A outer s H vs Q E hgd hr h => ⟨wpSs _ _, wpSs_pss, ?_⟩)
  · obtain ⟨a, ns, rfl, _⟩ := h
    rfl
  · obtain ⟨a, ns, rfl, hS, hT, k⟩ := h
    refine ss_cons (wpS_of (ps_ret wpE_pe) ?_)
    refine wpE_of (pe_callB (cr_all rfl) rfl T.all (by decide +kernel) (pa_cons wpE_pe pa_nil rfl) (by decide) (by decide) rfl rfl) ?_
    refine wp_lcT (j := 1) (T := [(Pt, qAr)]) rfl scLaw.nd (blkOk_by (N := nLaw) (sc := defScope sLaw) (by decide +kernel)) ?_ hT (fun x H1 hx e1 t1 s' H0 C cl fp Q' hQ => ?_) (fun n q H2 t2 hq => ?_)
    · refine wp_call cCe (hr.mono (by decide)) (wpA_of (pa_cons (pe_var (i := 0) rfl (.inr (.inl rfl))) (pa_cons pe_int pa_nil rfl) rfl) ⟨_, rfl, ?_⟩)
      exact ⟨a, ns, rfl, hS, fun l m H' hm nl s' hl => ⟨l, List.range m, rfl, nl, s', hl, by rw [List.length_range]; omega, fun x hx => by have := List.mem_range.mp hx; omega⟩⟩
    · refine wp_callG cRi hgd hr (wpA_of (pa_cons wpE_pe pa_nil rfl) (wp_call cPo (hr.mono (by decide)) (wpA_of (pa_cons (pe_var (i := 0) rfl (by first | exact Or.inl rfl | exact Or.inr (Or.inl rfl) | exact Or.inr (Or.inr rfl))) (pa_cons (pe_var (i := 1) rfl (by first | exact Or.inl rfl | exact Or.inr (Or.inl rfl) | exact Or.inr (Or.inr rfl))) pa_nil rfl) rfl) ⟨_, rfl, _, rfl, ?_⟩)))
      refine ⟨a, ns, x, rfl, sqL_ext hS e1, hx, fun l H2 nl s2 P2 => ⟨l, rfl, P2, t1.ext s2, fun H3 e3 t3 => hQ H3 (fun b o hb hn => e3 b o (s2 _ _ hb) (ne_of_none hb nl) hn) t3⟩⟩
    · refine ⟨q, List.replicate n true, rfl, ?_, ?_⟩
      · rw [List.map_replicate]; exact SqL.of hq
      · have : (List.replicate n true).all id = true := by rw [List.all_eq_true]; intro b hb; exact (List.mem_replicate.mp hb).2
        rw [this]
        exact k H2
end
end LK
set_option maxHeartbeats 4000000
namespace LK
open PySem PySem.Spec PyProof.Rows L2
/-! ### the law is called: one table, no repr under way -/
/-- what is tracked at the call: the table, and the script where K does not hold it -/
def hStart (K : PySem.W.Frag) (a Pt : Addr) (o : Obj) (xs : List V) : Hp := fun b => if b = Pt then some (.tbl #[]) else if b = a then (if (K.lookup a).isSome then none else some (.frz o (.lst xs))) else none
section
variable {P : Program} {w : World} {K : PySem.W.Frag} {mg mb : Str → Option Value} {k : Nat} {fa a c Pt : Addr} {fd : FuncData} {x : Str} {sp : Sp} {s₁ : Shared} {vs : List Value} {ns : List Int}
theorem law_callG (KX : K.In s₁.heap) (hns : s₁.heap.Ns mainGlobals mg) (hb : s₁.heap.Ns builtinsNs mb) (hbb : ∀ x : Str, x ≠ "__name__" → mb x = bootBuiltins x) (hlim : s₁.heap.NoLimit) (hg : s₁.gens = #[])
    (hT : s₁.heap.get? Pt = some { cls := .none, data := .fields #[] }) (nT : K.lookup Pt = none) (hC : PySem.W.codeHdIn K c Pt = true)
    (hbm : ∃ (bm : Addr) (ob : Obj), mg "__builtins__" = some (.ref bm) ∧ bm ≠ builtinsNs ∧ s₁.heap.get? bm = some ob ∧ ob.cls = .type "module" ∧ ob.dict = some builtinsNs ∧ ob.data = .plain)
    (ha : s₁.heap.get? a = some { cls := .type "list", data := .seq vs.toArray }) (hi : IntsAre vs ns) (hl : ns.length ≤ sizeLine) (hr : Room k callerA)
    (F : ∀ base : Heap, LamX.TabB base mg c Pt → FnG P w K mg base k fa fd [x] sp) (hbind : ∀ (s : Shared) (u : Value), BindsTo s fd ⟨[u], []⟩ [(x, u)])
    (hsp : ∀ H : Hp, H Pt = some (.tbl #[]) → SqL K H a (ns.map V.int) → sp [.ref a] H (fun v _ => v = .bl true) fun _ _ _ => False) :
    codeAny (model P w) callerA (.call (.ref fa) ⟨[.ref a], []⟩) (fun r s' => r = .ok (.ret (.bool true)) ∧ OldK s₁.heap s'.heap ∧ s'.os = s₁.os ∧ AllBare s'.gens) s₁ := by
  have rv := vals_ints hi
  have lenV := hi.length
  have aP : a ≠ Pt := fun z => by
    rw [z, hT] at ha
    have q := congrArg Obj.data (Option.some.inj ha)
    cases q
  generalize eo : ({ cls := .type "list", data := .seq vs.toArray } : Obj) = oa at ha
  obtain ⟨H, eH⟩ : ∃ H, H = hStart K a Pt oa (ns.map V.int) := ⟨_, rfl⟩
  have HP : H Pt = some (.tbl #[]) := by rw [eH]; exact if_pos rfl
  have Hel : ∀ b, b ≠ Pt → b ≠ a → H b = none := fun b h1 h2 => by
    rw [eH]
    exact (if_neg h1).trans (if_neg h2)
  have Ha : H a = if (K.lookup a).isSome then none else some (.frz oa (.lst (ns.map V.int))) := by
    rw [eH]
    exact (if_neg aP).trans (if_pos rfl)
  have free : ∀ {b : Addr} {o : Obj}, s₁.heap.get? b = some o → (∀ its n, o.data ≠ .seq its n) → o.data ≠ .fields #[] → H b = none := fun {b o} e h1 h2 => by
    refine Hel b (fun z => ?_) fun z => ?_
    · rw [z, hT] at e
      cases e
      exact h2 rfl
    · rw [z, ha, ← eo] at e
      cases e
      exact h1 _ _ rfl
  have freeD : ∀ {b : Addr} {o : Obj} {es : Array DictEntry} {ep : Nat}, s₁.heap.get? b = some o → o.data = .dict es ep → H b = none := fun {b o es ep} e d => free e (fun its n z => by rw [d] at z; cases z) fun z => by rw [d] at z; cases z
  have nsK : ∀ {b : Addr} {m : Str → Option Value}, s₁.heap.Ns b m → (hidT s₁.heap H).Ns b m := fun {b m} ⟨o, es, ep, e, d, r⟩ => ⟨o, es, ep, hidT_get e (freeD e d), d, r⟩
  have hKb : K.In (hidT s₁.heap H) := fun b o e => hidT_get (KX b o e) (by
    by_cases h1 : b = Pt
    · rw [h1, nT] at e; cases e
    · by_cases h2 : b = a
      · rw [h2] at e ⊢
        rw [Ha, e]
        rfl
      · exact Hel b h1 h2)
  have hM : L2.Mod K mg (hidT s₁.heap H) := ⟨hKb, nsK hns, ⟨mb, nsK hb, hbb⟩, let ⟨mc, h1, h2⟩ := hlim; ⟨mc, nsK h1, h2⟩⟩
  have TB : LamX.TabB (hidT s₁.heap H) mg c Pt := by
    refine ⟨PySem.W.codeHd_of_K hKb hC, ?_, fun z => ?_⟩
    · obtain ⟨bm, ob, b1, b2, b3, b4, b5, b6⟩ := hbm
      refine ⟨bm, ob, b1, b2, fun q => ?_, fun q => ?_, hidT_get b3 (free b3 (fun its n z => by rw [b6] at z; cases z) fun z => by rw [b6] at z; cases z), b4, b5, b6⟩
      · obtain ⟨o, es, ep, e, hd, _⟩ := hns
        rw [q, e] at b3
        cases b3
        rw [hd] at b6
        cases b6
      · rw [q, hT] at b3
        cases b3
        cases b6
    · obtain ⟨o, es, ep, e, hd, _⟩ := hns
      rw [z, hT] at e
      cases e
      cases hd
  have hok : HOk P w H s₁.heap := fun b u z => by
    by_cases h1 : b = Pt
    · rw [h1, HP] at z
      cases z
      rw [h1]
      exact hT
    · by_cases h2 : b = a
      · rw [h2, Ha] at z
        cases q : K.lookup a with
        | some o => rw [q] at z; cases z
        | none =>
          rw [q] at z
          cases z
          rw [h2]
          exact ⟨ha, by rw [List.length_map]; exact hl, vs, _, rv, by rw [ha, ← eo]⟩
      · rw [Hel b h1 h2] at z
        cases z
  have hS : SqL K H a (ns.map V.int) := by
    cases q : K.lookup a with
    | none =>
      rw [q] at Ha
      exact .inl (.inr ⟨oa, Ha⟩)
    | some o =>
      have e := KX a o q
      rw [ha] at e
      cases e
      refine .inr ⟨oa, vs.toArray, _, q, by rw [← eo], by rw [← eo], by rw [← eo], by rw [List.size_toArray, lenV]; exact hl, by simpa using rv⟩
  have e0 : Env0 P w K mg (hidT s₁.heap H) callerA [] s₁ H := ⟨rfl, hM, fun b o e => of_hidT e, Nat.le_of_eq (hidT_size _ _), trivial, fun b hb => absurd (show b ∈ ([] : List Addr) from hb) (by simp), hok, .of_eq hg⟩
  refine codeAny_mono ((F _ TB).run callerA [] s₁ H ⟨[.ref a], []⟩ [.ref a] [.ref a] _ _ rfl hr e0 (hbind s₁ (.ref a)) (.cons rfl .nil) (hsp H HP hS)) fun r s' h => ?_
  cases r with
  | error e => exact False.elim h
  | ok fl =>
    cases fl with
    | next => exact False.elim h
    | brk => exact False.elim h
    | cont => exact False.elim h
    | ret u =>
      obtain ⟨v, H', os, bare, un, hok', r', q⟩ := h
      have q' : v = .bl true := q
      subst q'
      obtain rfl : u = Value.bool true := r'
      obtain ⟨more, hm⟩ := un.tbls Pt #[] HP
      have hPt : s'.heap.get? Pt = some { cls := .none, data := .fields (#[] ++ more) } := hok' Pt _ hm
      have keep : ∀ b o, b ≠ Pt → s₁.heap.get? b = some o → s'.heap.get? b = some o := fun b o nb e => by
        cases q : H b with
        | none => exact un.keep b o e q (by intro z; exact absurd (show b ∈ ([] : List Addr) from z) (by simp)) (by simp)
        | some u =>
          have hba : b = a := Classical.byContradiction fun h2 => by rw [Hel b nb h2] at q; cases q
          rw [hba, Ha] at q
          cases qk : K.lookup a with
          | some o => rw [qk] at q; cases q
          | none =>
            rw [qk] at q
            cases q
            rw [qk] at Ha
            have z2 := un.frzs a oa _ Ha
            obtain ⟨e2, _⟩ := hok' a _ z2
            rw [hba, ha] at e
            cases e
            rw [hba]
            exact e2
      refine ⟨rfl, ⟨fun b o e => ?_, fun b o e => ?_⟩, os, bare⟩
      · by_cases hb : b = Pt
        · rw [hb] at e ⊢
          rw [hT] at e
          cases e
          exact .inr (.inl ⟨((PySem.W.codeHd_of_K KX hC).tab hT).isCodeTable, rfl, #[], more, rfl, hPt.trans (by rw [Array.empty_append])⟩)
        · exact .inl (keep b o hb e)
      · by_cases hb : b = Pt
        · rw [hb]
          exact ⟨_, hPt⟩
        · exact ⟨o, keep b o hb e⟩
end
end LK
set_option maxHeartbeats 4000000
namespace LK
open PySem PySem.Spec PyProof.Rows L2
/-! ### from what is looked at to what the walks ask -/
section
variable {P : Program} {w : World} {K : PySem.W.Frag} {mg : Str → Option Value} {base : Heap} {f : Addr} {fd : FuncData} {k : Nat} {x qual : Str} {st : Stmt} {ps : List Str} {sp : Sp}
theorem fun_of (F : FunD K x qual (defArgs st) (defBody st) (defScope st) [] [] f fd) : Fun K x qual st f fd := by
  obtain ⟨oc, od, dV, kV, doc, pm, an, cdv, ct, osl, rfl, lk, hcd, hD, hK⟩ := F.ex
  rcases hD with ⟨_, rfl⟩ | ⟨e, _⟩
  · exact ⟨⟨oc, od, kV, doc, pm, an, cdv, ct, osl, rfl, lk, hcd⟩, F.kp⟩
  · exact absurd rfl e
theorem cal_mk (F : Fun K x qual st f fd) (ok : FnOk P w K mg base CX0 k f fd ps sp) (g : mg x = some (.ref f)) (b : Binds K fd ps []) : Cal P w K mg base k x sp :=
  ⟨f, fd, ps, [], [], sp, ok, g, F.kp, b, .nil, fun vs H Q E h => by rw [List.append_nil]; exact h⟩
theorem calX_mk (F : Fun K x qual st f fd) (ok : FnOk P w K mg base (L2.CX P w) k f fd ps sp) (g : mg x = some (.ref f)) (b : Binds K fd ps []) : CalX P w K mg base k x sp := ⟨f, fd, ps, ok, g, F.kp, b⟩
theorem calG_mk {cdv : Value} (F : FunC K x qual st f fd cdv) (ok : FnG P w K mg base k f fd ps sp) (g : mg x = some (.ref f)) (b : Binds K fd ps []) : CalG P w K mg base k x sp := ⟨f, fd, ps, ok, g, F.kp, b⟩
theorem fnY_at {a : Addr} {y : YD} (e : fnY K a = y.val) : ∃ oc od osl kV doc pm an cdv ct cl, K.lookup a = some ⟨oc, od, .func (PySem.W.fnX y.name y.qual (defArgs y.st) (defBody y.st) (defScope y.st) cl .none kV doc pm an cdv ct), osl⟩ ∧ cl.map (·.1) = y.cl := by
  unfold fnY at e
  cases q : K.lookup a with
  | none =>
    rw [q] at e
    cases e
  | some o =>
    obtain ⟨oc, od, dt, osl⟩ := o
    rw [q] at e
    cases dt with
    | func fd =>
      obtain ⟨n1, n2, n3, n4, n5, n6, n7, n8, n9, n10, n11, n12, n13, n14, n15⟩ := fd
      have e2 : (some (n1, n2, n3, n4, n5, n6, n7.map (·.1), n8, n15) : FnY) = some (y.name, y.qual, defArgs y.st, .stmts (defBody y.st), defScope y.st, mainGlobals, y.cl, .none, builtinsNs) := e
      simp only [Option.some.injEq, Prod.mk.injEq] at e2
      obtain ⟨h1, h2, h3, h4, h5, h6, h7, h8, h9⟩ := e2
      subst h1 h2 h3 h4 h5 h6 h8 h9
      exact ⟨oc, od, osl, n9, n10, n11, n12, n13, n14, n7, rfl, h7⟩
    | _ => cases e
theorem SaysY.y {h : Heap} (c : SaysY w h K) (i : Nat) {y : YD} (hy : hY[i]? = some y) : fnY K (y.at_ K) = y.val := by
  have e2 : (hY.map fun y => fnY K (y.at_ K))[i]? = (hY.map YD.val)[i]? := by rw [c.ys]
  rw [List.getElem?_map, List.getElem?_map, hy] at e2
  exact Option.some.inj e2
theorem pro_of {cn fn' fl : Str} {y : YD} (hB : proB K cn fn' = true) (e : fnY K (proG K cn fn') = y.val) (hq : y.qual = cn ++ ("." : Str) ++ fn') (hcl : y.cl = []) {p1 p2 p3 : Pos} {N : List Str} (S : FnScope N ["self"] (defScope y.st)) (hN : N[0]? = some ("self" : Str))
    (hb : defBody y.st = [.Return (some (.Attribute (.Name "self" p1) fl p2)) p3]) (c : Cls K (He.ga K cn)) (n : NoAttr K (He.ga K cn) fl)
    (hbd : ∀ (kV doc pm : Value) (an : Option Addr) (cdv ct : Value) (us : List Value), us.length = 1 → bindArgs (PySem.W.fnOf y.name y.qual (defArgs y.st) (defBody y.st) (defScope y.st) .none kV doc pm an cdv ct) ⟨us, []⟩ = pure ((["self"] : List Str).zip us)) : Pro P w K mg base (He.ga K cn) fn' fl := by
  obtain ⟨oc, od, osl, kV, doc, pm, an, cdv, ct, cl, lk, hc⟩ := fnY_at e
  rw [hcl] at hc
  obtain rfl : cl = [] := List.map_eq_nil_iff.mp hc
  obtain ⟨b1, hB⟩ := Bool.and_eq_true_iff.mp hB
  obtain ⟨b2, hB⟩ := Bool.and_eq_true_iff.mp hB
  obtain ⟨b3, hB⟩ := Bool.and_eq_true_iff.mp hB
  obtain ⟨b4, b5⟩ := Bool.and_eq_true_iff.mp hB
  have hcode : PySem.W.codeIn K cdv y.qual = true := by
    rw [hq]
    unfold codeB at b5
    rw [lk] at b5
    exact b5
  have hrec : ∃ rest, PySem.W.recIn K (proA K cn fn') "property" = some (.ref (proG K cn fn') :: rest) := by
    unfold proG
    cases q : PySem.W.recIn K (proA K cn fn') "property" with
    | none =>
      rw [q] at b4
      cases b4
    | some l =>
      rw [q] at b4
      cases l with
      | nil => cases b4
      | cons v r =>
        cases v with
        | ref g => exact ⟨r, rfl⟩
        | _ => cases b4
  exact ⟨proA K cn fn', proG K cn fn', _, ⟨He.eqO_ok b1, He.eqO_ok b2, of_decide_eq_true b3, hrec⟩, fn_getter lk hcode S hN hb c n, .all (hbd kV doc pm an cdv ct)⟩
theorem oex_of {C : Addr} (h : excB K C = true) : ∃ nm q N bs bm sn sub ab col dd k0 k1 k2 k3 k5, K.lookup C = some (excClassObj nm q C N bs bm true sn sub ab col dd k0 k1 k2 k3 k5 "ValueError.__new__") ∧ PySem.HandSPX.refsVE bm = true := by
  unfold excB at h
  split at h
  · rename_i c' dd cd sl ho
    obtain ⟨h0, h⟩ := Bool.and_eq_true_iff.mp h
    have h0 := of_decide_eq_true h0
    subst h0
    split at h
    · rename_i C' bm k0 k1 k2 k3 n k5 hm hs
      simp only [Bool.and_eq_true, decide_eq_true_eq, Bool.not_eq_true'] at h
      obtain ⟨_, rfl, rfl, hdel, hd, hr⟩ := h
      obtain ⟨nm, bs, mro, ns, qn, hdd, sn, sub, ab, col, del⟩ := cd
      dsimp only at hm hdel hd
      subst hm hdel hd
      have hsl : sl = #[k0, k1, k2, k3, some (.builtin "ValueError.__new__"), k5] := by
        obtain ⟨l⟩ := sl
        simp only at hs
        rw [hs]
      subst hsl
      exact ⟨nm, qn, ns, bs, bm, sn, sub, ab, col, dd, k0, k1, k2, k3, k5, ho, hr⟩
    · cases h
  · cases h
abbrev LP : Program := (PySem.Challenge.rw_lotkeepers_k31_whole_records_believed_an).prog
theorem sup_of {h : Heap} (c : SaysY w h K) (x6 : lotB K = true) (tiI : PySem.W.typeIn K (.ref (lotI K)) = some (.type "function")) (clsD : (PySem.W.clsIn K (He.ga K "LotError")).isSome = true) (subD : PySem.W.mroIn K (He.ga K "Unbelieved") (.ref (He.ga K "LotError")) = some true)
    (sup : PySem.W.ks_superIn K (He.ga K "Unbelieved") (He.ga K "LotError") "__init__" = some (some (.builtin "ValueError.__init__"))) (subV : PySem.W.subIn K (.ref (He.ga K "Unbelieved")) (.type "ValueError") = some true) (opq : PySem.W.nsIn K cStatics "thirdparty.any" = some none) (noV : PySem.W.findIn K (.ref (He.ga K "Unbelieved")) "value" = some none)
    (msup : mg "super" = none) (oex : OexC K (He.ga K "Unbelieved")) : ∃ fd, SupK LP K mg (He.ga K "LotError") (He.ga K "Unbelieved") (lotI K) fd ∧ Binds K fd ["self", "value"] [] := by
  obtain ⟨oc, od, osl, kV, doc, pm, an, cdv, ct, cl, lk0, hcl0⟩ := fnY_at (c.y 4 rfl)
  have lk : K.lookup (lotI K) = some ⟨oc, od, .func (PySem.W.fnX "__init__" "LotError.__init__" (defArgs sLer) (defBody sLer) (defScope sLer) cl .none kV doc pm an cdv ct), osl⟩ := lk0
  have hcl : cl.map (·.1) = [("__class__" : Str)] := hcl0
  clear lk0 hcl0
  unfold lotB at x6
  rw [lk] at x6
  dsimp only at x6
  split at x6
  · rename_i cda nm cc
    obtain ⟨y1, x6⟩ := Bool.and_eq_true_iff.mp x6
    obtain ⟨y2, y3⟩ := Bool.and_eq_true_iff.mp x6
    have hnm : nm = "__class__" := by simpa using hcl
    subst hnm
    refine ⟨_, ⟨⟨oc, od, kV, doc, pm, ct, an, cda, cc, osl, rfl, lk, y1, ?_, ?_⟩, ?_, subD, sup, subV, opq, noV, msup, by kernel_rfl, oex⟩, ?_⟩
    · split at y2
      · rename_i ccl cdd vs ccs q
        split at y2
        · rename_i file tf q2
          exact ⟨ccl, cdd, vs, ccs, file, tf, q, q2, y2⟩
        · cases y2
      · cases y2
    · split at y3
      · rename_i c1 c2 D c3 q
        have := of_decide_eq_true y3
        subst this
        exact ⟨c1, c2, c3, q⟩
      · cases y3
    · exact Option.isSome_iff_exists.mp clsD
    · exact .all fun us hl => match us, hl with | [_, _], _ => rfl
  · cases x6
end
end LK
set_option maxHeartbeats 0
namespace LK
open PySem PySem.Spec PyProof.Rows L2
theorem facts {w : World} {h : Heap} {K : PySem.W.Frag} {mg : Str → Option Value} {fa : Addr} (X : K.In h) (G : h.Ns mainGlobals mg) (c : SaysY w h K) (hfa : mg ("law" : Str) = some (.ref fa)) :
    ∃ (cA Pt : Addr) (fd : FuncData), PySem.W.codeHdIn K cA Pt = true ∧ K.lookup Pt = none ∧ h.get? Pt = some { cls := .none, data := .fields #[] } ∧ (∀ (s : Shared) (v : Value), BindsTo s fd ⟨[v], []⟩ [("_law_script", v)]) ∧
      ∀ base : Heap, LamX.TabB base mg cA Pt → FnG LP w K mg base 14 fa fd ["_law_script"] (spLaw K Pt) := by
  have T : Glo mg := ⟨He.free_ok X G (c.t.d.fact 65 (f := .free "len") rfl), He.free_ok X G (c.t.d.fact 66 (f := .free "sum") rfl), He.free_ok X G (c.t.d.fact 67 (f := .free "enumerate") rfl), He.free_ok X G (c.t.d.fact 68 (f := .free "all") rfl), He.free_ok X G (c.t.d.fact 69 (f := .free "any") rfl), He.free_ok X G (c.t.d.fact 70 (f := .free "isinstance") rfl), He.free_ok X G (c.t.d.fact 71 (f := .free "tuple") rfl), He.free_ok X G (c.t.d.fact 72 (f := .free "int") rfl), He.free_ok X G (c.t.d.fact 73 (f := .free "str") rfl), He.free_ok X G (c.t.d.fact 74 (f := .free "bool") rfl), He.free_ok X G (c.t.d.fact 75 (f := .free "range") rfl), He.free_ok X G (c.t.d.fact 76 (f := .free "zip") rfl), He.free_ok X G (c.t.d.fact 77 (f := .free "sorted") rfl), He.free_ok X G (c.t.d.fact 78 (f := .free "list") rfl), He.free_ok X G (c.t.d.fact 79 (f := .free "dict") rfl), He.free_ok X G (c.t.d.fact 80 (f := .free "min") rfl), He.free_ok X G (c.t.d.fact 81 (f := .free "max") rfl), He.free_ok X G (c.t.d.fact 82 (f := .free "abs") rfl), He.free_ok X G (c.t.d.fact 83 (f := .free "repr") rfl), He.free_ok X G (c.t.d.fact 84 (f := .free "super") rfl), He.str_ok X G (c.t.d.fact 95 (f := .str "BLANK" " ") rfl), He.str_ok X G (c.t.d.fact 96 (f := .str "FEED" "\n") rfl), He.str_ok X G (c.t.d.fact 97 (f := .str "PLUS" "+") rfl), He.str_ok X G (c.t.d.fact 98 (f := .str "SIGNS" "abcdefghijklmnopqrstuvwxyz") rfl), He.int_ok X G (c.t.d.fact 85 (f := .int "MOST_SIGNS" 8) rfl), He.int_ok X G (c.t.d.fact 86 (f := .int "FEWEST_KEEPERS_circles" 2) rfl), He.int_ok X G (c.t.d.fact 87 (f := .int "MOST_KEEPERS_circles" 6) rfl), He.str_ok X G (c.t.d.fact 99 (f := .str "PARTS" "parts") rfl), He.str_ok X G (c.t.d.fact 100 (f := .str "KEEPER" "keeper") rfl), He.str_ok X G (c.t.d.fact 101 (f := .str "ONE" "1") rfl), He.str_ok X G (c.t.d.fact 102 (f := .str "NOUGHT" "0") rfl), He.int_ok X G (c.t.d.fact 88 (f := .int "MOST_PARTS" 4) rfl), He.int_ok X G (c.t.d.fact 89 (f := .int "FEWEST_KEEPERS_shelves" 2) rfl), He.int_ok X G (c.t.d.fact 90 (f := .int "MOST_KEEPERS_shelves" 6) rfl), He.int_ok X G (c.t.d.fact 91 (f := .int "MOST_PIECES" 2) rfl), He.int_ok X G (c.t.d.fact 92 (f := .int "PAIR_shelves" 2) rfl), He.int_ok X G (c.t.d.fact 93 (f := .int "PAIR_answers" 2) rfl), He.int_ok X G (c.t.d.fact 94 (f := .int "MOST_LIES" 3) rfl)⟩
  obtain ⟨fd_parity, D_parity⟩ := c.t.d.def_ 0 (d := dg "parity" 2) rfl
  have F_parity : Fun K "parity" "parity" sPar (He.ga K "parity") fd_parity := fun_of D_parity
  have G_parity : mg "parity" = some (.ref (He.ga K "parity")) := He.glo_ok X G (c.t.d.fact 0 (f := .glo "parity") rfl)
  have B_parity : Binds K fd_parity ["bits"] [] := Fun.binds F_parity fun _ _ _ _ _ _ us hl => match us, hl with | [_], _ => rfl
  obtain ⟨fd_bits_of, D_bits_of⟩ := c.t.d.def_ 1 (d := dg "bits_of" 3) rfl
  have F_bits_of : Fun K "bits_of" "bits_of" sBof (He.ga K "bits_of") fd_bits_of := fun_of D_bits_of
  have G_bits_of : mg "bits_of" = some (.ref (He.ga K "bits_of")) := He.glo_ok X G (c.t.d.fact 1 (f := .glo "bits_of") rfl)
  have B_bits_of : Binds K fd_bits_of ["names", "some"] [] := Fun.binds F_bits_of fun _ _ _ _ _ _ us hl => match us, hl with | [_, _], _ => rfl
  obtain ⟨fd_is_word, D_is_word⟩ := c.t.d.def_ 4 (d := dg "is_word" 19) rfl
  have F_is_word : Fun K "is_word" "is_word" sWord (He.ga K "is_word") fd_is_word := fun_of D_is_word
  have G_is_word : mg "is_word" = some (.ref (He.ga K "is_word")) := He.glo_ok X G (c.t.d.fact 4 (f := .glo "is_word") rfl)
  have B_is_word : Binds K fd_is_word ["value", "words"] [] := Fun.binds F_is_word fun _ _ _ _ _ _ us hl => match us, hl with | [_, _], _ => rfl
  obtain ⟨fd_is_name, D_is_name⟩ := c.t.d.def_ 5 (d := dg "is_name" 20) rfl
  have F_is_name : Fun K "is_name" "is_name" sName (He.ga K "is_name") fd_is_name := fun_of D_is_name
  have G_is_name : mg "is_name" = some (.ref (He.ga K "is_name")) := He.glo_ok X G (c.t.d.fact 5 (f := .glo "is_name") rfl)
  have B_is_name : Binds K fd_is_name ["value"] [] := Fun.binds F_is_name fun _ _ _ _ _ _ us hl => match us, hl with | [_], _ => rfl
  obtain ⟨fd_are_unlike, D_are_unlike⟩ := c.t.d.def_ 6 (d := dg "are_unlike" 21) rfl
  have F_are_unlike : Fun K "are_unlike" "are_unlike" sUnl (He.ga K "are_unlike") fd_are_unlike := fun_of D_are_unlike
  have G_are_unlike : mg "are_unlike" = some (.ref (He.ga K "are_unlike")) := He.glo_ok X G (c.t.d.fact 6 (f := .glo "are_unlike") rfl)
  have B_are_unlike : Binds K fd_are_unlike ["some"] [] := Fun.binds F_are_unlike fun _ _ _ _ _ _ us hl => match us, hl with | [_], _ => rfl
  obtain ⟨fd_lot_of, D_lot_of⟩ := c.t.d.def_ 7 (d := dg "lot_of" 25) rfl
  have F_lot_of : Fun K "lot_of" "lot_of" sLot (He.ga K "lot_of") fd_lot_of := fun_of D_lot_of
  have G_lot_of : mg "lot_of" = some (.ref (He.ga K "lot_of")) := He.glo_ok X G (c.t.d.fact 7 (f := .glo "lot_of") rfl)
  have B_lot_of : Binds K fd_lot_of ["names", "some"] [] := Fun.binds F_lot_of fun _ _ _ _ _ _ us hl => match us, hl with | [_, _], _ => rfl
  obtain ⟨fd_read_parts, D_read_parts⟩ := c.t.d.def_ 8 (d := dg "read_parts" 37) rfl
  have F_read_parts : Fun K "read_parts" "read_parts" sRpa (He.ga K "read_parts") fd_read_parts := fun_of D_read_parts
  have G_read_parts : mg "read_parts" = some (.ref (He.ga K "read_parts")) := He.glo_ok X G (c.t.d.fact 8 (f := .glo "read_parts") rfl)
  have B_read_parts : Binds K fd_read_parts ["line"] [] := Fun.binds F_read_parts fun _ _ _ _ _ _ us hl => match us, hl with | [_], _ => rfl
  obtain ⟨fd_read_piece, D_read_piece⟩ := c.t.d.def_ 9 (d := dg "read_piece" 38) rfl
  have F_read_piece : Fun K "read_piece" "read_piece" sRpi (He.ga K "read_piece") fd_read_piece := fun_of D_read_piece
  have G_read_piece : mg "read_piece" = some (.ref (He.ga K "read_piece")) := He.glo_ok X G (c.t.d.fact 9 (f := .glo "read_piece") rfl)
  have B_read_piece : Binds K fd_read_piece ["parts", "word"] [] := Fun.binds F_read_piece fun _ _ _ _ _ _ us hl => match us, hl with | [_, _], _ => rfl
  obtain ⟨fd_read_keeper, D_read_keeper⟩ := c.t.d.def_ 10 (d := dg "read_keeper" 39) rfl
  have F_read_keeper : Fun K "read_keeper" "read_keeper" sRke (He.ga K "read_keeper") fd_read_keeper := fun_of D_read_keeper
  have G_read_keeper : mg "read_keeper" = some (.ref (He.ga K "read_keeper")) := He.glo_ok X G (c.t.d.fact 10 (f := .glo "read_keeper") rfl)
  have B_read_keeper : Binds K fd_read_keeper ["parts", "line"] [] := Fun.binds F_read_keeper fun _ _ _ _ _ _ us hl => match us, hl with | [_, _], _ => rfl
  obtain ⟨fd_read_lines, D_read_lines⟩ := c.t.d.def_ 11 (d := dg "read_lines" 40) rfl
  have F_read_lines : Fun K "read_lines" "read_lines" sRli (He.ga K "read_lines") fd_read_lines := fun_of D_read_lines
  have G_read_lines : mg "read_lines" = some (.ref (He.ga K "read_lines")) := He.glo_ok X G (c.t.d.fact 11 (f := .glo "read_lines") rfl)
  have B_read_lines : Binds K fd_read_lines ["text"] [] := Fun.binds F_read_lines fun _ _ _ _ _ _ us hl => match us, hl with | [_], _ => rfl
  obtain ⟨fd_all_spots, D_all_spots⟩ := c.t.d.def_ 12 (d := dg "all_spots" 41) rfl
  have F_all_spots : Fun K "all_spots" "all_spots" sAsp (He.ga K "all_spots") fd_all_spots := fun_of D_all_spots
  have G_all_spots : mg "all_spots" = some (.ref (He.ga K "all_spots")) := He.glo_ok X G (c.t.d.fact 12 (f := .glo "all_spots") rfl)
  have B_all_spots : Binds K fd_all_spots ["names", "pieces"] [] := Fun.binds F_all_spots fun _ _ _ _ _ _ us hl => match us, hl with | [_, _], _ => rfl
  obtain ⟨fd_spots_of, D_spots_of⟩ := c.t.d.def_ 13 (d := dg "spots_of" 43) rfl
  have F_spots_of : Fun K "spots_of" "spots_of" sSpo (He.ga K "spots_of") fd_spots_of := fun_of D_spots_of
  have G_spots_of : mg "spots_of" = some (.ref (He.ga K "spots_of")) := He.glo_ok X G (c.t.d.fact 13 (f := .glo "spots_of") rfl)
  have B_spots_of : Binds K fd_spots_of ["shelf", "lot"] [] := Fun.binds F_spots_of fun _ _ _ _ _ _ us hl => match us, hl with | [_, _], _ => rfl
  obtain ⟨fd_bits_at, D_bits_at⟩ := c.t.d.def_ 14 (d := dg "bits_at" 44) rfl
  have F_bits_at : Fun K "bits_at" "bits_at" sBat (He.ga K "bits_at") fd_bits_at := fun_of D_bits_at
  have G_bits_at : mg "bits_at" = some (.ref (He.ga K "bits_at")) := He.glo_ok X G (c.t.d.fact 14 (f := .glo "bits_at") rfl)
  have B_bits_at : Binds K fd_bits_at ["shelf", "spot"] [] := Fun.binds F_bits_at fun _ _ _ _ _ _ us hl => match us, hl with | [_, _], _ => rfl
  obtain ⟨fd_record_bits, D_record_bits⟩ := c.t.d.def_ 15 (d := dg "record_bits" 45) rfl
  have F_record_bits : Fun K "record_bits" "record_bits" sRbi (He.ga K "record_bits") fd_record_bits := fun_of D_record_bits
  have G_record_bits : mg "record_bits" = some (.ref (He.ga K "record_bits")) := He.glo_ok X G (c.t.d.fact 15 (f := .glo "record_bits") rfl)
  have B_record_bits : Binds K fd_record_bits ["record"] [] := Fun.binds F_record_bits fun _ _ _ _ _ _ us hl => match us, hl with | [_], _ => rfl
  obtain ⟨fd_record_of, D_record_of⟩ := c.t.d.def_ 16 (d := dg "record_of" 46) rfl
  have F_record_of : Fun K "record_of" "record_of" sRof (He.ga K "record_of") fd_record_of := fun_of D_record_of
  have G_record_of : mg "record_of" = some (.ref (He.ga K "record_of")) := He.glo_ok X G (c.t.d.fact 16 (f := .glo "record_of") rfl)
  have B_record_of : Binds K fd_record_of ["shelf", "bits"] [] := Fun.binds F_record_of fun _ _ _ _ _ _ us hl => match us, hl with | [_, _], _ => rfl
  obtain ⟨fd_records, D_records⟩ := c.t.d.def_ 17 (d := dg "records" 47) rfl
  have F_records : Fun K "records" "records" sRec (He.ga K "records") fd_records := fun_of D_records
  have G_records : mg "records" = some (.ref (He.ga K "records")) := He.glo_ok X G (c.t.d.fact 17 (f := .glo "records") rfl)
  have B_records : Binds K fd_records ["shelf"] [] := Fun.binds F_records fun _ _ _ _ _ _ us hl => match us, hl with | [_], _ => rfl
  obtain ⟨fd_value_at, D_value_at⟩ := c.t.d.def_ 18 (d := dg "value_at" 48) rfl
  have F_value_at : Fun K "value_at" "value_at" sVat (He.ga K "value_at") fd_value_at := fun_of D_value_at
  have G_value_at : mg "value_at" = some (.ref (He.ga K "value_at")) := He.glo_ok X G (c.t.d.fact 18 (f := .glo "value_at") rfl)
  have B_value_at : Binds K fd_value_at ["shelf", "spot", "record"] [] := Fun.binds F_value_at fun _ _ _ _ _ _ us hl => match us, hl with | [_, _, _], _ => rfl
  obtain ⟨fd_answer_of, D_answer_of⟩ := c.t.d.def_ 19 (d := dg "answer_of" 49) rfl
  have F_answer_of : Fun K "answer_of" "answer_of" sAns (He.ga K "answer_of") fd_answer_of := fun_of D_answer_of
  have G_answer_of : mg "answer_of" = some (.ref (He.ga K "answer_of")) := He.glo_ok X G (c.t.d.fact 19 (f := .glo "answer_of") rfl)
  have B_answer_of : Binds K fd_answer_of ["shelf", "keeper", "record"] [] := Fun.binds F_answer_of fun _ _ _ _ _ _ us hl => match us, hl with | [_, _, _], _ => rfl
  obtain ⟨fd_is_answer, D_is_answer⟩ := c.t.d.def_ 20 (d := dg "is_answer" 52) rfl
  have F_is_answer : Fun K "is_answer" "is_answer" sIan (He.ga K "is_answer") fd_is_answer := fun_of D_is_answer
  have G_is_answer : mg "is_answer" = some (.ref (He.ga K "is_answer")) := He.glo_ok X G (c.t.d.fact 20 (f := .glo "is_answer") rfl)
  have B_is_answer : Binds K fd_is_answer ["shelf", "value"] [] := Fun.binds F_is_answer fun _ _ _ _ _ _ us hl => match us, hl with | [_, _], _ => rfl
  obtain ⟨fd_are_answers, D_are_answers⟩ := c.t.d.def_ 21 (d := dg "are_answers" 53) rfl
  have F_are_answers : Fun K "are_answers" "are_answers" sAre (He.ga K "are_answers") fd_are_answers := fun_of D_are_answers
  have G_are_answers : mg "are_answers" = some (.ref (He.ga K "are_answers")) := He.glo_ok X G (c.t.d.fact 21 (f := .glo "are_answers") rfl)
  have B_are_answers : Binds K fd_are_answers ["shelf", "value"] [] := Fun.binds F_are_answers fun _ _ _ _ _ _ us hl => match us, hl with | [_, _], _ => rfl
  obtain ⟨fd_check_answers, D_check_answers⟩ := c.t.d.def_ 22 (d := dg "check_answers" 54) rfl
  have F_check_answers : Fun K "check_answers" "check_answers" sChk (He.ga K "check_answers") fd_check_answers := fun_of D_check_answers
  have G_check_answers : mg "check_answers" = some (.ref (He.ga K "check_answers")) := He.glo_ok X G (c.t.d.fact 22 (f := .glo "check_answers") rfl)
  have B_check_answers : Binds K fd_check_answers ["shelf", "value"] [] := Fun.binds F_check_answers fun _ _ _ _ _ _ us hl => match us, hl with | [_, _], _ => rfl
  obtain ⟨fd_check_bound, D_check_bound⟩ := c.t.d.def_ 23 (d := dg "check_bound" 57) rfl
  have F_check_bound : Fun K "check_bound" "check_bound" sChb (He.ga K "check_bound") fd_check_bound := fun_of D_check_bound
  have G_check_bound : mg "check_bound" = some (.ref (He.ga K "check_bound")) := He.glo_ok X G (c.t.d.fact 23 (f := .glo "check_bound") rfl)
  have B_check_bound : Binds K fd_check_bound ["value"] [] := Fun.binds F_check_bound fun _ _ _ _ _ _ us hl => match us, hl with | [_], _ => rfl
  obtain ⟨fd_liars_by, D_liars_by⟩ := c.t.d.def_ 24 (d := dg "liars_by" 58) rfl
  have F_liars_by : Fun K "liars_by" "liars_by" sLia (He.ga K "liars_by") fd_liars_by := fun_of D_liars_by
  have G_liars_by : mg "liars_by" = some (.ref (He.ga K "liars_by")) := He.glo_ok X G (c.t.d.fact 24 (f := .glo "liars_by") rfl)
  have B_liars_by : Binds K fd_liars_by ["shelf", "answers", "record"] [] := Fun.binds F_liars_by fun _ _ _ _ _ _ us hl => match us, hl with | [_, _, _], _ => rfl
  obtain ⟨fd_believed_by, D_believed_by⟩ := c.t.d.def_ 25 (d := dg "believed_by" 59) rfl
  have F_believed_by : Fun K "believed_by" "believed_by" sBby (He.ga K "believed_by") fd_believed_by := fun_of D_believed_by
  have G_believed_by : mg "believed_by" = some (.ref (He.ga K "believed_by")) := He.glo_ok X G (c.t.d.fact 25 (f := .glo "believed_by") rfl)
  have B_believed_by : Binds K fd_believed_by ["shelf", "answers", "bound"] [] := Fun.binds F_believed_by fun _ _ _ _ _ _ us hl => match us, hl with | [_, _, _], _ => rfl
  obtain ⟨fd_believed, D_believed⟩ := c.t.d.def_ 26 (d := dg "believed" 60) rfl
  have F_believed : Fun K "believed" "believed" sBel (He.ga K "believed") fd_believed := fun_of D_believed
  have G_believed : mg "believed" = some (.ref (He.ga K "believed")) := He.glo_ok X G (c.t.d.fact 26 (f := .glo "believed") rfl)
  have B_believed : Binds K fd_believed ["shelf", "answers", "bound"] [] := Fun.binds F_believed fun _ _ _ _ _ _ us hl => match us, hl with | [_, _, _], _ => rfl
  obtain ⟨fd_nearest, D_nearest⟩ := c.t.d.def_ 27 (d := dg "nearest" 61) rfl
  have F_nearest : Fun K "nearest" "nearest" sNea (He.ga K "nearest") fd_nearest := fun_of D_nearest
  have G_nearest : mg "nearest" = some (.ref (He.ga K "nearest")) := He.glo_ok X G (c.t.d.fact 27 (f := .glo "nearest") rfl)
  have B_nearest : Binds K fd_nearest ["shelf", "answers"] [] := Fun.binds F_nearest fun _ _ _ _ _ _ us hl => match us, hl with | [_, _], _ => rfl
  obtain ⟨fd_check_believed, D_check_believed⟩ := c.t.d.def_ 28 (d := dg "check_believed" 63) rfl
  have F_check_believed : Fun K "check_believed" "check_believed" sCbe (He.ga K "check_believed") fd_check_believed := fun_of D_check_believed
  have G_check_believed : mg "check_believed" = some (.ref (He.ga K "check_believed")) := He.glo_ok X G (c.t.d.fact 28 (f := .glo "check_believed") rfl)
  have B_check_believed : Binds K fd_check_believed ["shelf", "answers", "bound"] [] := Fun.binds F_check_believed fun _ _ _ _ _ _ us hl => match us, hl with | [_, _, _], _ => rfl
  obtain ⟨fd_liars, D_liars⟩ := c.t.d.def_ 29 (d := dg "liars" 64) rfl
  have F_liars : Fun K "liars" "liars" sLrs (He.ga K "liars") fd_liars := fun_of D_liars
  have G_liars : mg "liars" = some (.ref (He.ga K "liars")) := He.glo_ok X G (c.t.d.fact 29 (f := .glo "liars") rfl)
  have B_liars : Binds K fd_liars ["shelf", "answers", "bound"] [] := Fun.binds F_liars fun _ _ _ _ _ _ us hl => match us, hl with | [_, _, _], _ => rfl
  obtain ⟨fd_values_by, D_values_by⟩ := c.t.d.def_ 30 (d := dg "values_by" 65) rfl
  have F_values_by : Fun K "values_by" "values_by" sVby (He.ga K "values_by") fd_values_by := fun_of D_values_by
  have G_values_by : mg "values_by" = some (.ref (He.ga K "values_by")) := He.glo_ok X G (c.t.d.fact 30 (f := .glo "values_by") rfl)
  have B_values_by : Binds K fd_values_by ["many"] [] := Fun.binds F_values_by fun _ _ _ _ _ _ us hl => match us, hl with | [_], _ => rfl
  obtain ⟨fd_with_answer, D_with_answer⟩ := c.t.d.def_ 31 (d := dg "with_answer" 66) rfl
  have F_with_answer : Fun K "with_answer" "with_answer" sWan (He.ga K "with_answer") fd_with_answer := fun_of D_with_answer
  have G_with_answer : mg "with_answer" = some (.ref (He.ga K "with_answer")) := He.glo_ok X G (c.t.d.fact 31 (f := .glo "with_answer") rfl)
  have B_with_answer : Binds K fd_with_answer ["shelf", "answers", "keeper", "values"] [] := Fun.binds F_with_answer fun _ _ _ _ _ _ us hl => match us, hl with | [_, _, _, _], _ => rfl
  obtain ⟨fd_does_lessen, D_does_lessen⟩ := c.t.d.def_ 32 (d := dg "does_lessen" 67) rfl
  have F_does_lessen : Fun K "does_lessen" "does_lessen" sDle (He.ga K "does_lessen") fd_does_lessen := fun_of D_does_lessen
  have G_does_lessen : mg "does_lessen" = some (.ref (He.ga K "does_lessen")) := He.glo_ok X G (c.t.d.fact 32 (f := .glo "does_lessen") rfl)
  have B_does_lessen : Binds K fd_does_lessen ["shelf", "answers", "bound", "keeper"] [] := Fun.binds F_does_lessen fun _ _ _ _ _ _ us hl => match us, hl with | [_, _, _, _], _ => rfl
  obtain ⟨fd_asked_more, D_asked_more⟩ := c.t.d.def_ 33 (d := dg "asked_more" 68) rfl
  have F_asked_more : Fun K "asked_more" "asked_more" sAsk (He.ga K "asked_more") fd_asked_more := fun_of D_asked_more
  have G_asked_more : mg "asked_more" = some (.ref (He.ga K "asked_more")) := He.glo_ok X G (c.t.d.fact 33 (f := .glo "asked_more") rfl)
  have B_asked_more : Binds K fd_asked_more ["shelf", "answers", "bound"] [] := Fun.binds F_asked_more fun _ _ _ _ _ _ us hl => match us, hl with | [_, _, _], _ => rfl
  obtain ⟨fd__law_pot, D__law_pot⟩ := c.t.d.def_ 34 (d := dg "_law_pot" 70) rfl
  have F__law_pot : Fun K "_law_pot" "_law_pot" sLpo (He.ga K "_law_pot") fd__law_pot := fun_of D__law_pot
  have G__law_pot : mg "_law_pot" = some (.ref (He.ga K "_law_pot")) := He.glo_ok X G (c.t.d.fact 34 (f := .glo "_law_pot") rfl)
  have B__law_pot : Binds K fd__law_pot ["_law_script", "_law_place"] [] := Fun.binds F__law_pot fun _ _ _ _ _ _ us hl => match us, hl with | [_, _], _ => rfl
  obtain ⟨fd__law_take, D__law_take⟩ := c.t.d.def_ 35 (d := dg "_law_take" 71) rfl
  have F__law_take : Fun K "_law_take" "_law_take" sLta (He.ga K "_law_take") fd__law_take := fun_of D__law_take
  have G__law_take : mg "_law_take" = some (.ref (He.ga K "_law_take")) := He.glo_ok X G (c.t.d.fact 35 (f := .glo "_law_take") rfl)
  have B__law_take : Binds K fd__law_take ["_law_pot_here", "_law_upto"] [] := Fun.binds F__law_take fun _ _ _ _ _ _ us hl => match us, hl with | [_, _], _ => rfl
  obtain ⟨fd__law_of, D__law_of⟩ := c.t.d.def_ 36 (d := dg "_law_of" 72) rfl
  have F__law_of : Fun K "_law_of" "_law_of" sLof (He.ga K "_law_of") fd__law_of := fun_of D__law_of
  have G__law_of : mg "_law_of" = some (.ref (He.ga K "_law_of")) := He.glo_ok X G (c.t.d.fact 36 (f := .glo "_law_of") rfl)
  have B__law_of : Binds K fd__law_of ["_law_pot_here", "_law_some_here"] [] := Fun.binds F__law_of fun _ _ _ _ _ _ us hl => match us, hl with | [_, _], _ => rfl
  obtain ⟨fd__law_some, D__law_some⟩ := c.t.d.def_ 37 (d := dg "_law_some" 73) rfl
  have F__law_some : Fun K "_law_some" "_law_some" sLso (He.ga K "_law_some") fd__law_some := fun_of D__law_some
  have G__law_some : mg "_law_some" = some (.ref (He.ga K "_law_some")) := He.glo_ok X G (c.t.d.fact 37 (f := .glo "_law_some") rfl)
  have B__law_some : Binds K fd__law_some ["_law_pot_here", "_law_pool", "_law_amount"] [] := Fun.binds F__law_some fun _ _ _ _ _ _ us hl => match us, hl with | [_, _, _], _ => rfl
  obtain ⟨fd__law_cells, D__law_cells⟩ := c.t.d.def_ 38 (d := dg "_law_cells" 74) rfl
  have F__law_cells : Fun K "_law_cells" "_law_cells" sLce (He.ga K "_law_cells") fd__law_cells := fun_of D__law_cells
  have G__law_cells : mg "_law_cells" = some (.ref (He.ga K "_law_cells")) := He.glo_ok X G (c.t.d.fact 38 (f := .glo "_law_cells") rfl)
  have B__law_cells : Binds K fd__law_cells ["_law_script", "_law_limit"] [] := Fun.binds F__law_cells fun _ _ _ _ _ _ us hl => match us, hl with | [_, _], _ => rfl
  obtain ⟨fd__law_heard, D__law_heard⟩ := c.t.d.def_ 39 (d := dg "_law_heard" 75) rfl
  have F__law_heard : Fun K "_law_heard" "_law_heard" sHea (He.ga K "_law_heard") fd__law_heard := fun_of D__law_heard
  have G__law_heard : mg "_law_heard" = some (.ref (He.ga K "_law_heard")) := He.glo_ok X G (c.t.d.fact 39 (f := .glo "_law_heard") rfl)
  have B__law_heard : Binds K fd__law_heard ["_law_call"] [] := Fun.binds F__law_heard fun _ _ _ _ _ _ us hl => match us, hl with | [_], _ => rfl
  obtain ⟨fd__law_names, D__law_names⟩ := c.t.d.def_ 41 (d := dg "_law_names" 77) rfl
  have F__law_names : Fun K "_law_names" "_law_names" sLna (He.ga K "_law_names") fd__law_names := fun_of D__law_names
  have G__law_names : mg "_law_names" = some (.ref (He.ga K "_law_names")) := He.glo_ok X G (c.t.d.fact 41 (f := .glo "_law_names") rfl)
  have B__law_names : Binds K fd__law_names ["_law_pot_here", "_law_few", "_law_upmost"] [] := Fun.binds F__law_names fun _ _ _ _ _ _ us hl => match us, hl with | [_, _, _], _ => rfl
  obtain ⟨fd__law_lot_of, D__law_lot_of⟩ := c.t.d.def_ 42 (d := dg "_law_lot_of" 78) rfl
  have F__law_lot_of : Fun K "_law_lot_of" "_law_lot_of" sLlo (He.ga K "_law_lot_of") fd__law_lot_of := fun_of D__law_lot_of
  have G__law_lot_of : mg "_law_lot_of" = some (.ref (He.ga K "_law_lot_of")) := He.glo_ok X G (c.t.d.fact 42 (f := .glo "_law_lot_of") rfl)
  have B__law_lot_of : Binds K fd__law_lot_of ["_law_names_here", "_law_some_here"] [] := Fun.binds F__law_lot_of fun _ _ _ _ _ _ us hl => match us, hl with | [_, _], _ => rfl
  obtain ⟨fd__law_is_inside, D__law_is_inside⟩ := c.t.d.def_ 43 (d := dg "_law_is_inside" 79) rfl
  have F__law_is_inside : Fun K "_law_is_inside" "_law_is_inside" sLii (He.ga K "_law_is_inside") fd__law_is_inside := fun_of D__law_is_inside
  have G__law_is_inside : mg "_law_is_inside" = some (.ref (He.ga K "_law_is_inside")) := He.glo_ok X G (c.t.d.fact 43 (f := .glo "_law_is_inside") rfl)
  have B__law_is_inside : Binds K fd__law_is_inside ["_law_one", "_law_other"] [] := Fun.binds F__law_is_inside fun _ _ _ _ _ _ us hl => match us, hl with | [_, _], _ => rfl
  obtain ⟨fd__law_a_lot, D__law_a_lot⟩ := c.t.d.def_ 44 (d := dg "_law_a_lot" 80) rfl
  have F__law_a_lot : Fun K "_law_a_lot" "_law_a_lot" sLal (He.ga K "_law_a_lot") fd__law_a_lot := fun_of D__law_a_lot
  have G__law_a_lot : mg "_law_a_lot" = some (.ref (He.ga K "_law_a_lot")) := He.glo_ok X G (c.t.d.fact 44 (f := .glo "_law_a_lot") rfl)
  have B__law_a_lot : Binds K fd__law_a_lot ["_law_pot_here", "_law_names_here", "_law_few"] [] := Fun.binds F__law_a_lot fun _ _ _ _ _ _ us hl => match us, hl with | [_, _, _], _ => rfl
  obtain ⟨fd__law_parts, D__law_parts⟩ := c.t.d.def_ 45 (d := dg "_law_parts" 81) rfl
  have F__law_parts : Fun K "_law_parts" "_law_parts" sLpt (He.ga K "_law_parts") fd__law_parts := fun_of D__law_parts
  have G__law_parts : mg "_law_parts" = some (.ref (He.ga K "_law_parts")) := He.glo_ok X G (c.t.d.fact 45 (f := .glo "_law_parts") rfl)
  have B__law_parts : Binds K fd__law_parts ["_law_pot_here", "_law_upmost"] [] := Fun.binds F__law_parts fun _ _ _ _ _ _ us hl => match us, hl with | [_, _], _ => rfl
  obtain ⟨fd__law_piece, D__law_piece⟩ := c.t.d.def_ 46 (d := dg "_law_piece" 82) rfl
  have F__law_piece : Fun K "_law_piece" "_law_piece" sLpi (He.ga K "_law_piece") fd__law_piece := fun_of D__law_piece
  have G__law_piece : mg "_law_piece" = some (.ref (He.ga K "_law_piece")) := He.glo_ok X G (c.t.d.fact 46 (f := .glo "_law_piece") rfl)
  have B__law_piece : Binds K fd__law_piece ["_law_pot_here", "_law_parts_here"] [] := Fun.binds F__law_piece fun _ _ _ _ _ _ us hl => match us, hl with | [_, _], _ => rfl
  obtain ⟨fd__law_shelf, D__law_shelf⟩ := c.t.d.def_ 47 (d := dg "_law_shelf" 83) rfl
  have F__law_shelf : Fun K "_law_shelf" "_law_shelf" sLsh (He.ga K "_law_shelf") fd__law_shelf := fun_of D__law_shelf
  have G__law_shelf : mg "_law_shelf" = some (.ref (He.ga K "_law_shelf")) := He.glo_ok X G (c.t.d.fact 47 (f := .glo "_law_shelf") rfl)
  have B__law_shelf : Binds K fd__law_shelf ["_law_pot_here", "_law_few", "_law_upmost", "_law_most_parts"] [] := Fun.binds F__law_shelf fun _ _ _ _ _ _ us hl => match us, hl with | [_, _, _, _], _ => rfl
  obtain ⟨fd__law_shelf_text, D__law_shelf_text⟩ := c.t.d.def_ 48 (d := dg "_law_shelf_text" 84) rfl
  have F__law_shelf_text : Fun K "_law_shelf_text" "_law_shelf_text" sLst (He.ga K "_law_shelf_text") fd__law_shelf_text := fun_of D__law_shelf_text
  have G__law_shelf_text : mg "_law_shelf_text" = some (.ref (He.ga K "_law_shelf_text")) := He.glo_ok X G (c.t.d.fact 48 (f := .glo "_law_shelf_text") rfl)
  have B__law_shelf_text : Binds K fd__law_shelf_text ["_law_lore"] [] := Fun.binds F__law_shelf_text fun _ _ _ _ _ _ us hl => match us, hl with | [_], _ => rfl
  obtain ⟨fd__law_records, D__law_records⟩ := c.t.d.def_ 49 (d := dg "_law_records" 85) rfl
  have F__law_records : Fun K "_law_records" "_law_records" sLre (He.ga K "_law_records") fd__law_records := fun_of D__law_records
  have G__law_records : mg "_law_records" = some (.ref (He.ga K "_law_records")) := He.glo_ok X G (c.t.d.fact 49 (f := .glo "_law_records") rfl)
  have B__law_records : Binds K fd__law_records ["_law_lore"] [] := Fun.binds F__law_records fun _ _ _ _ _ _ us hl => match us, hl with | [_], _ => rfl
  obtain ⟨fd__law_piece_value, D__law_piece_value⟩ := c.t.d.def_ 50 (d := dg "_law_piece_value" 86) rfl
  have F__law_piece_value : Fun K "_law_piece_value" "_law_piece_value" sLpv (He.ga K "_law_piece_value") fd__law_piece_value := fun_of D__law_piece_value
  have G__law_piece_value : mg "_law_piece_value" = some (.ref (He.ga K "_law_piece_value")) := He.glo_ok X G (c.t.d.fact 50 (f := .glo "_law_piece_value") rfl)
  have B__law_piece_value : Binds K fd__law_piece_value ["_law_lore", "_law_piece_here", "_law_record"] [] := Fun.binds F__law_piece_value fun _ _ _ _ _ _ us hl => match us, hl with | [_, _, _], _ => rfl
  obtain ⟨fd__law_answer, D__law_answer⟩ := c.t.d.def_ 51 (d := dg "_law_answer" 87) rfl
  have F__law_answer : Fun K "_law_answer" "_law_answer" sLan (He.ga K "_law_answer") fd__law_answer := fun_of D__law_answer
  have G__law_answer : mg "_law_answer" = some (.ref (He.ga K "_law_answer")) := He.glo_ok X G (c.t.d.fact 51 (f := .glo "_law_answer") rfl)
  have B__law_answer : Binds K fd__law_answer ["_law_lore", "_law_name", "_law_record"] [] := Fun.binds F__law_answer fun _ _ _ _ _ _ us hl => match us, hl with | [_, _, _], _ => rfl
  obtain ⟨fd__law_with, D__law_with⟩ := c.t.d.def_ 52 (d := dg "_law_with" 88) rfl
  have F__law_with : Fun K "_law_with" "_law_with" sLwi (He.ga K "_law_with") fd__law_with := fun_of D__law_with
  have G__law_with : mg "_law_with" = some (.ref (He.ga K "_law_with")) := He.glo_ok X G (c.t.d.fact 52 (f := .glo "_law_with") rfl)
  have B__law_with : Binds K fd__law_with ["_law_lore", "_law_key", "_law_value"] [] := Fun.binds F__law_with fun _ _ _ _ _ _ us hl => match us, hl with | [_, _, _], _ => rfl
  obtain ⟨fd__law_lied, D__law_lied⟩ := c.t.d.def_ 53 (d := dg "_law_lied" 89) rfl
  have F__law_lied : Fun K "_law_lied" "_law_lied" sLli (He.ga K "_law_lied") fd__law_lied := fun_of D__law_lied
  have G__law_lied : mg "_law_lied" = some (.ref (He.ga K "_law_lied")) := He.glo_ok X G (c.t.d.fact 53 (f := .glo "_law_lied") rfl)
  have B__law_lied : Binds K fd__law_lied ["_law_pot_here", "_law_lore", "_law_lot", "_law_record"] [] := Fun.binds F__law_lied fun _ _ _ _ _ _ us hl => match us, hl with | [_, _, _, _], _ => rfl
  obtain ⟨fd__law_believed, D__law_believed⟩ := c.t.d.def_ 54 (d := dg "_law_believed" 90) rfl
  have F__law_believed : Fun K "_law_believed" "_law_believed" sLbe (He.ga K "_law_believed") fd__law_believed := fun_of D__law_believed
  have G__law_believed : mg "_law_believed" = some (.ref (He.ga K "_law_believed")) := He.glo_ok X G (c.t.d.fact 54 (f := .glo "_law_believed") rfl)
  have B__law_believed : Binds K fd__law_believed ["_law_lore", "_law_answers", "_law_bound"] [] := Fun.binds F__law_believed fun _ _ _ _ _ _ us hl => match us, hl with | [_, _, _], _ => rfl
  obtain ⟨fd__law_thick_shelf, D__law_thick_shelf⟩ := c.t.d.def_ 55 (d := dg "_law_thick_shelf" 91) rfl
  have F__law_thick_shelf : Fun K "_law_thick_shelf" "_law_thick_shelf" sLth (He.ga K "_law_thick_shelf") fd__law_thick_shelf := fun_of D__law_thick_shelf
  have G__law_thick_shelf : mg "_law_thick_shelf" = some (.ref (He.ga K "_law_thick_shelf")) := He.glo_ok X G (c.t.d.fact 55 (f := .glo "_law_thick_shelf") rfl)
  have B__law_thick_shelf : Binds K fd__law_thick_shelf ["_law_pot_here", "_law_few", "_law_upmost", "_law_most_parts"] [] := Fun.binds F__law_thick_shelf fun _ _ _ _ _ _ us hl => match us, hl with | [_, _, _, _], _ => rfl
  obtain ⟨fd__law_who_lied, D__law_who_lied⟩ := c.t.d.def_ 56 (d := dg "_law_who_lied" 92) rfl
  have F__law_who_lied : Fun K "_law_who_lied" "_law_who_lied" sLwl (He.ga K "_law_who_lied") fd__law_who_lied := fun_of D__law_who_lied
  have G__law_who_lied : mg "_law_who_lied" = some (.ref (He.ga K "_law_who_lied")) := He.glo_ok X G (c.t.d.fact 56 (f := .glo "_law_who_lied") rfl)
  have B__law_who_lied : Binds K fd__law_who_lied ["_law_lore", "_law_answers", "_law_all_records"] [] := Fun.binds F__law_who_lied fun _ _ _ _ _ _ us hl => match us, hl with | [_, _, _], _ => rfl
  obtain ⟨fd__law_does_lessen, D__law_does_lessen⟩ := c.t.d.def_ 57 (d := dg "_law_does_lessen" 93) rfl
  have F__law_does_lessen : Fun K "_law_does_lessen" "_law_does_lessen" sLdl (He.ga K "_law_does_lessen") fd__law_does_lessen := fun_of D__law_does_lessen
  have G__law_does_lessen : mg "_law_does_lessen" = some (.ref (He.ga K "_law_does_lessen")) := He.glo_ok X G (c.t.d.fact 57 (f := .glo "_law_does_lessen") rfl)
  have B__law_does_lessen : Binds K fd__law_does_lessen ["_law_lore", "_law_answers", "_law_bound", "_law_name"] [] := Fun.binds F__law_does_lessen fun _ _ _ _ _ _ us hl => match us, hl with | [_, _, _, _], _ => rfl
  obtain ⟨fd__law_is_answered_right, D__law_is_answered_right⟩ := c.t.d.def_ 58 (d := dg "_law_is_answered_right" 94) rfl
  have F__law_is_answered_right : Fun K "_law_is_answered_right" "_law_is_answered_right" sAr (He.ga K "_law_is_answered_right") fd__law_is_answered_right := fun_of D__law_is_answered_right
  have G__law_is_answered_right : mg "_law_is_answered_right" = some (.ref (He.ga K "_law_is_answered_right")) := He.glo_ok X G (c.t.d.fact 58 (f := .glo "_law_is_answered_right") rfl)
  have B__law_is_answered_right : Binds K fd__law_is_answered_right ["_law_lore", "_law_shelf_here", "_law_answers", "_law_bound"] [] := Fun.binds F__law_is_answered_right fun _ _ _ _ _ _ us hl => match us, hl with | [_, _, _, _], _ => rfl
  obtain ⟨fd__law_right, D__law_right⟩ := c.t.d.def_ 59 (d := dg "_law_right" 95) rfl
  have F__law_right : Fun K "_law_right" "_law_right" sLri (He.ga K "_law_right") fd__law_right := fun_of D__law_right
  have G__law_right : mg "_law_right" = some (.ref (He.ga K "_law_right")) := He.glo_ok X G (c.t.d.fact 59 (f := .glo "_law_right") rfl)
  have B__law_right : Binds K fd__law_right ["_law_pot_here"] [] := Fun.binds F__law_right fun _ _ _ _ _ _ us hl => match us, hl with | [_], _ => rfl
  obtain ⟨fd_law, D_law⟩ := c.t.d.def_ 60 (d := dg "law" 96) rfl
  have F_law : Fun K "law" "law" sLaw (He.ga K "law") fd_law := fun_of D_law
  have G_law : mg "law" = some (.ref (He.ga K "law")) := He.glo_ok X G (c.t.d.fact 60 (f := .glo "law") rfl)
  have B_law : Binds K fd_law ["_law_script"] [] := Fun.binds F_law fun _ _ _ _ _ _ us hl => match us, hl with | [_], _ => rfl
  obtain ⟨fd_is_integer, D_is_integer⟩ := c.t.d.def_ 2 (d := { dg "is_integer" 17 with dfl := [.non, .non] }) rfl
  have F_is_integer : FI K (He.ga K "is_integer") fd_is_integer := D_is_integer
  have G_is_integer : mg "is_integer" = some (.ref (He.ga K "is_integer")) := He.glo_ok X G (c.t.d.fact 2 (f := .glo "is_integer") rfl)
  obtain ⟨fd_is_tuple, D_is_tuple⟩ := c.t.d.def_ 3 (d := { dg "is_tuple" 18 with dfl := [.int 0, .non] }) rfl
  have F_is_tuple : FT K (He.ga K "is_tuple") fd_is_tuple := D_is_tuple
  have G_is_tuple : mg "is_tuple" = some (.ref (He.ga K "is_tuple")) := He.glo_ok X G (c.t.d.fact 3 (f := .glo "is_tuple") rfl)
  obtain ⟨fd__law_is_int, D__law_is_int⟩ := c.t.d.def_ 40 (d := { dg "_law_is_int" 76 with dfl := [.non] }) rfl
  have F__law_is_int : FLI K (He.ga K "_law_is_int") fd__law_is_int := D__law_is_int
  have G__law_is_int : mg "_law_is_int" = some (.ref (He.ga K "_law_is_int")) := He.glo_ok X G (c.t.d.fact 40 (f := .glo "_law_is_int") rfl)
  have hex := c.more
  obtain ⟨x1, hex⟩ := Bool.and_eq_true_iff.mp hex
  obtain ⟨x2, hex⟩ := Bool.and_eq_true_iff.mp hex
  obtain ⟨x3, hex⟩ := Bool.and_eq_true_iff.mp hex
  obtain ⟨x4, hex⟩ := Bool.and_eq_true_iff.mp hex
  obtain ⟨x5, hex⟩ := Bool.and_eq_true_iff.mp hex
  obtain ⟨x6, hex⟩ := Bool.and_eq_true_iff.mp hex
  obtain ⟨x7, hex⟩ := Bool.and_eq_true_iff.mp hex
  obtain ⟨x8, hex⟩ := Bool.and_eq_true_iff.mp hex
  obtain ⟨x9, hex⟩ := Bool.and_eq_true_iff.mp hex
  obtain ⟨x10, hex⟩ := Bool.and_eq_true_iff.mp hex
  obtain ⟨x11, hex⟩ := Bool.and_eq_true_iff.mp hex
  obtain ⟨x12, hex⟩ := Bool.and_eq_true_iff.mp hex
  obtain ⟨x13, hex⟩ := Bool.and_eq_true_iff.mp hex
  obtain ⟨x14, hex⟩ := Bool.and_eq_true_iff.mp hex
  obtain ⟨x15, hex⟩ := Bool.and_eq_true_iff.mp hex
  obtain ⟨x16, hex⟩ := Bool.and_eq_true_iff.mp hex
  obtain ⟨x17, hex⟩ := Bool.and_eq_true_iff.mp hex
  obtain ⟨x18, hex⟩ := Bool.and_eq_true_iff.mp hex
  obtain ⟨x19, x20⟩ := Bool.and_eq_true_iff.mp hex
  have G_U : mg "Unbelieved" = some (.ref (He.ga K "Unbelieved")) := He.glo_ok X G (c.t.d.fact 64 (f := .glo "Unbelieved") rfl)
  have G_L : mg "LotError" = some (.ref (He.ga K "LotError")) := He.glo_ok X G (c.t.d.fact 63 (f := .glo "LotError") rfl)
  have G_Shelf : mg "Shelf" = some (.ref (He.ga K "Shelf")) := He.glo_ok X G (c.t.d.fact 61 (f := .glo "Shelf") rfl)
  have G_Circle : mg "Circle" = some (.ref (He.ga K "Circle")) := He.glo_ok X G (c.t.d.fact 62 (f := .glo "Circle") rfl)
  have cls_S := He.cls_ok (x := "Shelf") (c.t.d.fact 103 (f := .cls "Shelf") rfl)
  have cls_C := He.cls_ok (x := "Circle") (c.t.d.fact 104 (f := .cls "Circle") rfl)
  have n0 := He.noat_ok (x := "Shelf") (f := "own_text") (c.t.d.fact 105 (f := .noat "Shelf" "own_text") rfl)
  have n1 := He.noat_ok (x := "Shelf") (f := "own_parts") (c.t.d.fact 106 (f := .noat "Shelf" "own_parts") rfl)
  have n2 := He.noat_ok (x := "Shelf") (f := "own_circle") (c.t.d.fact 107 (f := .noat "Shelf" "own_circle") rfl)
  have n3 := He.noat_ok (x := "Shelf") (f := "own_pieces") (c.t.d.fact 108 (f := .noat "Shelf" "own_pieces") rfl)
  have n4 := He.noat_ok (x := "Shelf") (f := "own_spots") (c.t.d.fact 109 (f := .noat "Shelf" "own_spots") rfl)
  have n5 := He.noat_ok (x := "Circle") (f := "own_names") (c.t.d.fact 110 (f := .noat "Circle" "own_names") rfl)
  have mk_S := He.mkr_ok (x := "Shelf") (c.t.d.fact 111 (f := .mkr "Shelf") rfl)
  have mk_C := He.mkr_ok (x := "Circle") (c.t.d.fact 112 (f := .mkr "Circle") rfl)
  have oexU : OexC K (He.ga K "Unbelieved") := ⟨oex_of x5, He.eqO_ok x7, of_decide_eq_true x8, of_decide_eq_true x9, x10⟩
  obtain ⟨fdI, SU, bI⟩ := sup_of (mg := mg) c x6 (of_decide_eq_true x12) x16 (of_decide_eq_true x17) (He.eqO_ok x18) (of_decide_eq_true x19) (He.eqO_ok x20) (He.eqO_ok x14) T.super oexU
  obtain ⟨fd_Ci, D_Ci⟩ := c.t.d.def_ 61 (d := dm "Circle" 26 0) rfl
  have F_Ci : Fun K "__init__" "Circle.__init__" sCir (He.ma K (He.ga K "Circle") "__init__") fd_Ci := fun_of D_Ci
  obtain ⟨fd_Sh, D_Sh⟩ := c.t.d.def_ 62 (d := dm "Shelf" 42 0) rfl
  have F_Sh : Fun K "__init__" "Shelf.__init__" sShe (He.ma K (He.ga K "Shelf") "__init__") fd_Sh := fun_of D_Sh
  have B_Ci : Binds K fd_Ci ["self", "names"] [] := Fun.binds F_Ci fun _ _ _ _ _ _ us hl => match us, hl with | [_, _], _ => rfl
  have B_Sh : Binds K fd_Sh ["self", "text"] [] := Fun.binds F_Sh fun _ _ _ _ _ _ us hl => match us, hl with | [_, _], _ => rfl
  have bi3 : ∃ ds, Vals (([.non, .non] : List V).drop 2) ds ∧ Binds K fd_is_integer ["value", "low", "high"] ds := FunD.binds1 F_is_integer 3 2 (by simp) rfl fun T kV doc pm an cdv ct us its hu hi => match us, its, hu, hi with | [_, _, _], [_, _], _, _ => ⟨_, rfl, rfl⟩
  have bt3 : ∃ ds, Vals (([.int 0, .non] : List V).drop 2) ds ∧ Binds K fd_is_tuple ["value", "least", "most"] ds := FunD.binds1 F_is_tuple 3 2 (by simp) rfl fun T kV doc pm an cdv ct us its hu hi => match us, its, hu, hi with | [_, _, _], [_, _], _, _ => ⟨_, rfl, rfl⟩
  have bt1 : ∃ ds, Vals (([.int 0, .non] : List V).drop 0) ds ∧ Binds K fd_is_tuple ["value", "least", "most"] ds := FunD.binds1 F_is_tuple 1 0 (by simp) rfl fun T kV doc pm an cdv ct us its hu hi => match us, its, hu, hi with | [_], [_, _], _, _ => ⟨_, rfl, rfl⟩
  have bl3 : ∃ ds, Vals (([.non] : List V).drop 1) ds ∧ Binds K fd__law_is_int ["_law_value", "_law_low", "_law_high"] ds := FunD.binds1 F__law_is_int 3 1 (by simp) rfl fun T kV doc pm an cdv ct us its hu hi => match us, its, hu, hi with | [_, _, _], [_], _, _ => ⟨_, rfl, rfl⟩
  obtain ⟨cAr, F_ArC⟩ := LK.Fun.c F__law_is_answered_right
  obtain ⟨cA, rfl⟩ : ∃ cA, cAr = .ref cA := by
    obtain ⟨_, _, _, _, _, _, _, _, _, _, q⟩ := F_ArC.ex
    exact He.codeIn_ref q
  have eA : He.codeOf K ("_law_is_answered_right", none) = cA := by
    obtain ⟨oc, od, kV, doc, pm, an, ct, osl, e, lk, _⟩ := F_ArC.ex
    exact He.codeOf_eq lk (by rw [e])
  obtain ⟨Pt, ePt⟩ : ∃ Pt, (He.cT K ("_law_is_answered_right", none)).2 = Pt := ⟨_, rfl⟩
  have hHd := c.hd ("_law_is_answered_right", none) List.mem_cons_self
  have hOut := c.out ("_law_is_answered_right", none) List.mem_cons_self
  have hEm := c.empty ("_law_is_answered_right", none) List.mem_cons_self
  have e1 : (He.cT K ("_law_is_answered_right", none)).1 = cA := eA
  rw [e1, ePt] at hHd
  rw [ePt] at hOut hEm
  obtain ⟨cRi, F_RiC⟩ := LK.Fun.c F__law_right
  obtain ⟨cLa, F_LaC⟩ := LK.Fun.c F_law
  obtain rfl : fa = He.ga K "law" := by
    have := hfa.symm.trans G_law
    cases this
    rfl
  refine ⟨cA, Pt, fd_law, hHd, hOut, hEm, fun s v => FunD.bindsA (ps := ["_law_script"]) D_law (fun _ _ _ _ _ _ us hl => match us, hl with | [_], _ => rfl) s [v] rfl, fun base TB => ?_⟩
  have c_parity : Cal LP w K mg base 1 "parity" spPar := cal_mk F_parity (ok_parity  F_parity ) G_parity B_parity
  have c_bits_of : Cal LP w K mg base 1 "bits_of" spBof := cal_mk F_bits_of (ok_bits_of T F_bits_of ) G_bits_of B_bits_of
  have c_is_word : Cal LP w K mg base 1 "is_word" spWord := cal_mk F_is_word (ok_is_word T F_is_word ) G_is_word B_is_word
  have c_is_name : Cal LP w K mg base 1 "is_name" spName := cal_mk F_is_name (ok_is_name T F_is_name ) G_is_name B_is_name
  have c_are_unlike : Cal LP w K mg base 1 "are_unlike" spUnl := cal_mk F_are_unlike (ok_are_unlike T F_are_unlike ) G_are_unlike B_are_unlike
  have c_read_parts : Cal LP w K mg base 2 "read_parts" spRpa := cal_mk F_read_parts (ok_read_parts T F_read_parts c_are_unlike c_is_name) G_read_parts B_read_parts
  have c_read_piece : Cal LP w K mg base 1 "read_piece" spRpi := cal_mk F_read_piece (ok_read_piece T F_read_piece ) G_read_piece B_read_piece
  have c_read_keeper : Cal LP w K mg base 2 "read_keeper" spRke := cal_mk F_read_keeper (ok_read_keeper T F_read_keeper c_is_name c_read_piece) G_read_keeper B_read_keeper
  have c_read_lines : Cal LP w K mg base 3 "read_lines" spRli := cal_mk F_read_lines (ok_read_lines T F_read_lines c_read_parts c_read_keeper) G_read_lines B_read_lines
  have c_all_spots : Cal LP w K mg base 1 "all_spots" spAsp := cal_mk F_all_spots (ok_all_spots T F_all_spots ) G_all_spots B_all_spots
  have c_is_integer : Cal LP w K mg base 1 "is_integer" spInt := by
    obtain ⟨ds, hv, hb⟩ := bi3
    cases hv
    exact ⟨_, _, _, [], [], spInt, ok_is_integer T F_is_integer, G_is_integer, F_is_integer.kp, hb, .nil, fun vs H Q E h => by rw [List.append_nil]; exact h⟩
  have c_is_tuple3 : Cal LP w K mg base 1 "is_tuple" spTup3 := by
    obtain ⟨ds, hv, hb⟩ := bt3
    cases hv
    exact ⟨_, _, _, [], [], spTup3, ok_is_tuple T F_is_tuple, G_is_tuple, F_is_tuple.kp, hb, .nil, fun vs H Q E h => by rw [List.append_nil]; exact h⟩
  have c_is_tuple1 : Cal LP w K mg base 1 "is_tuple" (SpF (aCons rAnyT aNil) (fun i => i.1 ≤ 1000) rBool fun _ => true) := by
    obtain ⟨ds, hv, hb⟩ := bt1
    refine ⟨_, _, _, ds, _, spTup3, ok_is_tuple T F_is_tuple, G_is_tuple, F_is_tuple.kp, hb, hv, fun vs H Q E h => ?_⟩
    obtain ⟨⟨n, _⟩, ⟨v, _, rfl, h1, rfl⟩, hp, q⟩ := h
    refine ⟨(n, (0 : Int), V.non, ()), ⟨v, _, rfl, h1, .int 0, _, rfl, rfl, .non, _, rfl, rfl, rfl⟩, ⟨hp, .inl rfl⟩, fun v H' s' rv => q v H' s' ?_⟩
    have e : tupOk n 0 .non = true := by simp [tupOk, mostOk]
    have rv : rBool.rel H' v (tupOk n 0 .non) := rv
    rw [e] at rv
    exact rv
  have c__law_is_int : Cal LP w K mg base 1 "_law_is_int" spLin := by
    obtain ⟨ds, hv, hb⟩ := bl3
    cases hv
    exact ⟨_, _, _, [], [], spLin, ok_law_is_int T F__law_is_int, G__law_is_int, F__law_is_int.kp, hb, .nil, fun vs H Q E h => by rw [List.append_nil]; exact h⟩
  have c_lot_ofL : Cal LP w K mg base 1 "lot_of" spLotL := cal_mk F_lot_of (ok_lot_ofL T F_lot_of) G_lot_of B_lot_of
  have c_lot_ofD : Cal LP w K mg base 1 "lot_of" spLotD := cal_mk F_lot_of (ok_lot_ofD T F_lot_of) G_lot_of B_lot_of
  have S : ShTxt LP w K mg base (He.ga K "Shelf") (He.ga K "Circle") := ⟨cls_S, cls_C, n0, n1, n2, n3, n4, n5,
    pro_of x1 (c.y 0 rfl) rfl rfl (N := ["self"]) ⟨rfl, rfl, rfl, by decide +kernel, rfl, by decide +kernel, by decide +kernel⟩ rfl rfl cls_S n1 (fun _ _ _ _ _ _ us hl => match us, hl with | [_], _ => rfl),
    pro_of x2 (c.y 1 rfl) rfl rfl (N := ["self"]) ⟨rfl, rfl, rfl, by decide +kernel, rfl, by decide +kernel, by decide +kernel⟩ rfl rfl cls_S n2 (fun _ _ _ _ _ _ us hl => match us, hl with | [_], _ => rfl),
    pro_of x3 (c.y 2 rfl) rfl rfl (N := ["self"]) ⟨rfl, rfl, rfl, by decide +kernel, rfl, by decide +kernel, by decide +kernel⟩ rfl rfl cls_S n3 (fun _ _ _ _ _ _ us hl => match us, hl with | [_], _ => rfl),
    pro_of x4 (c.y 3 rfl) rfl rfl (N := ["self"]) ⟨rfl, rfl, rfl, by decide +kernel, rfl, by decide +kernel, by decide +kernel⟩ rfl rfl cls_C n5 (fun _ _ _ _ _ _ us hl => match us, hl with | [_], _ => rfl)⟩
  have m_Ci : Mkl LP w K mg base 2 "Circle" (He.ga K "Circle") (spCir (He.ga K "Circle")) := ⟨_, _, _, mk_C, ok_Circle T cls_C n5 F_Ci c_is_tuple3 c_is_name c_are_unlike, G_Circle, B_Ci⟩
  have m_Sh : Mkl LP w K mg base 4 "Shelf" (He.ga K "Shelf") (spShe (He.ga K "Shelf") (He.ga K "Circle")) := ⟨_, _, _, mk_S, ok_Shelf T S F_Sh c_read_lines m_Ci c_all_spots, G_Shelf, B_Sh⟩
  have c_spots_of : Cal LP w K mg base 1 "spots_of" (spSpo (He.ga K "Shelf") (He.ga K "Circle")) := cal_mk F_spots_of (ok_spots_of T S F_spots_of ) G_spots_of B_spots_of
  have c_bits_at : Cal LP w K mg base 3 "bits_at" (spBat (He.ga K "Shelf") (He.ga K "Circle")) := cal_mk F_bits_at (ok_bits_at S F_bits_at c_bits_of) G_bits_at B_bits_at
  have c_record_bits : Cal LP w K mg base 1 "record_bits" spRbi := cal_mk F_record_bits (ok_record_bits T F_record_bits ) G_record_bits B_record_bits
  have c_record_of : Cal LP w K mg base 3 "record_of" (spRof (He.ga K "Shelf") (He.ga K "Circle")) := cal_mk F_record_of (ok_record_of T S F_record_of ) G_record_of B_record_of
  have c_records : Cal LP w K mg base 4 "records" (spRec (He.ga K "Shelf") (He.ga K "Circle")) := cal_mk F_records (ok_records T S F_records c_record_of) G_records B_records
  have c_value_at : Cal LP w K mg base 4 "value_at" (spVat (He.ga K "Shelf") (He.ga K "Circle")) := cal_mk F_value_at (ok_value_at  F_value_at c_parity c_bits_at c_record_bits) G_value_at B_value_at
  have c_answer_of : Cal LP w K mg base 5 "answer_of" (spAns (He.ga K "Shelf") (He.ga K "Circle")) := cal_mk F_answer_of (ok_answer_of T F_answer_of c_value_at c_spots_of) G_answer_of B_answer_of
  have c_is_answer : Cal LP w K mg base 3 "is_answer" (spIan (He.ga K "Shelf") (He.ga K "Circle")) := cal_mk F_is_answer (ok_is_answer T S F_is_answer c_is_tuple3 c_is_word c_spots_of) G_is_answer B_is_answer
  have c_are_answers : Cal LP w K mg base 4 "are_answers" (spAre (He.ga K "Shelf") (He.ga K "Circle")) := cal_mk F_are_answers (ok_are_answers T S F_are_answers c_is_tuple1 c_is_answer) G_are_answers B_are_answers
  have c_check_answers : Cal LP w K mg base 5 "check_answers" (spChk (He.ga K "Shelf") (He.ga K "Circle")) := cal_mk F_check_answers (ok_check_answers  F_check_answers c_are_answers) G_check_answers B_check_answers
  have c_check_bound : Cal LP w K mg base 2 "check_bound" spChb := cal_mk F_check_bound (ok_check_bound T F_check_bound c_is_integer) G_check_bound B_check_bound
  have c_liars_by : Cal LP w K mg base 6 "liars_by" (spLia (He.ga K "Shelf") (He.ga K "Circle")) := cal_mk F_liars_by (ok_liars_by S F_liars_by c_answer_of c_lot_ofL) G_liars_by B_liars_by
  have c_believed_by : Cal LP w K mg base 7 "believed_by" (spBby (He.ga K "Shelf") (He.ga K "Circle")) := cal_mk F_believed_by (ok_believed_by T F_believed_by c_records c_liars_by) G_believed_by B_believed_by
  have c_believed : Cal LP w K mg base 8 "believed" (spBel (He.ga K "Shelf") (He.ga K "Circle")) := cal_mk F_believed (ok_believed T F_believed c_check_answers c_check_bound c_believed_by) G_believed B_believed
  have c_nearest : Cal LP w K mg base 7 "nearest" (spNea (He.ga K "Shelf") (He.ga K "Circle")) := cal_mk F_nearest (ok_nearest T F_nearest c_check_answers c_records c_liars_by) G_nearest B_nearest
  have c_values_by : Cal LP w K mg base 1 "values_by" spVby := cal_mk F_values_by (ok_values_by T F_values_by ) G_values_by B_values_by
  have c_with_answer : Cal LP w K mg base 3 "with_answer" (spWan (He.ga K "Shelf") (He.ga K "Circle")) := cal_mk F_with_answer (ok_with_answer T S F_with_answer c_lot_ofD) G_with_answer B_with_answer
  have c_does_lessen : Cal LP w K mg base 8 "does_lessen" (spDle (He.ga K "Shelf") (He.ga K "Circle")) := cal_mk F_does_lessen (ok_does_lessen T F_does_lessen c_believed_by c_values_by c_spots_of c_with_answer) G_does_lessen B_does_lessen
  have c__law_pot : Cal LP w K mg base 1 "_law_pot" (spLpo K) := cal_mk F__law_pot (ok_law_pot T F__law_pot ) G__law_pot B__law_pot
  have c__law_take : Cal LP w K mg base 1 "_law_take" spLta := cal_mk F__law_take (ok_law_take T F__law_take ) G__law_take B__law_take
  have c__law_ofS : Cal LP w K mg base 2 "_law_of" (spLof rStr) := cal_mk F__law_of (ok_law_of T F__law_of c__law_take) G__law_of B__law_of
  have c__law_ofI : Cal LP w K mg base 2 "_law_of" (spLof rInt) := cal_mk F__law_of (ok_law_of T F__law_of c__law_take) G__law_of B__law_of
  have c__law_some : Cal LP w K mg base 2 "_law_some" spLso := cal_mk F__law_some (ok_law_some T F__law_some c__law_take) G__law_some B__law_some
  have c__law_cells : Cal LP w K mg base 1 "_law_cells" (spLce K) := cal_mk F__law_cells (ok_law_cells T F__law_cells ) G__law_cells B__law_cells
  have c__law_names : Cal LP w K mg base 3 "_law_names" spLna := cal_mk F__law_names (ok_law_names T F__law_names c__law_take c__law_some) G__law_names B__law_names
  have c__law_lot_of : Cal LP w K mg base 1 "_law_lot_of" spLlo := cal_mk F__law_lot_of (ok_law_lot_of T F__law_lot_of ) G__law_lot_of B__law_lot_of
  have c__law_is_inside : Cal LP w K mg base 1 "_law_is_inside" spLii := cal_mk F__law_is_inside (ok_law_is_inside T F__law_is_inside ) G__law_is_inside B__law_is_inside
  have c__law_a_lot : Cal LP w K mg base 3 "_law_a_lot" spLal := cal_mk F__law_a_lot (ok_law_a_lot T F__law_a_lot c__law_take c__law_some c__law_lot_of) G__law_a_lot B__law_a_lot
  have c__law_parts : Cal LP w K mg base 3 "_law_parts" spLpt := cal_mk F__law_parts (ok_law_parts T F__law_parts c__law_take c__law_some) G__law_parts B__law_parts
  have c__law_piece : Cal LP w K mg base 3 "_law_piece" spLpi := cal_mk F__law_piece (ok_law_piece T F__law_piece c__law_take c__law_some c__law_lot_of) G__law_piece B__law_piece
  have c__law_shelf : Cal LP w K mg base 4 "_law_shelf" spLsh := cal_mk F__law_shelf (ok_law_shelf T F__law_shelf c__law_take c__law_parts c__law_names c__law_piece) G__law_shelf B__law_shelf
  have c__law_shelf_text : Cal LP w K mg base 1 "_law_shelf_text" spLst := cal_mk F__law_shelf_text (ok_law_shelf_text T F__law_shelf_text ) G__law_shelf_text B__law_shelf_text
  have c__law_records : Cal LP w K mg base 1 "_law_records" spLre := cal_mk F__law_records (ok_law_records T F__law_records ) G__law_records B__law_records
  have c__law_piece_value : Cal LP w K mg base 1 "_law_piece_value" spLpv := cal_mk F__law_piece_value (ok_law_piece_value T F__law_piece_value ) G__law_piece_value B__law_piece_value
  have c__law_answer : Cal LP w K mg base 2 "_law_answer" spLan := cal_mk F__law_answer (ok_law_answer T F__law_answer c__law_piece_value) G__law_answer B__law_answer
  have c__law_with : Cal LP w K mg base 1 "_law_with" spLwi := cal_mk F__law_with (ok_law_with T F__law_with ) G__law_with B__law_with
  have c__law_lied : Cal LP w K mg base 3 "_law_lied" spLli := cal_mk F__law_lied (ok_law_lied T F__law_lied c__law_take c__law_ofS c__law_answer) G__law_lied B__law_lied
  have c__law_believed : Cal LP w K mg base 3 "_law_believed" spLbe := cal_mk F__law_believed (ok_law_believed T F__law_believed c__law_records c__law_answer) G__law_believed B__law_believed
  have c__law_thick_shelf : Cal LP w K mg base 5 "_law_thick_shelf" spLth := cal_mk F__law_thick_shelf (ok_law_thick_shelf T F__law_thick_shelf c__law_take c__law_shelf c__law_with) G__law_thick_shelf B__law_thick_shelf
  have c__law_who_lied : Cal LP w K mg base 3 "_law_who_lied" spLwl := cal_mk F__law_who_lied (ok_law_who_lied T F__law_who_lied c__law_answer) G__law_who_lied B__law_who_lied
  have c__law_does_lessen : Cal LP w K mg base 4 "_law_does_lessen" spLdl := cal_mk F__law_does_lessen (ok_law_does_lessen T F__law_does_lessen c__law_believed) G__law_does_lessen B__law_does_lessen
  have TU : ExC LP w K mg base "Unbelieved" (He.ga K "Unbelieved") := ⟨oexU, G_U, lotI K, fdI, He.eqO_ok x11, of_decide_eq_true x12, ok_LotError SU, bI⟩
  have c_check_believed : CalX LP w K mg base 8 "check_believed" (spCbe (He.ga K "Shelf") (He.ga K "Circle") (He.ga K "Unbelieved")) := calX_mk F_check_believed (ok_check_believed T TU F_check_believed c_check_answers c_check_bound c_believed_by) G_check_believed B_check_believed
  have c_liars : CalX LP w K mg base 9 "liars" (spLrs (He.ga K "Shelf") (He.ga K "Circle") (He.ga K "Unbelieved")) := calX_mk F_liars (ok_liars T F_liars c_check_believed c_believed_by c_liars_by) G_liars B_liars
  have c_asked_more : CalX LP w K mg base 9 "asked_more" (spAsk (He.ga K "Shelf") (He.ga K "Circle") (He.ga K "Unbelieved")) := calX_mk F_asked_more (ok_asked_more T S F_asked_more c_check_believed c_does_lessen) G_asked_more B_asked_more
  have c_ar : CalG LP w K mg base 12 "_law_is_answered_right" (spAr (He.ga K "Shelf") (He.ga K "Circle") Pt) := calG_mk F_ArC (ok_answered T T.repr F_ArC TB F__law_heard G__law_heard B__law_heard G_L G_U (of_decide_eq_true x15) (xfB_ok x13) (He.eqO_ok x14) c__law_believed c_believed c_nearest c_liars c_asked_more c__law_is_int c__law_who_lied c__law_does_lessen) G__law_is_answered_right B__law_is_answered_right
  have c_ri : CalG LP w K mg base 13 "_law_right" (spLri Pt) := calG_mk F_RiC (ok_right rightOk T F_RiC c_ar c__law_thick_shelf m_Sh c__law_shelf_text c__law_ofS c__law_ofI c__law_records c__law_a_lot c__law_lied c__law_is_inside c_believed) G__law_right B__law_right
  exact ok_law T F_LaC c_ri c__law_pot c__law_cells
end LK
set_option maxHeartbeats 0
open PySem PySem.W PySem.Calls PyProof.Rows
theorem PySem.Challenge.cw_lotkeepers_k31_whole_records_believed_an_holds : PySem.Challenge.rw_lotkeepers_k31_whole_records_believed_an.Holds := by
  w_on; o_law
  refine HandSHeadRun.head_any (r := LK.RL) (q := view LK.RL.prog [96]) (H := LK.hHook) (ob := LK.hOb) (M := 6000) (loose := LK.hLoose) (d := HandSHeadRun.topDef LK.RL.prog 96) (kwd := []) LK.hOb_eq
    (by kernel_rfl) (fun s => by kernel_rfl) LK.hRun (by kernel_rfl) (by kernel_rfl) (by kernel_rfl) (by rfl) (by first | assumption | decide +kernel) (by decide +kernel) ⟨rfl, rfl, rfl, rfl, rfl, by decide +kernel⟩ ?hw ?hc
  case hw => w_witness2
  case hc =>
    refine Att.attach_callB (l := PySem.Challenge.rw_lotkeepers_k31_whole_records_believed_an) (n := 63) rfl (by kernel_rfl) fun w s₀ s₁ mg mb fa o pm cd doc a vs ns G Y ho hd hcd hmg hobj hints hlen hbits hg => ?_
    obtain ⟨K, KX, c⟩ := Y
    have hnm : (HandSHeadRun.topDef LK.RL.prog 96).name = ("law" : PySem.Str) := by kernel_rfl
    rw [hnm] at hmg
    obtain ⟨cA, Pt, fd, hHd, hOut, hEm, hb, hF⟩ := LK.facts KX G.T.g c hmg
    exact LK.law_callG KX G.T.g G.T.b G.T.builtins G.T.nolimit hg hEm hOut hHd G.T.bmain hobj hints (Nat.le_trans hlen (by decide)) ⟨rfl, by decide, by decide⟩ hF hb fun H hP hS => ⟨a, ns, rfl, hS, fun p hp => by
      rw [List.mem_singleton.mp hp]
      exact LamX.TabS.nil hP, fun _ => rfl⟩
