import PyProof.Rows.All
import Wide.All
import OpenK.AllK
import Wide.FinOn
import HandS.ForMost
import HandS.Flow
import HandS.IsInst
import HandS.Defaults
import PyProof.WalksMore
import KE.GoesEnumKw
import HandS.Conv
import HandS.TupAny
import HandS.FStr
import KE.KDictCopyH
import KE.KCallOwn
import KE.KFmtOwn
import HandS.OwnEq
import PyProof.InstEq
import PyProof.EqKinds
import HandS.MakeKw
import HandS.More
import HandS.Head0
import HandS.Head1
import HandS.Head2
import HandS.HeadEnd
import HandS.HeadHook1
import HandS.HeadHook2
import PySem.Challenge.RW_bookplaces_k66_leadings_equal
set_option Elab.async false
set_option linter.all false
set_option maxRecDepth 100000
set_option maxHeartbeats 2000000
set_option autoImplicit false
/-! the head: what is looked at, the run. -/
namespace DL
open PySem PySem.Spec PyProof.Rows L2
def refsC (g : Addr → Option Obj) (a : Addr) : List Addr := match g a with
  | some o => He.refsD o
  | none => []
/-- what stands for these names and methods, and what it names -/
def need2 (g : Addr → Option Obj) (meths : List (Str × Str)) (l : List Addr) : List Addr :=
  l ++ meths.flatMap fun q => He.ma (He.frG g l) (He.ga (He.frG g l) q.1) q.2 :: refsC g (He.ma (He.frG g l) (He.ga (He.frG g l) q.1) q.2)
def need1 (g : Addr → Option Obj) (globs : List Str) : List Addr := mainGlobals :: globs.flatMap fun x => He.ga (He.frG g [mainGlobals]) x :: refsC g (He.ga (He.frG g [mainGlobals]) x)
def needA (globs : List Str) (meths : List (Str × Str)) (g : Addr → Option Obj) : List Addr := need2 g meths (need1 g globs)
def obsX (asf : (Addr → Option Obj) → List Addr) (fa : List He.Fa) (fn : List He.DefD) (ex : PySem.W.Frag → Bool) (g : Addr → Option Obj) : He.AlD × Bool := (He.obsD fa fn (He.frG g (asf g)), ex (He.frG g (asf g)))
def hookX (asf : (Addr → Option Obj) → List Addr) (fa : List He.Fa) (fn : List He.DefD) (ex : PySem.W.Frag → Bool) : PySem.W.Hook where
  α := He.AlD × Bool
  obs := fun s => obsX asf fa fn ex s.heap.get?
  val := fun _ => (He.valD fn, true)
  says := fun _ h => ∃ K : PySem.W.Frag, K.In h ∧ He.SaysD fa fn K ∧ ex K = true
  of := fun _ _ e => ⟨_, He.frG_in, congrArg Prod.fst e, congrArg Prod.snd e⟩
  keeps := fun _ _ _ ⟨K, hK, c⟩ k => ⟨K, PySem.W.Frag.In.keeps hK k, c⟩
theorem obsX_eq {asf : (Addr → Option Obj) → List Addr} {fa : List He.Fa} {fn : List He.DefD} {ex : PySem.W.Frag → Bool} {g : Addr → Option Obj} {s : Shared} (h : ∀ a, g a = s.heap.get? a) : obsX asf fa fn ex g = (hookX asf fa fn ex).obs s := by
  have e : g = s.heap.get? := funext h
  rw [e] <;> rfl
def tagNames : List String := ["NoneType", "bool", "int", "str", "list", "tuple", "dict"]
def clsX (K : PySem.W.Frag) (x : Str) : Bool :=
  He.eqO (PySem.W.findIn K (.ref (He.ga K x)) "__class__") (some (some (.builtin "object.__class__"))) &&
  (He.eqO (PySem.W.specialIn K (.builtin "object.__class__") "__get__") (some (some (.builtin "getset_descriptor.__get__"))) &&
  (decide (PySem.W.takesIn K (.builtin "object.__class__") = some true) &&
  (decide (PySem.W.mroIn K (He.ga K x) (.type "object") = some true) &&
  decide (PySem.W.kitOne K (.ref (He.ga K x)) (.ref (He.ga K x)) = some true))))
/-- .. for its own == -/
def eqX (K : PySem.W.Frag) (x : Str) : Bool :=
  He.eqO (PySem.W.findIn K (.ref (He.ga K x)) "__ne__") (some (some (.builtin "object.__ne__"))) &&
  (decide (PySem.W.mroIn K (He.ga K x) (.type "object") = some true) &&
  ((tagNames.all fun t => PySem.W.notFirst K (He.ga K x) (.type t)) &&
  decide (PySem.W.subIn K (.ref (He.ga K x)) (.type "NoneType") = some false)))
/-- no instance of x: those of the class y, the built-in ones -/
def notKit (K : PySem.W.Frag) (y x : Str) : Bool := decide (PySem.W.kitOne K (.ref (He.ga K y)) (.ref (He.ga K x)) = some false)
def notTags (K : PySem.W.Frag) (x : Str) : Bool := tagNames.all fun t => decide (PySem.W.kitOne K (.type t) (.ref (He.ga K x)) = some false)
def namesX (K : PySem.W.Frag) (fr : List Str) (nums : List (Str × Int)) (txts : List (Str × Str)) : Bool :=
  (fr.all fun x => (He.Fa.free x).ok K) && ((nums.all fun q => (He.Fa.int q.1 q.2).ok K) && (txts.all fun q => (He.Fa.str q.1 q.2).ok K))
def fldsX (K : PySem.W.Frag) (x : Str) (flds : List Str) : Bool := flds.all fun f => (He.Fa.noat x f).ok K
/-- no list is among the head's objects -/
def noList (K : PySem.W.Frag) : Bool := K.all fun q => !decide (q.2.cls = .type "list")
def top (i : Nat) : Stmt := PySem.Challenge.pw_bookplaces_k66_leadings_equal.main.body.getD i (.Pass ⟨0, 0, 0, 0⟩)
def frees : List Str := ["isinstance", "int", "bool", "str", "len", "list", "tuple", "sum", "all", "range", "enumerate", "abs", "max"]
def nums66 : List (Str × Int) := [("MOST_LETTERS", 6), ("MOST_BOOKS", 6), ("MOST_OF_BOOK", 12), ("MOST_CHAPTERS", 40), ("MOST_VERSES", 30), ("MOST_PARTS", 4), ("MOST_SIZE", 400), ("LAST_LINE", 9999)]
def txts66 : List (Str × Str) := [("LETTERS", "abcdefghijklmnopqrstuvwxyz")]
def clsBody (s : Stmt) : List Stmt := match s with
  | .ClassDef _ _ _ b _ _ _ _ _ _ _ => b
  | _ => []
def edM (i : Nat) : Stmt := (clsBody (top 40)).getD i (.Pass ⟨0, 0, 0, 0⟩)
def edFlds : List Str := ["kept_books", "kept_places", "kept_lines", "kept_stretches", "kept_counts", "kept_parts"]
def ldM (i : Nat) : Stmt := (clsBody (top 57)).getD i (.Pass ⟨0, 0, 0, 0⟩)
def ldFlds : List Str := ["kept_one", "kept_other", "kept_goes", "kept_comes"]
def hdFns : List He.DefD := [
  ⟨("is_whole", none), "is_whole", "is_whole", defArgs (top 19), defBody (top 19), defScope (top 19), [], []⟩,
  ⟨("made_of", none), "made_of", "made_of", defArgs (top 20), defBody (top 20), defScope (top 20), [], []⟩,
  ⟨("is_name", none), "is_name", "is_name", defArgs (top 21), defBody (top 21), defScope (top 21), [], []⟩,
  ⟨("is_row_editions", none), "is_row", "is_row", defArgs (top 30), defBody (top 30), defScope (top 30), [], []⟩,
  ⟨("checked_chapter", none), "checked_chapter", "checked_chapter", defArgs (top 32), defBody (top 32), defScope (top 32), [], []⟩,
  ⟨("checked_book", none), "checked_book", "checked_book", defArgs (top 33), defBody (top 33), defScope (top 33), [], []⟩,
  ⟨("checked_books", none), "checked_books", "checked_books", defArgs (top 34), defBody (top 34), defScope (top 34), [], []⟩,
  ⟨("checked_pair", none), "checked_pair", "checked_pair", defArgs (top 35), defBody (top 35), defScope (top 35), [], []⟩,
  ⟨("checked_lines", none), "checked_lines", "checked_lines", defArgs (top 36), defBody (top 36), defScope (top 36), [], []⟩,
  ⟨("laid_out", none), "laid_out", "laid_out", defArgs (top 37), defBody (top 37), defScope (top 37), [], []⟩,
  ⟨("stretches_of", none), "stretches_of", "stretches_of", defArgs (top 38), defBody (top 38), defScope (top 38), [], []⟩,
  ⟨("counts_of", none), "counts_of", "counts_of", defArgs (top 39), defBody (top 39), defScope (top 39), [], []⟩,
  ⟨("Edition", some "__init__"), "__init__", "Edition.__init__", defArgs (edM 0), defBody (edM 0), defScope (edM 0), [.non], []⟩,
  ⟨("Edition", some "size"), "size", "Edition.size", defArgs (edM 6), defBody (edM 6), defScope (edM 6), [], []⟩,
  ⟨("Edition", some "lines"), "lines", "Edition.lines", defArgs (edM 7), defBody (edM 7), defScope (edM 7), [], []⟩,
  ⟨("Edition", some "told"), "told", "Edition.told", defArgs (edM 11), defBody (edM 11), defScope (edM 11), [], []⟩,
  ⟨("Edition", some "same"), "same", "Edition.same", defArgs (edM 12), defBody (edM 12), defScope (edM 12), [], []⟩,
  ⟨("rows_of", none), "rows_of", "rows_of", defArgs (top 55), defBody (top 55), defScope (top 55), [], []⟩,
  ⟨("shown_stretch", none), "shown_stretch", "shown_stretch", defArgs (top 56), defBody (top 56), defScope (top 56), [], []⟩,
  ⟨("Leading", some "__init__"), "__init__", "Leading.__init__", defArgs (ldM 0), defBody (ldM 0), defScope (ldM 0), [], []⟩,
  ⟨("Leading", some "__len__"), "__len__", "Leading.__len__", defArgs (ldM 1), defBody (ldM 1), defScope (ldM 1), [], []⟩,
  ⟨("Leading", some "__eq__"), "__eq__", "Leading.__eq__", defArgs (ldM 2), defBody (ldM 2), defScope (ldM 2), [], []⟩,
  ⟨("Leading", some "__str__"), "__str__", "Leading.__str__", defArgs (ldM 3), defBody (ldM 3), defScope (ldM 3), [], []⟩,
  ⟨("Leading", some "editions"), "editions", "Leading.editions", defArgs (ldM 4), defBody (ldM 4), defScope (ldM 4), [], []⟩,
  ⟨("Leading", some "rows"), "rows", "Leading.rows", defArgs (ldM 7), defBody (ldM 7), defScope (ldM 7), [], []⟩,
  ⟨("Leading", some "turned"), "turned", "Leading.turned", defArgs (ldM 14), defBody (ldM 14), defScope (ldM 14), [], []⟩,
  ⟨("_law_cell_at", none), "_law_cell_at", "_law_cell_at", defArgs (top 59), defBody (top 59), defScope (top 59), [], []⟩,
  ⟨("_law_row", none), "_law_row", "_law_row", defArgs (top 60), defBody (top 60), defScope (top 60), [], []⟩,
  ⟨("_law_names", none), "_law_names", "_law_names", defArgs (top 61), defBody (top 61), defScope (top 61), [], []⟩,
  ⟨("_law_books", none), "_law_books", "_law_books", defArgs (top 62), defBody (top 62), defScope (top 62), [], []⟩,
  ⟨("_law_copy", none), "_law_copy", "_law_copy", defArgs (top 63), defBody (top 63), defScope (top 63), [], []⟩,
  ⟨("_law_spots", none), "_law_spots", "_law_spots", defArgs (top 64), defBody (top 64), defScope (top 64), [], []⟩,
  ⟨("_law_threads", none), "_law_threads", "_law_threads", defArgs (top 65), defBody (top 65), defScope (top 65), [], []⟩,
  ⟨("_law_edition", none), "_law_edition", "_law_edition", defArgs (top 66), defBody (top 66), defScope (top 66), [], []⟩,
  ⟨("_law_two", none), "_law_two", "_law_two", defArgs (top 67), defBody (top 67), defScope (top 67), [], []⟩,
  ⟨("_law_divisions", none), "_law_divisions", "_law_divisions", defArgs (top 69), defBody (top 69), defScope (top 69), [], []⟩,
  ⟨("_law_divided", none), "_law_divided", "_law_divided", defArgs (top 70), defBody (top 70), defScope (top 70), [], []⟩,
  ⟨("_law_unlike", none), "_law_unlike", "_law_unlike", defArgs (top 71), defBody (top 71), defScope (top 71), [], []⟩,
  ⟨("_law_all_unlike", none), "_law_all_unlike", "_law_all_unlike", defArgs (top 72), defBody (top 72), defScope (top 72), [], []⟩,
  ⟨("_law_equal", none), "_law_equal", "_law_equal", defArgs (top 73), defBody (top 73), defScope (top 73), [], []⟩,
  ⟨("law", none), "law", "law", defArgs (top 74), defBody (top 74), defScope (top 74), [], []⟩]
def hdGlobs : List Str := ["is_whole", "made_of", "is_name", "is_row_editions", "checked_chapter", "checked_book", "checked_books", "checked_pair", "checked_lines", "laid_out", "stretches_of", "counts_of", "rows_of", "shown_stretch", "_law_cell_at", "_law_row", "_law_names", "_law_books", "_law_copy", "_law_spots", "_law_threads", "_law_edition", "_law_two", "_law_divisions", "_law_divided", "_law_unlike", "_law_all_unlike", "_law_equal", "law", "Edition", "Leading"]
def hdMeths : List (Str × Str) := [("Edition", "size"), ("Edition", "lines"), ("Edition", "told"), ("Edition", "same"), ("Leading", "__len__"), ("Leading", "__eq__"), ("Leading", "__str__"), ("Leading", "editions"), ("Leading", "rows"), ("Leading", "turned")]
def hdMeths2 : List (Str × Str) := ("Edition", "__init__") :: ("Leading", "__init__") :: hdMeths
def hdEx (K : PySem.W.Frag) : Bool :=
  noList K && (namesX K frees nums66 txts66 && ((hdGlobs.all fun x => (He.Fa.glo x).ok K) && ((hdMeths.all fun q => (He.Fa.meth q.1 q.2).ok K) &&
  (((He.Fa.cls "Edition").ok K && ((He.Fa.mkr "Edition").ok K && (clsX K "Edition" && fldsX K "Edition" edFlds))) && (((He.Fa.cls "Leading").ok K && ((He.Fa.mkr "Leading").ok K && (clsX K "Leading" && fldsX K "Leading" ldFlds))) &&
  (eqX K "Leading" && (notKit K "Edition" "Leading" && (notTags K "Leading" && PySem.W.notFirst K (He.ga K "Leading") (.ref (He.ga K "Edition"))))))))))
abbrev hdR : PySem.W.OpenRow := PySem.W.OpenLaw.row PySem.Challenge.rw_bookplaces_k66_leadings_equal
abbrev hdK : PySem.W.Hook := hookX (needA hdGlobs hdMeths2) [] hdFns hdEx
def hdOb (s : PySem.W.SharedT) : He.AlD × Bool := obsX (needA hdGlobs hdMeths2) [] hdFns hdEx (HandSHeadRun.getT s)
theorem hdOb_eq (s : PySem.W.SharedT) : hdOb s = hdK.obs s.abs := obsX_eq (HandSHeadRun.getT_eq s)
def hdL1 : List Str := ["_wall", "PlaceError", "LostError", "NoNumber", "NoName", "Doubled", "NoEdition", "TooMany", "NoLines", "NoPlaces", "NoSpot", "NoBook", "NoChapter", "NoVerse", "NoPart", "LETTERS", "MOST_LETTERS", "is_whole", "made_of", "is_name"]
def hdL2 : List Str := ["MOST_BOOKS", "MOST_OF_BOOK", "MOST_CHAPTERS", "MOST_VERSES", "MOST_PARTS", "MOST_SIZE", "LAST_LINE", "is_row", "is_row_editions", "checked_chapter", "checked_book", "checked_books", "checked_pair", "checked_lines", "laid_out", "stretches_of", "counts_of", "Edition", "MOST_PAIRS", "MOST_THINGS"]
def hdL3 : List Str := ["is_part", "is_pair", "is_row_places", "put_together", "shown_run", "Places", "first_alone", "marked", "numbered", "rows_of", "shown_stretch", "Leading", "_law_cell_at", "_law_row", "_law_names", "_law_books", "_law_copy", "_law_spots", "_law_threads", "_law_edition"]
def hdL4 : List Str := ["_law_two", "_law_goes", "_law_divisions", "_law_divided", "_law_unlike", "_law_all_unlike", "_law_equal"]
def hdLoose : List Str := hdL1 ++ hdL2 ++ hdL3 ++ hdL4
theorem hdRun (w : World) : HandSHeadRun.RunEq hdR (PySem.W.view hdR.prog [74]) hdK hdOb 20000 hdLoose w := by
  intro os
  kernel_rfl
end DL
/-! DLa: data without the heap (D), what represents it (Rep), slots (Sl), configurations (Cf), what may change (Le). -/
namespace DL
open PySem PySem.Spec PyProof.Rows L2

inductive D where
  | non | bl (b : Bool) | int (i : Int) | str (x : Str) | ty (n : String) | ref (a : Addr)
  | lst (xs : List D) | tup (xs : List D)
  | dK (kvs : List (Key × D)) | dT (kvs : List (List Key × D))
  | ins (C : Addr) (fs : List (Str × D))
  | ext (φ : Heap → Prop)
  | any

mutual
inductive Rep (K : PySem.W.Frag) (H : Hp) : D → V → Prop
  | non : Rep K H .non .non
  | bl (b : Bool) : Rep K H (.bl b) (.bl b)
  | int (i : Int) : Rep K H (.int i) (.int i)
  | str (x : Str) : Rep K H (.str x) (.str x)
  | ty (n : String) : Rep K H (.ty n) (.ty n)
  | ref (a : Addr) : Rep K H (.ref a) (.ref a)
  | lst {a : Addr} {xs : List V} {ds : List D} : Rd H a (.lst xs) → RepL K H ds xs → Rep K H (.lst ds) (.ref a)
  | tup {a : Addr} {xs : List V} {ds : List D} : H a = some (.tup xs) → RepL K H ds xs → Rep K H (.tup ds) (.ref a)
  | dK {a : Addr} {xs : List (Key × V)} {ds : List (Key × D)} : H a = some (.dK xs) → RepK K H ds xs → Rep K H (.dK ds) (.ref a)
  | dT {a : Addr} {xs : List (List Key × V)} {ds : List (List Key × D)} : H a = some (.dT xs) → RepT K H ds xs → Rep K H (.dT ds) (.ref a)
  | ins {a C dx : Addr} {xs : List (Str × V)} {fs : List (Str × D)} : H a = some (.ins C dx xs) → RepF K H fs xs → Rep K H (.ins C fs) (.ref a)
  | ext {a : Addr} {φ : Heap → Prop} : H a = some (.ext φ) → Rep K H (.ext φ) (.ref a)
  | any (v : V) : Rep K H .any v
inductive RepL (K : PySem.W.Frag) (H : Hp) : List D → List V → Prop
  | nil : RepL K H [] []
  | cons {d : D} {v : V} {ds : List D} {vs : List V} : Rep K H d v → RepL K H ds vs → RepL K H (d :: ds) (v :: vs)
inductive RepK (K : PySem.W.Frag) (H : Hp) : List (Key × D) → List (Key × V) → Prop
  | nil : RepK K H [] []
  | cons {k : Key} {d : D} {v : V} {ds : List (Key × D)} {vs : List (Key × V)} : Rep K H d v → RepK K H ds vs → RepK K H ((k, d) :: ds) ((k, v) :: vs)
inductive RepT (K : PySem.W.Frag) (H : Hp) : List (List Key × D) → List (List Key × V) → Prop
  | nil : RepT K H [] []
  | cons {k : List Key} {d : D} {v : V} {ds : List (List Key × D)} {vs : List (List Key × V)} : Rep K H d v → RepT K H ds vs → RepT K H ((k, d) :: ds) ((k, v) :: vs)
inductive RepF (K : PySem.W.Frag) (H : Hp) : List (Str × D) → List (Str × V) → Prop
  | nil : RepF K H [] []
  | cons {f : Str} {d : D} {v : V} {fs : List (Str × D)} {xs : List (Str × V)} : Rep K H d v → RepF K H fs xs → RepF K H ((f, d) :: fs) ((f, v) :: xs)
end

theorem same_rd {H H' : Hp} {a : Addr} {u : HO} (e : Same H H') (h : Rd H a u) : Rd H' a u := by
  rcases h with h | ⟨o, h⟩
  · exact .inl (e a _ h)
  · exact .inr ⟨o, e a _ h⟩
theorem same_l {K : PySem.W.Frag} {H H' : Hp} {a : Addr} {xs : List V} (e : Same H H') (h : SqL K H a xs) : SqL K H' a xs := h.elim (fun h => .inl (same_rd e h)) .inr
theorem same_t {K : PySem.W.Frag} {H H' : Hp} {a : Addr} {xs : List V} (e : Same H H') (h : SqT K H a xs) : SqT K H' a xs := h.elim (fun h => .inl (same_rd e h)) .inr
theorem same_new {H : Hp} {p : Addr} {o : HO} (h : H p = none) : Same H (upd H p o) := fun b x e => by
  rw [upd_ne (ne_of_none e h)]
  exact e
/-- an object that F does not know may change -/
theorem same_mut {F H : Hp} {p : Addr} {o : HO} (e : Same F H) (h : F p = none) : Same F (upd H p o) := fun b x q => by
  rw [upd_ne (ne_of_none q h)]
  exact e b x q

section
variable {K : PySem.W.Frag} {H H' : Hp}
mutual
theorem Rep.mono (e : Same H H') : ∀ {d : D} {v : V}, Rep K H d v → Rep K H' d v
  | _, _, .non => .non
  | _, _, .bl b => .bl b
  | _, _, .int i => .int i
  | _, _, .str x => .str x
  | _, _, .ty n => .ty n
  | _, _, .ref a => .ref a
  | _, _, .lst s r => .lst (same_rd e s) (RepL.mono e r)
  | _, _, .tup s r => .tup (e _ _ s) (RepL.mono e r)
  | _, _, .dK s r => .dK (e _ _ s) (RepK.mono e r)
  | _, _, .dT s r => .dT (e _ _ s) (RepT.mono e r)
  | _, _, .ins s r => .ins (e _ _ s) (RepF.mono e r)
  | _, _, .ext s => .ext (e _ _ s)
  | _, _, .any v => .any v
theorem RepL.mono (e : Same H H') : ∀ {ds : List D} {vs : List V}, RepL K H ds vs → RepL K H' ds vs
  | _, _, .nil => .nil
  | _, _, .cons h t => .cons (Rep.mono e h) (RepL.mono e t)
theorem RepK.mono (e : Same H H') : ∀ {ds : List (Key × D)} {vs : List (Key × V)}, RepK K H ds vs → RepK K H' ds vs
  | _, _, .nil => .nil
  | _, _, .cons h t => .cons (Rep.mono e h) (RepK.mono e t)
theorem RepT.mono (e : Same H H') : ∀ {ds : List (List Key × D)} {vs : List (List Key × V)}, RepT K H ds vs → RepT K H' ds vs
  | _, _, .nil => .nil
  | _, _, .cons h t => .cons (Rep.mono e h) (RepT.mono e t)
theorem RepF.mono (e : Same H H') : ∀ {ds : List (Str × D)} {vs : List (Str × V)}, RepF K H ds vs → RepF K H' ds vs
  | _, _, .nil => .nil
  | _, _, .cons h t => .cons (Rep.mono e h) (RepF.mono e t)
end
theorem RepL.length : ∀ {ds : List D} {vs : List V}, RepL K H ds vs → ds.length = vs.length
  | _, _, .nil => rfl
  | _, _, .cons _ t => by rw [List.length_cons, List.length_cons, RepL.length t]
theorem RepL.get : ∀ {ds : List D} {vs : List V} {i : Nat} {d : D}, RepL K H ds vs → ds[i]? = some d → ∃ v, vs[i]? = some v ∧ Rep K H d v
  | _, _, _, _, .nil, e => by simp at e
  | _, _, 0, _, .cons r _, e => by simp at e; subst e; exact ⟨_, rfl, r⟩
  | _, _, i + 1, d, .cons _ t, e => by
    obtain ⟨u, h1, h2⟩ := RepL.get (i := i) (d := d) t (by simpa using e)
    exact ⟨u, by simpa using h1, h2⟩
theorem RepL.getV : ∀ {ds : List D} {vs : List V} {i : Nat} {v : V}, RepL K H ds vs → vs[i]? = some v → ∃ d, ds[i]? = some d ∧ Rep K H d v
  | _, _, _, _, .nil, e => by simp at e
  | _, _, 0, _, .cons r _, e => by simp at e; subst e; exact ⟨_, rfl, r⟩
  | _, _, i + 1, d, .cons _ t, e => by
    obtain ⟨u, h1, h2⟩ := RepL.getV (i := i) (v := d) t (by simpa using e)
    exact ⟨u, by simpa using h1, h2⟩
theorem RepL.append : ∀ {ds es : List D} {vs ws : List V}, RepL K H ds vs → RepL K H es ws → RepL K H (ds ++ es) (vs ++ ws)
  | _, _, _, _, .nil, s => s
  | _, _, _, _, .cons r t, s => .cons r (RepL.append t s)
theorem RepL.take : ∀ {ds : List D} {vs : List V} (n : Nat), RepL K H ds vs → RepL K H (ds.take n) (vs.take n)
  | _, _, 0, _ => .nil
  | _, _, _ + 1, .nil => .nil
  | _, _, n + 1, .cons r t => .cons r (RepL.take n t)
theorem RepL.drop : ∀ {ds : List D} {vs : List V} (n : Nat), RepL K H ds vs → RepL K H (ds.drop n) (vs.drop n)
  | _, _, 0, r => r
  | _, _, _ + 1, .nil => .nil
  | _, _, n + 1, .cons _ t => RepL.drop n t
theorem RepL.set {d : D} {v : V} (r : Rep K H d v) : ∀ {ds : List D} {vs : List V} (i : Nat), RepL K H ds vs → RepL K H (ds.set i d) (vs.set i v)
  | _, _, _, .nil => .nil
  | _, _, 0, .cons _ t => .cons r t
  | _, _, i + 1, .cons q t => .cons q (RepL.set r i t)
theorem RepL.one {d : D} {v : V} (r : Rep K H d v) : RepL K H [d] [v] := .cons r .nil
theorem RepL.dropLast : ∀ {ds : List D} {vs : List V}, RepL K H ds vs → RepL K H ds.dropLast vs.dropLast := fun {ds vs} r => by
  rw [List.dropLast_eq_take, List.dropLast_eq_take, r.length]
  exact r.take _
/-- each item by a function -/
theorem RepL.of_map {α : Type} {f : α → D} {g : α → V} (h : ∀ a, Rep K H (f a) (g a)) : ∀ l : List α, RepL K H (l.map f) (l.map g)
  | [] => .nil
  | a :: l => .cons (h a) (RepL.of_map h l)
theorem RepF.lookup {f : Str} {d : D} : ∀ {fs : List (Str × D)} {xs : List (Str × V)}, RepF K H fs xs → fs.lookup f = some d → ∃ v, xs.lookup f = some v ∧ Rep K H d v
  | _, _, .nil, e => by cases e
  | _, _, .cons (f := g) (d := d') (v := v') (fs := fs) (xs := xs) r t, e => by
    rw [List.lookup_cons] at e
    rw [List.lookup_cons]
    by_cases q : (f == g) = true
    · rw [q] at e
      simp only at e
      cases e
      rw [q]
      exact ⟨_, rfl, r⟩
    · have q' : (f == g) = false := by simpa using q
      rw [q'] at e
      simp only at e
      rw [q']
      exact RepF.lookup t e
theorem RepF.lookup_none {f : Str} : ∀ {fs : List (Str × D)} {xs : List (Str × V)}, RepF K H fs xs → fs.lookup f = none → xs.lookup f = none
  | _, _, .nil, _ => rfl
  | _, _, .cons (f := g) r t, e => by
    rw [List.lookup_cons] at e
    rw [List.lookup_cons]
    by_cases q : (f == g) = true
    · rw [q] at e
      cases e
    · have q' : (f == g) = false := by simpa using q
      rw [q'] at e
      rw [q']
      exact RepF.lookup_none t e
end

/-- data that no heap is asked of -/
def D.sc : D → Bool
  | .non => true | .bl _ => true | .int _ => true | .str _ => true | .ty _ => true | .ref _ => true | .any => true
  | _ => false
theorem Rep.sc {K : PySem.W.Frag} {H H' : Hp} {d : D} {v : V} (r : Rep K H d v) (h : d.sc = true) : Rep K H' d v := by
  cases r with
  | non => exact .non
  | bl b => exact .bl b
  | int i => exact .int i
  | str x => exact .str x
  | ty n => exact .ty n
  | ref a => exact .ref a
  | any v => exact .any v
  | lst _ _ => cases h
  | tup _ _ => cases h
  | dK _ _ => cases h
  | dT _ _ => cases h
  | ins _ _ => cases h
  | ext _ => cases h
theorem RepL.sc {K : PySem.W.Frag} {H H' : Hp} : ∀ {ds : List D} {vs : List V}, RepL K H ds vs → ds.all D.sc = true → RepL K H' ds vs
  | _, _, .nil, _ => .nil
  | _, _, .cons r t, h => by
    rw [List.all_cons, Bool.and_eq_true] at h
    exact .cons (r.sc h.1) (RepL.sc t h.2)

/-! ### objects of one's own, slots -/
/-- an object of one's own: its address, whether it is new since the entry, what it holds -/
structure Ob where
  p : Addr
  nw : Bool
  d : D
/-- what is known: one's own objects, the slots -/
structure En where
  o : List Ob
  s : List (Option D)
/-- an object of one's own at p: itself in H, what is in it in F -/
inductive OwnOk (K : PySem.W.Frag) (H F : Hp) : D → Addr → Prop
  | lst {p : Addr} {xs : List V} {ds : List D} : H p = some (.lst xs) → RepL K F ds xs → OwnOk K H F (.lst ds) p
  | dK {p : Addr} {xs : List (Key × V)} {ds : List (Key × D)} : H p = some (.dK xs) → RepK K F ds xs → OwnOk K H F (.dK ds) p
  | dT {p : Addr} {xs : List (List Key × V)} {ds : List (List Key × D)} : H p = some (.dT xs) → RepT K F ds xs → OwnOk K H F (.dT ds) p
  | ins {p C dx : Addr} {xs : List (Str × V)} {fs : List (Str × D)} : H p = some (.ins C dx xs) → RepF K F fs xs → OwnOk K H F (.ins C fs) p
  | ext {p : Addr} {φ : Heap → Prop} : H p = some (.ext φ) → OwnOk K H F (.ext φ) p
theorem OwnOk.there {K : PySem.W.Frag} {H F : Hp} {d : D} {p : Addr} (o : OwnOk K H F d p) : ∃ u, H p = some u := by
  cases o with
  | lst h _ => exact ⟨_, h⟩
  | dK h _ => exact ⟨_, h⟩
  | dT h _ => exact ⟨_, h⟩
  | ins h _ => exact ⟨_, h⟩
  | ext h => exact ⟨_, h⟩
theorem OwnOk.mono {K : PySem.W.Frag} {H F H' F' : Hp} {d : D} {p : Addr} (o : OwnOk K H F d p) (e : H' p = H p) (f : Same F F') : OwnOk K H' F' d p := by
  cases o with
  | lst h r => exact .lst (by rw [e]; exact h) (r.mono f)
  | dK h r => exact .dK (by rw [e]; exact h) (r.mono f)
  | dT h r => exact .dT (by rw [e]; exact h) (r.mono f)
  | ins h r => exact .ins (by rw [e]; exact h) (r.mono f)
  | ext h => exact .ext (by rw [e]; exact h)
/-- read where all that stands is told -/
theorem OwnOk.rep {K : PySem.W.Frag} {H F : Hp} {d : D} {p : Addr} (o : OwnOk K H F d p) (f : Same F H) : Rep K H d (.ref p) := by
  cases o with
  | lst h r => exact .lst (.inl h) (r.mono f)
  | dK h r => exact .dK h (r.mono f)
  | dT h r => exact .dT h (r.mono f)
  | ins h r => exact .ins h (r.mono f)
  | ext h => exact .ext h
/-- what is in H told in F -/
theorem OwnOk.fz {K : PySem.W.Frag} {H F : Hp} {d : D} {p : Addr} (o : OwnOk K H F d p) (n : F p = none) : ∃ u, H p = some u ∧ Rep K (upd F p u) d (.ref p) := by
  cases o with
  | lst h r => exact ⟨_, h, .lst (.inl upd_same) (r.mono (same_new n))⟩
  | dK h r => exact ⟨_, h, .dK upd_same (r.mono (same_new n))⟩
  | dT h r => exact ⟨_, h, .dT upd_same (r.mono (same_new n))⟩
  | ins h r => exact ⟨_, h, .ins upd_same (r.mono (same_new n))⟩
  | ext h => exact ⟨_, h, .ext upd_same⟩

/-- F told of H: what stands for good -/
structure Le (H F H' F' : Hp) : Prop where
  h : Same H H'
  f : Same F F'
  ex : Same F' H'
  pr : ∀ p o, H p = some o → F p = none → F' p = none
theorem Le.refl {H F : Hp} (e : Same F H) : Le H F H F := ⟨Same.refl H, Same.refl F, e, fun _ _ _ q => q⟩
theorem Le.trans {H F H1 F1 H2 F2 : Hp} (a : Le H F H1 F1) (b : Le H1 F1 H2 F2) : Le H F H2 F2 :=
  ⟨a.h.trans b.h, a.f.trans b.f, b.ex, fun p o q n => b.pr p o (a.h p o q) (a.pr p o q n)⟩
/-- a new object, for good -/
theorem Le.new {H F : Hp} {p : Addr} {o : HO} (e : Same F H) (h : H p = none) : Le H F (upd H p o) (upd F p o) := by
  have hf : F p = none := e.free h
  refine ⟨same_new h, same_new hf, fun b x q => ?_, fun b x q n => ?_⟩
  · by_cases hb : b = p
    · subst hb
      rw [upd_same] at q ⊢
      exact q
    · rw [upd_ne hb] at q ⊢
      exact e b x q
  · rw [upd_ne (ne_of_none q h)]
    exact n
/-- a new object that may change -/
theorem Le.newO {H F : Hp} {p : Addr} {o : HO} (e : Same F H) (h : H p = none) : Le H F (upd H p o) F :=
  ⟨same_new h, Same.refl F, fun b x q => by
    have hb : b ≠ p := fun z => by
      subst z
      rw [e b x q] at h
      cases h
    rw [upd_ne hb]
    exact e b x q, fun _ _ _ n => n⟩
/-- what was new since then stands from now on -/
theorem Le.freeze {H F H' F' : Hp} {p : Addr} {o : HO} (l : Le H F H' F') (hn : H p = none) (hp : H' p = some o) : Le H F H' (upd F' p o) := by
  refine ⟨l.h, fun b x q => ?_, fun b x q => ?_, fun b x q n => ?_⟩
  · by_cases hb : b = p
    · subst hb
      have q' := l.ex _ _ (l.f _ _ q)
      rw [hp] at q'
      rw [upd_same]
      exact q'
    · rw [upd_ne hb]
      exact l.f _ _ q
  · by_cases hb : b = p
    · subst hb
      rw [upd_same] at q
      rw [hp]
      exact q
    · rw [upd_ne hb] at q
      exact l.ex _ _ q
  · rw [upd_ne (ne_of_none q hn)]
    exact l.pr _ _ q n

structure Cf (K : PySem.W.Frag) (H F : Hp) (ρ : En) (σ : L2.St) : Prop where
  ex : Same F H
  len : σ.length = ρ.s.length
  sl : ∀ (i : Nat) (d : D), ρ.s[i]? = some (some d) → ∃ v, σ[i]? = some (some v) ∧ Rep K F d v
  own : ∀ q ∈ ρ.o, F q.p = none ∧ OwnOk K H F q.d q.p
  nd : ρ.o.Pairwise fun a b => a.p ≠ b.p
theorem Cf.ownAt {K : PySem.W.Frag} {H F : Hp} {ρ : En} {σ : L2.St} (c : Cf K H F ρ σ) {k : Nat} {q : Ob} (h : ρ.o[k]? = some q) : F q.p = none ∧ OwnOk K H F q.d q.p := c.own q (List.mem_of_getElem? h)
theorem Cf.mono {K : PySem.W.Frag} {H F H' F' : Hp} {ρ : En} {σ : L2.St} (c : Cf K H F ρ σ) (l : Le H F H' F') : Cf K H' F' ρ σ where
  ex := l.ex
  len := c.len
  sl := fun i d e => let ⟨v, h1, h2⟩ := c.sl i d e; ⟨v, h1, h2.mono l.f⟩
  own := fun q hq => by
    obtain ⟨h2, h3⟩ := c.own q hq
    obtain ⟨u, hu⟩ := h3.there
    exact ⟨l.pr _ u hu h2, h3.mono (by rw [hu, l.h _ u hu]) l.f⟩
  nd := c.nd
/-- less is told of the slots -/
inductive WkS : List (Option D) → List (Option D) → Prop
  | nil : WkS [] []
  | keep {s t : Option D} {r q : List (Option D)} (e : s = t) : WkS r q → WkS (s :: r) (t :: q)
  | drop {s : Option D} {r q : List (Option D)} : WkS r q → WkS (s :: r) (none :: q)
  | any {d : D} {r q : List (Option D)} : WkS r q → WkS (some d :: r) (some .any :: q)
/-- fewer objects -/
inductive WkO : List Ob → List Ob → Prop
  | nil : WkO [] []
  | keep {s t : Ob} {r q : List Ob} (e : s = t) : WkO r q → WkO (s :: r) (t :: q)
  | drop {s : Ob} {r q : List Ob} : WkO r q → WkO (s :: r) q
theorem WkS.refl : ∀ ρ : List (Option D), WkS ρ ρ
  | [] => .nil
  | _ :: r => .keep rfl (WkS.refl r)
theorem WkO.refl : ∀ ρ : List Ob, WkO ρ ρ
  | [] => .nil
  | _ :: r => .keep rfl (WkO.refl r)
theorem WkS.len : ∀ {ρ ρ' : List (Option D)}, WkS ρ ρ' → ρ.length = ρ'.length
  | _, _, .nil => rfl
  | _, _, .keep _ w => by rw [List.length_cons, List.length_cons, w.len]
  | _, _, .drop w => by rw [List.length_cons, List.length_cons, w.len]
  | _, _, .any w => by rw [List.length_cons, List.length_cons, w.len]
theorem WkS.at : ∀ {ρ ρ' : List (Option D)}, WkS ρ ρ' → ∀ (i : Nat) (d : D), ρ'[i]? = some (some d) → ∃ d', ρ[i]? = some (some d') ∧ (d' = d ∨ d = .any)
  | _, _, .nil, i, s, h => by simp at h
  | _, _, .keep e w, 0, s, h => by
    simp at h
    exact ⟨s, by simp [e, h], .inl rfl⟩
  | _, _, .keep e w, i + 1, s, h => by
    have := w.at i s (by simpa using h)
    simpa using this
  | _, _, .drop w, 0, s, h => by simp at h
  | _, _, .drop w, i + 1, s, h => by
    have := w.at i s (by simpa using h)
    simpa using this
  | _, _, .any (d := d) w, 0, s, h => by
    simp at h
    exact ⟨d, by simp, .inr h.symm⟩
  | _, _, .any w, i + 1, s, h => by
    have := w.at i s (by simpa using h)
    simpa using this
theorem WkO.sub : ∀ {ρ ρ' : List Ob}, WkO ρ ρ' → ρ'.Sublist ρ
  | _, _, .nil => .slnil
  | _, _, .keep e w => by rw [e]; exact w.sub.cons₂ _
  | _, _, .drop w => w.sub.cons _
structure Wk (ρ ρ' : En) : Prop where
  o : WkO ρ.o ρ'.o
  s : WkS ρ.s ρ'.s
theorem Wk.refl (ρ : En) : Wk ρ ρ := ⟨.refl _, .refl _⟩
theorem Cf.wk {K : PySem.W.Frag} {H F : Hp} {ρ ρ' : En} {σ : L2.St} (c : Cf K H F ρ σ) (w : Wk ρ ρ') : Cf K H F ρ' σ where
  ex := c.ex
  len := c.len.trans w.s.len
  sl := fun i d e => by
    obtain ⟨d', h1, h2⟩ := w.s.at i d e
    obtain ⟨v, h3, h4⟩ := c.sl i d' h1
    rcases h2 with z | z
    · subst z
      exact ⟨v, h3, h4⟩
    · subst z
      exact ⟨v, h3, .any v⟩
  own := fun q hq => c.own q (w.o.sub.subset hq)
  nd := c.nd.sublist w.o.sub
/-- a name is stored -/
theorem Cf.setF {K : PySem.W.Frag} {H F : Hp} {ρ : En} {σ : L2.St} {d : D} {v : V} (c : Cf K H F ρ σ) (i : Nat) (r : Rep K F d v) : Cf K H F ⟨ρ.o, ρ.s.set i (some d)⟩ (σ.set i (some v)) where
  ex := c.ex
  len := by rw [List.length_set]; show _ = (ρ.s.set i (some d)).length; rw [List.length_set]; exact c.len
  sl := fun j e h => by
    have h : (ρ.s.set i (some d))[j]? = some (some e) := h
    by_cases hj : i = j
    · subst hj
      have hl : i < ρ.s.length := by
        have := (List.getElem?_eq_some_iff.mp h).1
        rwa [List.length_set] at this
      rw [List.getElem?_set_self hl] at h
      cases h
      exact ⟨v, List.getElem?_set_self (by rw [c.len]; exact hl), r⟩
    · rw [List.getElem?_set_ne hj] at h
      obtain ⟨u, h1, h2⟩ := c.sl j e h
      exact ⟨u, by rw [List.getElem?_set_ne hj]; exact h1, h2⟩
  own := c.own
  nd := c.nd
/-- nothing is told of a slot that is stored -/
theorem Cf.setN {K : PySem.W.Frag} {H F : Hp} {ρ : En} {σ : L2.St} (c : Cf K H F ρ σ) (i : Nat) (v : Option V) : Cf K H F ⟨ρ.o, ρ.s.set i none⟩ (σ.set i v) where
  ex := c.ex
  len := by rw [List.length_set]; show _ = (ρ.s.set i none).length; rw [List.length_set]; exact c.len
  sl := fun j e h => by
    have h : (ρ.s.set i none)[j]? = some (some e) := h
    by_cases hj : i = j
    · subst hj
      have hl : i < ρ.s.length := by
        have := (List.getElem?_eq_some_iff.mp h).1
        rwa [List.length_set] at this
      rw [List.getElem?_set_self hl] at h
      cases h
    · rw [List.getElem?_set_ne hj] at h
      obtain ⟨u, h1, h2⟩ := c.sl j e h
      exact ⟨u, by rw [List.getElem?_set_ne hj]; exact h1, h2⟩
  own := c.own
  nd := c.nd
/-- an object of one's own more -/
theorem Cf.addO {K : PySem.W.Frag} {H F : Hp} {ρ : En} {σ : L2.St} {d : D} {p : Addr} {b : Bool} (c : Cf K H F ρ σ) (hf : F p = none) (o : OwnOk K H F d p) (nw : ∀ q ∈ ρ.o, q.p ≠ p) : Cf K H F ⟨ρ.o ++ [⟨p, b, d⟩], ρ.s⟩ σ where
  ex := c.ex
  len := c.len
  sl := c.sl
  own := fun q hq => by
    rcases List.mem_append.mp hq with h | h
    · exact c.own q h
    · have e : q = ⟨p, b, d⟩ := by simpa using h
      subst e
      exact ⟨hf, o⟩
  nd := List.pairwise_append.mpr ⟨c.nd, by simp, fun a ha q hq => by
    have e : q = ⟨p, b, d⟩ := by simpa using hq
    subst e
    exact nw a ha⟩
theorem set_mem {α : Type} {l : List α} {k : Nat} {a b : α} (h : b ∈ l.set k a) : b = a ∨ ∃ j, j ≠ k ∧ l[j]? = some b := by
  obtain ⟨j, hj⟩ := List.mem_iff_getElem?.mp h
  by_cases e : k = j
  · subst e
    have hl : k < l.length := by
      have := (List.getElem?_eq_some_iff.mp hj).1
      rwa [List.length_set] at this
    rw [List.getElem?_set_self hl] at hj
    exact .inl (Option.some.inj hj).symm
  · rw [List.getElem?_set_ne e] at hj
    exact .inr ⟨j, fun z => e z.symm, hj⟩
theorem pw_ne {γ : List Ob} (nd : γ.Pairwise fun a b => a.p ≠ b.p) {j k : Nat} {a b : Ob} (hj : γ[j]? = some a) (hk : γ[k]? = some b) (h : j ≠ k) : a.p ≠ b.p := by
  obtain ⟨h1, e1⟩ := List.getElem?_eq_some_iff.mp hj
  obtain ⟨h2, e2⟩ := List.getElem?_eq_some_iff.mp hk
  rw [List.pairwise_iff_getElem] at nd
  rcases Nat.lt_or_gt_of_ne h with z | z
  · have := nd j k h1 h2 z
    rwa [e1, e2] at this
  · have := nd k j h2 h1 z
    rw [e1, e2] at this
    exact this.symm
/-- what one's own object k holds changes -/
theorem Cf.change {K : PySem.W.Frag} {H F : Hp} {ρ : En} {σ : L2.St} {d d' : D} {p : Addr} {b : Bool} {o : HO} (c : Cf K H F ρ σ) {k : Nat} (hk : ρ.o[k]? = some ⟨p, b, d⟩) (n : OwnOk K (upd H p o) F d' p) :
    Cf K (upd H p o) F ⟨ρ.o.set k ⟨p, b, d'⟩, ρ.s⟩ σ := by
  have hf := (c.ownAt hk).1
  refine ⟨same_mut c.ex hf, c.len, c.sl, fun q hq => ?_, ?_⟩
  · rcases set_mem hq with e | ⟨j, hj, e⟩
    · subst e
      exact ⟨hf, n⟩
    · obtain ⟨h1, h2⟩ := c.ownAt e
      have np : q.p ≠ p := pw_ne c.nd e hk hj
      exact ⟨h1, h2.mono (upd_ne np) (Same.refl F)⟩
  · show (ρ.o.set k ⟨p, b, d'⟩).Pairwise _
    have e : ((ρ.o.set k ⟨p, b, d'⟩).map Ob.p) = ρ.o.map Ob.p := by
      rw [List.map_set]
      have z : (ρ.o.map Ob.p)[k]? = some p := by rw [List.getElem?_map, hk]; rfl
      obtain ⟨hl, z2⟩ := List.getElem?_eq_some_iff.mp z
      show (ρ.o.map Ob.p).set k p = _
      exact List.ext_getElem? fun i => by
        by_cases hi : k = i
        · subst hi
          rw [List.getElem?_set_self hl, z]
        · rw [List.getElem?_set_ne hi]
    have h := c.nd
    rw [← List.pairwise_map (f := Ob.p) (R := fun a b => a ≠ b)] at h ⊢
    rw [e]
    exact h
/-- since the entry (H0, F0): only what is at M may have changed; one's own objects are new, or at M -/
structure Bs (M : List Addr) (H0 F0 B H F : Hp) (γ : List Ob) : Prop where
  h : ∀ a o, H0 a = some o → a ∉ M → H a = some o
  f : Same F0 F
  fb : Same B F
  ex : Same F H
  pr : ∀ p o, H0 p = some o → F0 p = none → F p = none
  th : ∀ a o, H0 a = some o → ∃ u, H a = some u
  nw : ∀ q ∈ γ, (q.nw = true → H0 q.p = none) ∧ (q.nw = false → q.p ∈ M)
theorem Bs.mono {M : List Addr} {H0 F0 B H F H' F' : Hp} {γ : List Ob} (b : Bs M H0 F0 B H F γ) (l : Le H F H' F') : Bs M H0 F0 B H' F' γ :=
  ⟨fun a o h n => l.h _ _ (b.h a o h n), b.f.trans l.f, b.fb.trans l.f, l.ex, fun p o h n => let ⟨u, hu⟩ := b.th p o h; l.pr p u hu (b.pr p o h n), fun a o h => let ⟨u, hu⟩ := b.th a o h; ⟨u, l.h _ _ hu⟩, b.nw⟩
theorem Bs.sub {M : List Addr} {H0 F0 B H F : Hp} {γ γ' : List Ob} (b : Bs M H0 F0 B H F γ) (w : ∀ q ∈ γ', q ∈ γ) : Bs M H0 F0 B H F γ' := ⟨b.h, b.f, b.fb, b.ex, b.pr, b.th, fun q hq => b.nw q (w q hq)⟩
theorem Bs.wk {M : List Addr} {H0 F0 B H F : Hp} {ρ ρ' : En} (b : Bs M H0 F0 B H F ρ.o) (w : Wk ρ ρ') : Bs M H0 F0 B H F ρ'.o := b.sub fun q hq => w.o.sub.subset hq
/-- .. a new object of one's own -/
theorem Bs.addO {M : List Addr} {H0 F0 B H F : Hp} {γ : List Ob} (b : Bs M H0 F0 B H F γ) {p : Addr} {d : D} (n : H0 p = none) : Bs M H0 F0 B H F (γ ++ [⟨p, true, d⟩]) :=
  ⟨b.h, b.f, b.fb, b.ex, b.pr, b.th, fun q hq => by
    rcases List.mem_append.mp hq with h | h
    · exact b.nw q h
    · have e : q = ⟨p, true, d⟩ := by simpa using h
      subst e
      exact ⟨fun _ => n, fun z => nomatch z⟩⟩
theorem Bs.free {M : List Addr} {H0 F0 B H F : Hp} {γ : List Ob} (b : Bs M H0 F0 B H F γ) {p : Addr} (n : H p = none) : H0 p = none := by
  cases e : H0 p with
  | none => rfl
  | some o =>
    obtain ⟨u, hu⟩ := b.th p o e
    rw [n] at hu
    cases hu
theorem Bs.change {K : PySem.W.Frag} {M : List Addr} {H0 F0 B H F : Hp} {ρ : En} {σ : L2.St} {d d' : D} {p : Addr} {nb : Bool} {o : HO} (b : Bs M H0 F0 B H F ρ.o) (c : Cf K H F ρ σ) {k : Nat} (hk : ρ.o[k]? = some ⟨p, nb, d⟩) :
    Bs M H0 F0 B (upd H p o) F (ρ.o.set k ⟨p, nb, d'⟩) := by
  have hf := (c.ownAt hk).1
  have hn := b.nw _ (List.mem_of_getElem? hk)
  refine ⟨fun a u h n => ?_, b.f, b.fb, same_mut c.ex hf, b.pr, fun a u h => ?_, fun q hq => ?_⟩
  · have hap : a ≠ p := fun z => by
      subst z
      cases nb with
      | true =>
        have := hn.1 rfl
        rw [h] at this
        cases this
      | false => exact n (hn.2 rfl)
    rw [upd_ne hap]
    exact b.h a u h n
  · by_cases hap : a = p
    · subst hap
      exact ⟨_, upd_same⟩
    · rw [upd_ne hap]
      exact b.th a u h
  · rcases set_mem hq with e | ⟨j, _, e⟩
    · subst e
      exact hn
    · exact b.nw q (List.mem_of_getElem? e)
/-- an object stands from now on -/
theorem Bs.fz {K : PySem.W.Frag} {M : List Addr} {H0 F0 B H F : Hp} {ρ : En} {σ : L2.St} {d : D} {p : Addr} {u : HO} (b : Bs M H0 F0 B H F ρ.o) (c : Cf K H F ρ σ) {k : Nat} (hk : ρ.o[k]? = some ⟨p, true, d⟩) (hu : H p = some u) :
    Cf K H (upd F p u) ⟨ρ.o.eraseIdx k, ρ.s⟩ σ ∧ Bs M H0 F0 B H (upd F p u) (ρ.o.eraseIdx k) := by
  obtain ⟨hf, _⟩ := c.ownAt hk
  have hn := (b.nw _ (List.mem_of_getElem? hk)).1 rfl
  have sf : Same F (upd F p u) := same_new hf
  have ex : Same (upd F p u) H := fun a o h => by
    by_cases ha : a = p
    · subst ha
      rw [upd_same] at h
      rw [hu]
      exact h
    · rw [upd_ne ha] at h
      exact c.ex a o h
  have sub : ∀ q ∈ ρ.o.eraseIdx k, q ∈ ρ.o ∧ q.p ≠ p := fun q hq => by
    obtain ⟨j, hj, e⟩ := List.mem_eraseIdx_iff_getElem?.mp hq
    exact ⟨List.mem_of_getElem? e, pw_ne c.nd e hk hj⟩
  refine ⟨⟨ex, c.len, fun i d e => ?_, fun q hq => ?_, c.nd.sublist (List.eraseIdx_sublist ..)⟩, ⟨b.h, b.f.trans sf, b.fb.trans sf, ex, fun a o h n => ?_, b.th, fun q hq => b.nw q (sub q hq).1⟩⟩
  · obtain ⟨v, h1, h2⟩ := c.sl i d e
    exact ⟨v, h1, h2.mono sf⟩
  · obtain ⟨h1, h2⟩ := sub q hq
    obtain ⟨h3, h4⟩ := c.own q h1
    exact ⟨by rw [upd_ne h2]; exact h3, h4.mono rfl sf⟩
  · have hap : a ≠ p := fun z => by
      subst z
      rw [h] at hn
      cases hn
    rw [upd_ne hap]
    exact b.pr a o h n
theorem Bs.down {M : List Addr} {H0 F0 B B' H F : Hp} {γ : List Ob} (b : Bs M H0 F0 B H F γ) (s : Same B' B) : Bs M H0 F0 B' H F γ := ⟨b.h, b.f, s.trans b.fb, b.ex, b.pr, b.th, b.nw⟩
theorem Bs.up {M : List Addr} {H0 F0 B H F : Hp} {γ : List Ob} (b : Bs M H0 F0 B H F γ) : Bs M H0 F0 F H F γ := ⟨b.h, b.f, Same.refl F, b.ex, b.pr, b.th, b.nw⟩
end DL
/-! DLb: what an expression is worth, by data: WE (it stands), WB (as it is just now), WN (a new object of one's own), WT (a test), WA (arguments). -/
namespace DL
open PySem PySem.Spec PyProof.Rows L2

section
variable {X : Cx} {e : Expr} {st : Stmt} {σ : L2.St} {H : Hp}
/-- the widest readings -/
def sE (X : Cx) (e : Expr) : TE := fun σ H Q => ∀ (pins : List (Addr × Obj)) (s : Shared), Inv X pins σ H s → wpAny (model X.prog X.w) X.A (eval e X.env) (EP X pins σ Q) X.xe s
def sT (X : Cx) (e : Expr) : TT := fun σ H Q => ∀ (pins : List (Addr × Obj)) (s : Shared), Inv X pins σ H s → wpAny (model X.prog X.w) X.A (isTrue e X.env (eval e X.env)) (TP X pins σ Q) X.xe s
def sW (X : Cx) (e : Expr) : TT := fun σ H Q => ∀ (whole : Sem Value) (pins : List (Addr × Obj)) (s : Shared), Inv X pins σ H s → wpAny (model X.prog X.w) X.A (isTrue e X.env whole) (TP X pins σ Q) X.xe s
def sA (X : Cx) (es : List Expr) : TA := fun σ H Q => ∀ (pos : Pos) (pins : List (Addr × Obj)) (s : Shared), Inv X pins σ H s → wpAny (model X.prog X.w) X.A (spliced (backTo pos (starEach es X.env))) (AP X pins σ Q) X.xe s
theorem pe_s : PE X e (sE X e) := ⟨fun pins s _ _ _ I h => h pins s I⟩
theorem pt_s : PT X e (sT X e) := ⟨fun pins s _ _ _ I h => h pins s I⟩
theorem pw_s : PW X e (sW X e) := ⟨fun whole pins s _ _ _ I h => h whole pins s I⟩
theorem pa_s {es : List Expr} : PA X es (sA X es) := ⟨fun pos pins s _ _ _ I h => h pos pins s I⟩
theorem pe_to {t : TE} {Q : VK} (h : PE X e t) (q : t σ H Q) : sE X e σ H Q := fun pins s I => h.run pins s σ H Q I q
theorem pt_to {t : TT} {Q : Bool → Hp → Prop} (h : PT X e t) (q : t σ H Q) : sT X e σ H Q := fun pins s I => h.run pins s σ H Q I q
theorem pw_to {t : TT} {Q : Bool → Hp → Prop} (h : PW X e t) (q : t σ H Q) : sW X e σ H Q := fun whole pins s I => h.run whole pins s σ H Q I q
theorem pa_to {es : List Expr} {t : TA} {Q : List V → Hp → Prop} (h : PA X es t) (q : t σ H Q) : sA X es σ H Q := fun pos pins s I => h.run pos pins s σ H Q I q
end

def WE (X : Cx) (e : Expr) (ρ : En) (d : D) : Prop := ∀ (H F : Hp) (σ : L2.St), Cf X.K H F ρ σ → ∀ Q : VK, (∀ v H' F', Le H F H' F' → Rep X.K F' d v → Q v H') → sE X e σ H Q
def WB (X : Cx) (e : Expr) (ρ : En) (d : D) : Prop := ∀ (H F : Hp) (σ : L2.St), Cf X.K H F ρ σ → ∀ Q : VK, (∀ v H' F', Le H F H' F' → Rep X.K H' d v → Q v H') → sE X e σ H Q
def WN (X : Cx) (e : Expr) (ρ : En) (d : D) : Prop := ∀ (H F : Hp) (σ : L2.St), Cf X.K H F ρ σ → ∀ Q : VK, (∀ p H' F', Le H F H' F' → H p = none → F' p = none → OwnOk X.K H' F' d p → Q (.ref p) H') → sE X e σ H Q
def WT (X : Cx) (e : Expr) (ρ : En) (b : Bool) : Prop := ∀ (H F : Hp) (σ : L2.St), Cf X.K H F ρ σ → ∀ Q : Bool → Hp → Prop, (∀ H' F', Le H F H' F' → Q b H') → sT X e σ H Q
def WW (X : Cx) (e : Expr) (ρ : En) (b : Bool) : Prop := ∀ (H F : Hp) (σ : L2.St), Cf X.K H F ρ σ → ∀ Q : Bool → Hp → Prop, (∀ H' F', Le H F H' F' → Q b H') → sW X e σ H Q
def WA (X : Cx) (es : List Expr) (ρ : En) (ds : List D) : Prop := ∀ (H F : Hp) (σ : L2.St), Cf X.K H F ρ σ → ∀ Q : List V → Hp → Prop, (∀ vs H' F', Le H F H' F' → RepL X.K F' ds vs → Q vs H') → sA X es σ H Q
/-- arguments as they are just now -/
def WAB (X : Cx) (es : List Expr) (ρ : En) (ds : List D) : Prop := ∀ (H F : Hp) (σ : L2.St), Cf X.K H F ρ σ → ∀ Q : List V → Hp → Prop, (∀ vs H' F', Le H F H' F' → RepL X.K H' ds vs → Q vs H') → sA X es σ H Q

section
variable {X : Cx} {e a b c : Expr} {es : List Expr} {ρ : En} {d : D} {pos : Pos} {x : Str}
theorem wb_of (h : WE X e ρ d) : WB X e ρ d := fun H F σ c Q q => h H F σ c Q fun v H' F' l r => q v H' F' l (r.mono l.ex)
theorem we_sc (h : WB X e ρ d) (hd : d.sc = true) : WE X e ρ d := fun H F σ c Q q => h H F σ c Q fun v H' F' l r => q v H' F' l (r.sc hd)
theorem wb_wn (h : WN X e ρ d) : WB X e ρ d := fun H F σ c Q q => h H F σ c Q fun p H' F' l _ _ o => q (.ref p) H' F' l (o.rep l.ex)
/-- a new object stands from now on -/
theorem we_wn (h : WN X e ρ d) : WE X e ρ d := fun H F σ c Q q => h H F σ c Q fun p H' F' l hn hf o => by
  obtain ⟨u, hu, r⟩ := o.fz hf
  exact q _ _ _ (l.freeze hn hu) r

/-! ### names, constants -/
theorem we_int {i : Int} {j : Nat} : WE X (.Constant (.int i) j pos) ρ (.int i) := fun H F σ c Q q => pe_to pe_int (q _ H F (Le.refl c.ex) (.int i))
theorem we_bl {i : Bool} {j : Nat} : WE X (.Constant (.bool i) j pos) ρ (.bl i) := fun H F σ c Q q => pe_to pe_bl (q _ H F (Le.refl c.ex) (.bl i))
theorem we_non {j : Nat} : WE X (.Constant .none j pos) ρ .non := fun H F σ c Q q => pe_to pe_non (q _ H F (Le.refl c.ex) .non)
theorem we_str {s : Str} {j : Nat} : WE X (.Constant (.str s) j pos) ρ (.str s) := fun H F σ c Q q => pe_to pe_str (q _ H F (Le.refl c.ex) (.str s))
theorem we_var (i : Nat) (hN : X.N[i]? = some x) (hv : Vis X.env.scope x) (hi : ρ.s[i]? = some (some d)) (hd : (x == ("__debug__" : Str)) = false := by decide) (hcd : (x == ("__classdict__" : Str)) = false := by decide) : WE X (.Name x pos) ρ d :=
  fun H F σ c Q q => let ⟨v, h1, h2⟩ := c.sl i d hi; pe_to (pe_var hN hv hd hcd) ⟨v, h1, q v H F (Le.refl c.ex) h2⟩
/-- one's own object, as it is just now -/
theorem wb_own {p : Addr} {nb : Bool} (k : Nat) (h : WE X e ρ (.ref p)) (hk : ρ.o[k]? = some ⟨p, nb, d⟩) : WB X e ρ d :=
  fun H F σ c Q q => h H F σ c Q fun v H' F' l r => by
    cases r
    obtain ⟨h1, h2⟩ := (c.mono l).ownAt hk
    exact q _ H' F' l (h2.rep l.ex)
theorem we_glI {i : Int} {t : Tok} (hm : X.mg x = some (.int i t)) (hg : Gl X x := by rfl) (hd : (x == ("__debug__" : Str)) = false := by decide) : WE X (.Name x pos) ρ (.int i) :=
  fun H F σ c Q q => pe_to (pe_glob hg hm (v := .int i) ⟨t, rfl⟩ hd) (q _ H F (Le.refl c.ex) (.int i))
theorem we_glS {s : Str} {t : Tok} (hm : X.mg x = some (.str s t)) (hg : Gl X x := by rfl) (hd : (x == ("__debug__" : Str)) = false := by decide) : WE X (.Name x pos) ρ (.str s) :=
  fun H F σ c Q q => pe_to (pe_glob hg hm (v := .str s) ⟨t, rfl⟩ hd) (q _ H F (Le.refl c.ex) (.str s))
theorem we_glC {C : Addr} (hm : X.mg x = some (.ref C)) (hg : Gl X x := by rfl) (hd : (x == ("__debug__" : Str)) = false := by decide) : WE X (.Name x pos) ρ (.ref C) :=
  fun H F σ c Q q => pe_to (pe_glob hg hm (v := .ref C) rfl hd) (q _ H F (Le.refl c.ex) (.ref C))
theorem we_glT {n : String} (hm : X.mg x = none) (hv : bootBuiltins x = some (.type n)) (hg : Gl X x := by rfl) (hn : x ≠ "__name__" := by decide) (hd : (x == ("__debug__" : Str)) = false := by decide) : WE X (.Name x pos) ρ (.ty n) :=
  fun H F σ c Q q => pe_to (pe_bltn hg hm hv (v := .ty n) rfl hn hd) (q _ H F (Le.refl c.ex) (.ty n))

/-! ### arguments -/
theorem wa_nil : WA X [] ρ [] := fun H F σ c Q q => pa_to pa_nil (q _ H F (Le.refl c.ex) .nil)
theorem wa_cons {ds : List D} (ha : WE X a ρ d) (hr : WA X es ρ ds) (hs : starEach (a :: es) X.env = (false, eval a X.env) :: starEach es X.env := by rfl) : WA X (a :: es) ρ (d :: ds) :=
  fun H F σ c Q q => pa_to (pa_cons pe_s pa_s hs) (ha H F σ c _ fun v H1 F1 l1 r1 => hr H1 F1 σ (c.mono l1) _ fun vs H2 F2 l2 r2 => q _ H2 F2 (l1.trans l2) (.cons (r1.mono l2.f) r2))
theorem wab_of {ds : List D} (h : WA X es ρ ds) : WAB X es ρ ds := fun H F σ c Q q => h H F σ c Q fun vs H' F' l r => q vs H' F' l (r.mono l.ex)
theorem wab_nil : WAB X [] ρ [] := wab_of wa_nil
theorem wab_cons {ds : List D} (ha : WB X a ρ d) (hr : WAB X es ρ ds) (hs : starEach (a :: es) X.env = (false, eval a X.env) :: starEach es X.env := by rfl) : WAB X (a :: es) ρ (d :: ds) :=
  fun H F σ c Q q => pa_to (pa_cons pe_s pa_s hs) (ha H F σ c _ fun v H1 F1 l1 r1 => hr H1 F1 σ (c.mono l1) _ fun vs H2 F2 l2 r2 => q _ H2 F2 (l1.trans l2) (.cons (r1.mono l2.h) r2))

/-! ### operators -/
theorem we_op {op : Operator} {r : R2} {y z w : D} (ho : OpR X (binaryOp op) r) (ha : WB X a ρ y) (hb : WB X b ρ z) (hw : w.sc = true)
    (hr : ∀ (H : Hp) u v, Rep X.K H y u → Rep X.K H z v → ∀ Q : VK, (∀ t, Rep X.K H w t → Q t H) → r u v H Q) : WE X (.BinOp a op b pos) ρ w :=
  fun H F σ c Q q => pe_to (pe_op ho pe_s pe_s) (ha H F σ c _ fun u H1 F1 l1 r1 => hb H1 F1 σ (c.mono l1) _ fun v H2 F2 l2 r2 => hr H2 u v (r1.mono l2.h) r2 Q fun t rt => q t H2 F2 (l1.trans l2) (rt.sc hw))
theorem rI0_of {g : Int → Int → V} {i j : Int} {K : PySem.W.Frag} {w : D} {H : Hp} {u v : V} {Q : VK} (hg : Rep K H w (g i j)) (ru : Rep K H (.int i) u) (rv : Rep K H (.int j) v) (q : ∀ t, Rep K H w t → Q t H) : rI0 g u v H Q := by
  cases ru
  cases rv
  exact ⟨i, j, rfl, rfl, q _ hg⟩
theorem rI_of {g : Int → Int → V} {C : Int → Int → Prop} {i j : Int} {K : PySem.W.Frag} {w : D} {H : Hp} {u v : V} {Q : VK} (hc : C i j) (hg : Rep K H w (g i j)) (ru : Rep K H (.int i) u) (rv : Rep K H (.int j) v) (q : ∀ t, Rep K H w t → Q t H) : rI C g u v H Q := by
  cases ru
  cases rv
  exact ⟨i, j, rfl, rfl, hc, q _ hg⟩
variable {i j : Int}
theorem we_add (ha : WB X a ρ (.int i)) (hb : WB X b ρ (.int j)) : WE X (.BinOp a .Add b pos) ρ (.int (i + j)) := we_op op_add ha hb rfl fun _ _ _ ru rv _ q => rI0_of (.int _) ru rv q
theorem we_sub (ha : WB X a ρ (.int i)) (hb : WB X b ρ (.int j)) : WE X (.BinOp a .Sub b pos) ρ (.int (i - j)) := we_op op_sub ha hb rfl fun _ _ _ ru rv _ q => rI0_of (.int _) ru rv q
theorem we_mul (ha : WB X a ρ (.int i)) (hb : WB X b ρ (.int j)) (hc : CMul i j) : WE X (.BinOp a .Mult b pos) ρ (.int (i * j)) := we_op op_mul ha hb rfl fun _ _ _ ru rv _ q => rI_of hc (.int _) ru rv q
theorem we_fdiv (ha : WB X a ρ (.int i)) (hb : WB X b ρ (.int j)) (hc : CDiv i j) : WE X (.BinOp a .FloorDiv b pos) ρ (.int (i / j)) := we_op op_fdiv ha hb rfl fun _ _ _ ru rv _ q => rI_of hc (.int _) ru rv q
theorem we_mod (ha : WB X a ρ (.int i)) (hb : WB X b ρ (.int j)) (hc : 0 < j) : WE X (.BinOp a .Mod b pos) ρ (.int (i % j)) := we_op op_mod ha hb rfl fun _ _ _ ru rv _ q => rI_of (C := fun _ j => 0 < j) hc (.int _) ru rv q
theorem we_pow (ha : WB X a ρ (.int i)) (hb : WB X b ρ (.int j)) (hc : CPow i j) : WE X (.BinOp a .Pow b pos) ρ (.int (i ^ j.toNat)) := we_op op_pow ha hb rfl fun _ _ _ ru rv _ q => rI_of hc (.int _) ru rv q
theorem we_neg (ha : WB X a ρ (.int i)) : WE X (.UnaryOp .USub a pos) ρ (.int (-i)) :=
  fun H F σ c Q q => pe_to (pe_un un_neg pe_s) (ha H F σ c _ fun u H1 F1 l1 r1 => by cases r1; exact ⟨i, rfl, q _ H1 F1 l1 (.int _)⟩)
theorem we_adds {s t : Str} (ha : WB X a ρ (.str s)) (hb : WB X b ρ (.str t)) (hl : s.length + t.length ≤ sizeLine) : WE X (.BinOp a .Add b pos) ρ (.str (s ++ t)) :=
  we_op op_add_str ha hb rfl fun _ _ _ ru rv _ q => by
    cases ru
    cases rv
    exact ⟨s, t, rfl, rfl, hl, q _ (.str _)⟩

/-! ### comparisons: as a value and as a test -/
theorem wc_op {op : CmpOp} {r : R2} {y z : D} {k : Bool} (ho : OpR X (compareOp op) r) (ha : WB X a ρ y) (hb : WB X b ρ z) (hm : behindInMarks op b = false)
    (hr : ∀ (H : Hp) u v, Rep X.K H y u → Rep X.K H z v → ∀ Q : VK, Q (.bl k) H → r u v H Q) : WE X (.Compare a [op] [b] pos) ρ (.bl k) ∧ WT X (.Compare a [op] [b] pos) ρ k :=
  ⟨fun H F σ c Q q => pe_to (pe_cmpR ho pe_s pe_s hm) (ha H F σ c _ fun u H1 F1 l1 r1 => hb H1 F1 σ (c.mono l1) _ fun v H2 F2 l2 r2 => hr H2 u v (r1.mono l2.h) r2 Q (q _ H2 F2 (l1.trans l2) (.bl k))),
   fun H F σ c Q q => pt_to (pt_cmpR ho pe_s pe_s hm) (ha H F σ c _ fun u H1 F1 l1 r1 => hb H1 F1 σ (c.mono l1) _ fun v H2 F2 l2 r2 => hr H2 u v (r1.mono l2.h) r2 _ ⟨k, rfl, q H2 F2 (l1.trans l2)⟩)⟩
theorem rB0_of {g : Int → Int → V} {i j : Int} {K : PySem.W.Frag} {H : Hp} {u v : V} {Q : VK} (ru : Rep K H (.int i) u) (rv : Rep K H (.int j) v) (q : Q (g i j) H) : rI0 g u v H Q := by
  cases ru
  cases rv
  exact ⟨i, j, rfl, rfl, q⟩
theorem wc_lt (ha : WB X a ρ (.int i)) (hb : WB X b ρ (.int j)) : WE X (.Compare a [.Lt] [b] pos) ρ (.bl (decide (i < j))) ∧ WT X (.Compare a [.Lt] [b] pos) ρ (decide (i < j)) := wc_op op_lt ha hb (nomark _) fun _ _ _ ru rv _ q => rB0_of ru rv q
theorem wc_le (ha : WB X a ρ (.int i)) (hb : WB X b ρ (.int j)) : WE X (.Compare a [.LtE] [b] pos) ρ (.bl (decide (i ≤ j))) ∧ WT X (.Compare a [.LtE] [b] pos) ρ (decide (i ≤ j)) := wc_op op_le ha hb (nomark _) fun _ _ _ ru rv _ q => rB0_of ru rv q
theorem wc_gt (ha : WB X a ρ (.int i)) (hb : WB X b ρ (.int j)) : WE X (.Compare a [.Gt] [b] pos) ρ (.bl (decide (j < i))) ∧ WT X (.Compare a [.Gt] [b] pos) ρ (decide (j < i)) := wc_op op_gt ha hb (nomark _) fun _ _ _ ru rv _ q => rB0_of ru rv q
theorem wc_ge (ha : WB X a ρ (.int i)) (hb : WB X b ρ (.int j)) : WE X (.Compare a [.GtE] [b] pos) ρ (.bl (decide (j ≤ i))) ∧ WT X (.Compare a [.GtE] [b] pos) ρ (decide (j ≤ i)) := wc_op op_ge ha hb (nomark _) fun _ _ _ ru rv _ q => rB0_of ru rv q
theorem wc_eqI (ha : WB X a ρ (.int i)) (hb : WB X b ρ (.int j)) : WE X (.Compare a [.Eq] [b] pos) ρ (.bl (decide (i = j))) ∧ WT X (.Compare a [.Eq] [b] pos) ρ (decide (i = j)) :=
  wc_op op_eq ha hb (nomark _) fun _ _ _ ru rv _ q => by
    cases ru
    cases rv
    exact ⟨rfl, by rw [dec_int, Bool.beq_eq_decide_eq]; exact q⟩
theorem wc_neI (ha : WB X a ρ (.int i)) (hb : WB X b ρ (.int j)) : WE X (.Compare a [.NotEq] [b] pos) ρ (.bl (!decide (i = j))) ∧ WT X (.Compare a [.NotEq] [b] pos) ρ (!decide (i = j)) :=
  wc_op op_ne ha hb (nomark _) fun _ _ _ ru rv _ q => by
    cases ru
    cases rv
    exact ⟨rfl, by rw [dec_int, Bool.beq_eq_decide_eq]; exact q⟩
theorem wc_eqS {s t : Str} (ha : WB X a ρ (.str s)) (hb : WB X b ρ (.str t)) : WE X (.Compare a [.Eq] [b] pos) ρ (.bl (decide (s = t))) ∧ WT X (.Compare a [.Eq] [b] pos) ρ (decide (s = t)) :=
  wc_op op_eq ha hb (nomark _) fun _ _ _ ru rv _ q => by
    cases ru
    cases rv
    refine ⟨rfl, ?_⟩
    have h : decide (V.str s = V.str t) = decide (s = t) := by
      by_cases h : s = t
      · subst h; simp
      · rw [decide_eq_false h, decide_eq_false fun z => h (V.str.inj z)]
    rw [h]
    exact q
/-- is None -/
def D.isNon : D → Bool
  | .non => true
  | _ => false
theorem isNon_of {K : PySem.W.Frag} {H : Hp} {d : D} {v : V} (r : Rep K H d v) (h : ∀ x, d ≠ .any ∨ x = v) (ha : d ≠ .any) : decide (v = .non) = d.isNon := by
  cases r <;> first | rfl | exact absurd rfl ha
theorem wc_isN {y : D} {k : Nat} {p' : Pos} (ha : WB X a ρ y) (hy : y ≠ .any := by intro z; cases z) : WE X (.Compare a [.Is] [.Constant .none k p'] pos) ρ (.bl y.isNon) ∧ WT X (.Compare a [.Is] [.Constant .none k p'] pos) ρ y.isNon :=
  wc_op op_isN ha (wb_of we_non) (nomark _) fun _ _ _ ru rv _ q => by
    cases rv
    exact ⟨rfl, by rw [isNon_of ru (fun _ => .inl hy) hy]; exact q⟩
theorem wc_notN {y : D} {k : Nat} {p' : Pos} (ha : WB X a ρ y) (hy : y ≠ .any := by intro z; cases z) : WE X (.Compare a [.IsNot] [.Constant .none k p'] pos) ρ (.bl (!y.isNon)) ∧ WT X (.Compare a [.IsNot] [.Constant .none k p'] pos) ρ (!y.isNon) :=
  wc_op op_notN ha (wb_of we_non) (nomark _) fun _ _ _ ru rv _ q => by
    cases rv
    exact ⟨rfl, by rw [isNon_of ru (fun _ => .inl hy) hy]; exact q⟩
/-- a chain of two -/
theorem wc_chain {op op' : CmpOp} {g g' : Int → Int → Bool} {k : Int} (ho : OpR X (compareOp op) (rI0 fun i j => .bl (g i j))) (ho' : OpR X (compareOp op') (rI0 fun i j => .bl (g' i j))) (ha : WB X a ρ (.int i)) (hb : WB X b ρ (.int j)) (hc : WB X c ρ (.int k))
    (hm : lastMarks [op, op'] [b, c] = false := by with_unfolding_all rfl) : WE X (.Compare a [op, op'] [b, c] pos) ρ (.bl (g i j && g' j k)) ∧ WT X (.Compare a [op, op'] [b, c] pos) ρ (g i j && g' j k) := by
  have main : ∀ (H F : Hp) (σ : L2.St), Cf X.K H F ρ σ → ∀ Q : VK, (∀ H' F', Le H F H' F' → Q (.bl (g i j && g' j k)) H') → tChain (rI0 fun i j => .bl (g i j)) (rI0 fun i j => .bl (g' i j)) (sE X a) (sE X b) (sE X c) σ H Q := by
    intro H F σ cf Q q
    refine ha H F σ cf _ fun u H1 F1 l1 r1 => hb H1 F1 σ (cf.mono l1) _ fun v H2 F2 l2 r2 => ?_
    cases r1
    cases r2
    refine ⟨i, j, rfl, rfl, g i j, rfl, ?_⟩
    cases e : g i j with
    | false =>
      rw [if_neg Bool.false_ne_true]
      have := q H2 F2 (l1.trans l2)
      rw [e] at this
      exact this
    | true =>
      rw [if_pos rfl]
      refine hc H2 F2 σ (cf.mono (l1.trans l2)) _ fun z H3 F3 l3 r3 => ?_
      cases r3
      refine ⟨j, k, rfl, rfl, ?_⟩
      have := q H3 F3 ((l1.trans l2).trans l3)
      rw [e] at this
      exact this
  exact ⟨fun H F σ cf Q q => pe_to (pe_chain ho ho' pe_s pe_s pe_s hm) (main H F σ cf Q fun H' F' l => q _ H' F' l (.bl _)),
    fun H F σ cf Q q => pt_to (pt_chain ho ho' pe_s pe_s pe_s hm) (main H F σ cf _ fun H' F' l => ⟨_, rfl, q H' F' l⟩)⟩
theorem wc_leLe {k : Int} (ha : WB X a ρ (.int i)) (hb : WB X b ρ (.int j)) (hc : WB X c ρ (.int k)) (hm : lastMarks [.LtE, .LtE] [b, c] = false := by with_unfolding_all rfl) :
    WE X (.Compare a [.LtE, .LtE] [b, c] pos) ρ (.bl (decide (i ≤ j) && decide (j ≤ k))) ∧ WT X (.Compare a [.LtE, .LtE] [b, c] pos) ρ (decide (i ≤ j) && decide (j ≤ k)) := wc_chain op_le op_le ha hb hc hm

/-! ### and, or, not, if -/
theorem we_one {op : BoolOp} (h : WE X a ρ d) : WE X (.BoolOp op [a] pos) ρ d := fun H F σ c Q q => pe_to (pe_one pe_s) (h H F σ c Q q)
theorem we_and {p q : Bool} {rest : List Expr} (ha : WE X a ρ (.bl p)) (hb : p = true → WE X (.BoolOp .And (b :: rest) pos) ρ (.bl q)) : WE X (.BoolOp .And (a :: b :: rest) pos) ρ (.bl (p && q)) :=
  fun H F σ c Q k => pe_to (pe_and pe_s pe_s) (ha H F σ c _ fun u H1 F1 l1 r1 => by
    cases r1
    refine ⟨p, rfl, ?_⟩
    cases p with
    | false => exact iteF (k _ H1 F1 l1 (.bl false))
    | true => exact iteT (hb rfl H1 F1 σ (c.mono l1) Q fun v H2 F2 l2 r2 => k v H2 F2 (l1.trans l2) r2))
theorem we_or {p q : Bool} {rest : List Expr} (ha : WE X a ρ (.bl p)) (hb : p = false → WE X (.BoolOp .Or (b :: rest) pos) ρ (.bl q)) : WE X (.BoolOp .Or (a :: b :: rest) pos) ρ (.bl (p || q)) :=
  fun H F σ c Q k => pe_to (pe_or pe_s pe_s) (ha H F σ c _ fun u H1 F1 l1 r1 => by
    cases r1
    refine ⟨p, rfl, ?_⟩
    cases p with
    | true => exact iteT (k _ H1 F1 l1 (.bl true))
    | false => exact iteF (hb rfl H1 F1 σ (c.mono l1) Q fun v H2 F2 l2 r2 => k v H2 F2 (l1.trans l2) r2))
theorem we_not {p : Bool} (ha : WE X a ρ (.bl p)) : WE X (.UnaryOp .Not a pos) ρ (.bl (!p)) :=
  fun H F σ c Q k => pe_to (pe_not pe_s) (ha H F σ c _ fun u H1 F1 l1 r1 => by cases r1; exact ⟨p, rfl, k _ H1 F1 l1 (.bl _)⟩)
theorem ww_and1 {p : Bool} (ha : WT X a ρ p) : WW X (.BoolOp .And [a] pos) ρ p := fun H F σ c Q q => pw_to (pw_and1 pt_s) (ha H F σ c Q q)
theorem ww_or1 {p : Bool} (ha : WT X a ρ p) : WW X (.BoolOp .Or [a] pos) ρ p := fun H F σ c Q q => pw_to (pw_or1 pt_s) (ha H F σ c Q q)
theorem ww_and {p q : Bool} {rest : List Expr} (ha : WT X a ρ p) (hb : p = true → WW X (.BoolOp .And (b :: rest) pos) ρ q) : WW X (.BoolOp .And (a :: b :: rest) pos) ρ (p && q) :=
  fun H F σ c Q k => pw_to (pw_and pt_s pw_s) (ha H F σ c _ fun H1 F1 l1 => by
    cases p with
    | false => exact iteF (k H1 F1 l1)
    | true => exact iteT (hb rfl H1 F1 σ (c.mono l1) Q fun H2 F2 l2 => k H2 F2 (l1.trans l2)))
theorem ww_or {p q : Bool} {rest : List Expr} (ha : WT X a ρ p) (hb : p = false → WW X (.BoolOp .Or (b :: rest) pos) ρ q) : WW X (.BoolOp .Or (a :: b :: rest) pos) ρ (p || q) :=
  fun H F σ c Q k => pw_to (pw_or pt_s pw_s) (ha H F σ c _ fun H1 F1 l1 => by
    cases p with
    | true => exact iteT (k H1 F1 l1)
    | false => exact iteF (hb rfl H1 F1 σ (c.mono l1) Q fun H2 F2 l2 => k H2 F2 (l1.trans l2)))
theorem wt_w {p : Bool} (h : WW X a ρ p) : WT X a ρ p := fun H F σ c Q q => pt_to pw_s.pt (h H F σ c Q q)
theorem wt_not {p : Bool} (ha : WT X a ρ p) : WT X (.UnaryOp .Not a pos) ρ (!p) := fun H F σ c Q q => pt_to (pt_not pt_s) (ha H F σ c _ fun H1 F1 l1 => q H1 F1 l1)
theorem we_if {p : Bool} (hc : WT X c ρ p) (ha : p = true → WE X a ρ d) (hb : p = false → WE X b ρ d) : WE X (.IfExp c a b pos) ρ d :=
  fun H F σ cf Q q => pe_to (pe_ifExp pt_s pe_s pe_s) (hc H F σ cf _ fun H1 F1 l1 => by
    cases p with
    | true => exact iteT (ha rfl H1 F1 σ (cf.mono l1) Q fun v H2 F2 l2 r => q v H2 F2 (l1.trans l2) r)
    | false => exact iteF (hb rfl H1 F1 σ (cf.mono l1) Q fun v H2 F2 l2 r => q v H2 F2 (l1.trans l2) r))
/-- a test that is a value -/
theorem wt_val {p : Bool} (h : WB X a ρ (.bl p)) (he : ∀ whole, isTrue a X.env whole = (do let v ← whole; standAt a.pos; holding [v] (truthy v)) := by intro _; rfl) : WT X a ρ p :=
  fun H F σ c Q q => pt_to (pt_val pe_s he) (h H F σ c _ fun u H1 F1 l1 r1 => by cases r1; exact ⟨p, rfl, q H1 F1 l1⟩)
/-- a list's or tuple's truth -/
theorem wt_lst {ds : List D} (h : WB X a ρ (.lst ds)) (he : ∀ whole, isTrue a X.env whole = (do let v ← whole; standAt a.pos; holding [v] (truthy v)) := by intro _; rfl) : WT X a ρ (!ds.isEmpty) :=
  fun H F σ c Q q => pt_to (pt_truth pe_s he) (h H F σ c _ fun u H1 F1 l1 r1 => by
    cases r1 with
    | lst s r =>
      refine ⟨_, .inl ⟨_, .inl s, rfl⟩, ?_⟩
      have e : (!ds.isEmpty) = _ := rfl
      cases r with
      | nil => exact q H1 F1 l1
      | cons _ _ => exact q H1 F1 l1)

/-! ### displays -/
theorem we_tup {ds : List D} {k : Nat} (h : WA X es ρ ds) (hl : ds.length ≤ sizeLine := by (show _ ≤ sizeLine; decide)) : WE X (.Tuple es k pos) ρ (.tup ds) :=
  fun H F σ c Q q => pe_to (pe_tup pa_s) (h H F σ c _ fun vs H1 F1 l1 r1 => ⟨by rw [← r1.length]; exact hl, fun p hp => q _ _ _ (l1.trans (Le.new l1.ex hp)) (.tup upd_same (r1.mono (same_new (l1.ex.free hp))))⟩)
theorem wn_lst {ds : List D} (h : WA X es ρ ds) (hl : ds.length ≤ sizeLine := by (show _ ≤ sizeLine; decide)) : WN X (.List es pos) ρ (.lst ds) :=
  fun H F σ c Q q => pe_to (pe_lst pa_s) (h H F σ c _ fun vs H1 F1 l1 r1 => ⟨by rw [← r1.length]; exact hl, fun p hp => q p _ F1 (l1.trans (Le.newO l1.ex hp)) (l1.h.free hp) (l1.ex.free hp) (.lst upd_same r1)⟩)
theorem wn_dK : WN X (.Dict [] [] pos) ρ (.dK []) := fun H F σ c Q q => pe_to pe_dnewK fun p hp => q p _ F (Le.newO c.ex hp) hp (c.ex.free hp) (.dK upd_same .nil)
theorem wn_dT : WN X (.Dict [] [] pos) ρ (.dT []) := fun H F σ c Q q => pe_to pe_dnewT fun p hp => q p _ F (Le.newO c.ex hp) hp (c.ex.free hp) (.dT upd_same .nil)

/-! ### items, slices, len -/
theorem atI_rep {K : PySem.W.Frag} {H : Hp} {ds : List D} {vs : List V} {i : Int} {d : D} (r : RepL K H ds vs) (h : atI ds i = some d) : ∃ v, atI vs i = some v ∧ Rep K H d v := by
  unfold atI at h ⊢
  rw [← r.length]
  cases e : ixN ds.length i with
  | none =>
    rw [e] at h
    cases h
  | some j =>
    rw [e] at h
    exact r.get h
theorem we_ixL {ds : List D} (ha : WE X a ρ (.lst ds)) (hb : WB X b ρ (.int i)) (hi : atI ds i = some d) (hs : PlainIx b := by exact fun _ _ => rfl) : WE X (.Subscript a b pos) ρ d :=
  fun H F σ c Q q => pe_to (pe_ix ix_list pe_s pe_s hs) (ha H F σ c _ fun u H1 F1 l1 r1 => hb H1 F1 σ (c.mono l1) _ fun v H2 F2 l2 r2 => by
    cases r2
    cases r1 with
    | lst s r =>
      obtain ⟨w, hw, rw'⟩ := atI_rep r hi
      exact ⟨_, _, i, w, rfl, rfl, .inl (same_rd (l1.ex.trans l2.h) s), hw, q w H2 F2 (l1.trans l2) (rw'.mono l2.f)⟩)
theorem we_ixT {ds : List D} (ha : WE X a ρ (.tup ds)) (hb : WB X b ρ (.int i)) (hi : atI ds i = some d) (hs : PlainIx b := by exact fun _ _ => rfl) : WE X (.Subscript a b pos) ρ d :=
  fun H F σ c Q q => pe_to (pe_ix ix_tup pe_s pe_s hs) (ha H F σ c _ fun u H1 F1 l1 r1 => hb H1 F1 σ (c.mono l1) _ fun v H2 F2 l2 r2 => by
    cases r2
    cases r1 with
    | tup s r =>
      obtain ⟨w, hw, rw'⟩ := atI_rep r hi
      exact ⟨_, _, i, w, rfl, rfl, .inl (.inl ((l1.ex.trans l2.h) _ _ s)), hw, q w H2 F2 (l1.trans l2) (rw'.mono l2.f)⟩)
theorem wb_ixL {ds : List D} (ha : WB X a ρ (.lst ds)) (hb : WB X b ρ (.int i)) (hi : atI ds i = some d) (hs : PlainIx b := by exact fun _ _ => rfl) : WB X (.Subscript a b pos) ρ d :=
  fun H F σ c Q q => pe_to (pe_ix ix_list pe_s pe_s hs) (ha H F σ c _ fun u H1 F1 l1 r1 => hb H1 F1 σ (c.mono l1) _ fun v H2 F2 l2 r2 => by
    cases r2
    cases r1 with
    | lst s r =>
      obtain ⟨w, hw, rw'⟩ := atI_rep r hi
      exact ⟨_, _, i, w, rfl, rfl, .inl (same_rd l2.h s), hw, q w H2 F2 (l1.trans l2) (rw'.mono l2.h)⟩)
theorem wb_ixT {ds : List D} (ha : WB X a ρ (.tup ds)) (hb : WB X b ρ (.int i)) (hi : atI ds i = some d) (hs : PlainIx b := by exact fun _ _ => rfl) : WB X (.Subscript a b pos) ρ d :=
  fun H F σ c Q q => pe_to (pe_ix ix_tup pe_s pe_s hs) (ha H F σ c _ fun u H1 F1 l1 r1 => hb H1 F1 σ (c.mono l1) _ fun v H2 F2 l2 r2 => by
    cases r2
    cases r1 with
    | tup s r =>
      obtain ⟨w, hw, rw'⟩ := atI_rep r hi
      exact ⟨_, _, i, w, rfl, rfl, .inl (.inl (l2.h _ _ s)), hw, q w H2 F2 (l1.trans l2) (rw'.mono l2.h)⟩)
/-- an item of a list of one's own: it stands itself -/
theorem we_ixO {ds : List D} {p : Addr} {nb : Bool} (k : Nat) (ha : WE X a ρ (.ref p)) (hk : ρ.o[k]? = some ⟨p, nb, .lst ds⟩) (hb : WB X b ρ (.int i)) (hi : atI ds i = some d) (hs : PlainIx b := by exact fun _ _ => rfl) : WE X (.Subscript a b pos) ρ d :=
  fun H F σ c Q q => pe_to (pe_ix ix_list pe_s pe_s hs) (ha H F σ c _ fun u H1 F1 l1 r1 => hb H1 F1 σ (c.mono l1) _ fun v H2 F2 l2 r2 => by
    cases r2
    cases r1
    obtain ⟨h1, h2⟩ := ((c.mono l1).mono l2).ownAt hk
    cases h2 with
    | lst hp r =>
      obtain ⟨w, hw, rw'⟩ := atI_rep r hi
      exact ⟨p, _, i, w, rfl, rfl, .inl (.inl hp), hw, q w H2 F2 (l1.trans l2) rw'⟩)
theorem we_ixS {s : Str} {k : Nat} (ha : WB X a ρ (.str s)) (hb : WB X b ρ (.int i)) (hl : s.length ≤ sizeLine) (hi : atI s.cps.toList i = some k) (hs : PlainIx b := by exact fun _ _ => rfl) : WE X (.Subscript a b pos) ρ (.str ⟨#[k]⟩) :=
  fun H F σ c Q q => pe_to (pe_ix ix_str pe_s pe_s hs) (ha H F σ c _ fun u H1 F1 l1 r1 => hb H1 F1 σ (c.mono l1) _ fun v H2 F2 l2 r2 => by
    cases r2
    cases r1
    exact ⟨s, i, k, rfl, rfl, hl, hi, q _ H2 F2 (l1.trans l2) (.str _)⟩)
/-- bounds of a slice -/
def WO (X : Cx) (e : Option Expr) (ρ : En) (o : Option Int) : Prop := ∃ t : TO, PO X e t ∧ ∀ (H F : Hp) (σ : L2.St), Cf X.K H F ρ σ → ∀ Q : Option Int → Hp → Prop, (∀ H' F', Le H F H' F' → Q o H') → t σ H Q
theorem wo_none : WO X none ρ none := ⟨_, po_none, fun H F σ c Q q => q H F (Le.refl c.ex)⟩
theorem wo_some (h : WB X a ρ (.int i)) : WO X (some a) ρ (some i) := ⟨_, po_some pe_s, fun H F σ c Q q => h H F σ c _ fun u H1 F1 l1 r1 => by cases r1; exact ⟨i, rfl, q H1 F1 l1⟩⟩
def cutD {α : Type} (ds : List α) (lo hi : Option Int) : List α := (ds.drop (HT.sIx ds.length 0 lo)).take (HT.sIx ds.length ds.length hi - HT.sIx ds.length 0 lo)
theorem cut_rep {K : PySem.W.Frag} {H : Hp} {ds : List D} {vs : List V} (r : RepL K H ds vs) (lo hi : Option Int) : RepL K H (cutD ds lo hi) (cutV vs lo hi) := by
  unfold cutD cutV
  rw [← r.length]
  exact (r.drop _).take _
theorem wn_slL {ds : List D} {lo hi : Option Expr} {l h : Option Int} {p2 : Pos} (ha : WE X a ρ (.lst ds)) (hl : WO X lo ρ l) (hh : WO X hi ρ h) : WN X (.Subscript a (.Slice lo hi none p2) pos) ρ (.lst (cutD ds l h)) :=
  fun H F σ c Q q => by
    obtain ⟨t1, P1, h1⟩ := hl
    obtain ⟨t2, P2, h2⟩ := hh
    refine pe_to (pe_slice sl_list pe_s P1 P2) (ha H F σ c _ fun u H1 F1 l1 r1 => h1 H1 F1 σ (c.mono l1) _ fun H2 F2 l2 => h2 H2 F2 σ ((c.mono l1).mono l2) _ fun H3 F3 l3 => ?_)
    cases r1 with
    | lst s r =>
      have l : Le H F H3 F3 := (l1.trans l2).trans l3
      refine ⟨_, _, rfl, .inl (same_rd ((l1.ex.trans l2.h).trans l3.h) s), fun p hp => q p _ F3 (l.trans (Le.newO l.ex hp)) (l.h.free hp) (l.ex.free hp) (.lst upd_same ((cut_rep r _ _).mono (l2.f.trans l3.f)))⟩
def cutT (s : Str) (lo hi : Option Int) : Str := ⟨(cutD s.cps.toList lo hi).toArray⟩
theorem wc_len {p' : Pos} {ds : List D} (ha : WB X a ρ (.lst ds)) (hm : X.mg "len" = none) (hg : Gl X "len" := by rfl) (he : starEach [a] X.env = [(false, eval a X.env)] := by rfl) : WE X (.Call (.Name "len" p') [a] [] pos) ρ (.int (ds.length : Int)) :=
  fun H F σ c Q q => pe_to (pe_callB call_len_seq hg hm PySem.boot_len pa_s (he := he) (hpl := rfl)) (wab_cons (ds := []) ha wab_nil he H F σ c _ fun vs H1 F1 l1 r1 => by
    cases r1 with
    | cons r1 r2 =>
      cases r2
      cases r1 with
      | lst s r =>
        refine ⟨_, _, rfl, .inl (.inl s), ?_⟩
        rw [← r.length]
        exact q _ H1 F1 l1 (.int _))
theorem wc_lenT {p' : Pos} {ds : List D} (ha : WB X a ρ (.tup ds)) (hm : X.mg "len" = none) (hg : Gl X "len" := by rfl) (he : starEach [a] X.env = [(false, eval a X.env)] := by rfl) : WE X (.Call (.Name "len" p') [a] [] pos) ρ (.int (ds.length : Int)) :=
  fun H F σ c Q q => pe_to (pe_callB call_len_seq hg hm PySem.boot_len pa_s (he := he) (hpl := rfl)) (wab_cons (ds := []) ha wab_nil he H F σ c _ fun vs H1 F1 l1 r1 => by
    cases r1 with
    | cons r1 r2 =>
      cases r2
      cases r1 with
      | tup s r =>
        refine ⟨_, _, rfl, .inr (.inl (.inl s)), ?_⟩
        rw [← r.length]
        exact q _ H1 F1 l1 (.int _))
theorem wc_lenS {p' : Pos} {s : Str} (ha : WB X a ρ (.str s)) (hm : X.mg "len" = none) (hl : s.length ≤ sizeLine) (hg : Gl X "len" := by rfl) (he : starEach [a] X.env = [(false, eval a X.env)] := by rfl) : WE X (.Call (.Name "len" p') [a] [] pos) ρ (.int (s.length : Int)) :=
  fun H F σ c Q q => pe_to (pe_callB call_len_str hg hm PySem.boot_len pa_s (he := he) (hpl := rfl)) (wab_cons (ds := []) ha wab_nil he H F σ c _ fun vs H1 F1 l1 r1 => by
    cases r1 with
    | cons r1 r2 =>
      cases r2
      cases r1
      exact ⟨s, rfl, hl, q _ H1 F1 l1 (.int _)⟩)
/-- list(xs), list(t), tuple(xs), tuple(t) -/
theorem wn_listL {p' : Pos} {ds : List D} (ha : WE X a ρ (.lst ds)) (hm : X.mg "list" = none) (hg : Gl X "list" := by rfl) (he : starEach [a] X.env = [(false, eval a X.env)] := by rfl) : WN X (.Call (.Name "list" p') [a] [] pos) ρ (.lst ds) :=
  fun H F σ c Q q => pe_to (pe_callTy call_list_of hg hm (by decide +kernel) pa_s (he := he) (hpl := rfl)) (wa_cons (ds := []) ha wa_nil he H F σ c _ fun vs H1 F1 l1 r1 => by
    cases r1 with
    | cons r1 r2 =>
      cases r2
      cases r1 with
      | lst s r => exact ⟨_, _, rfl, .inl (.inl (same_rd l1.ex s)), fun p hp => q p _ F1 (l1.trans (Le.newO l1.ex hp)) (l1.h.free hp) (l1.ex.free hp) (.lst upd_same r)⟩)
theorem wn_listT {p' : Pos} {ds : List D} (ha : WE X a ρ (.tup ds)) (hm : X.mg "list" = none) (hg : Gl X "list" := by rfl) (he : starEach [a] X.env = [(false, eval a X.env)] := by rfl) : WN X (.Call (.Name "list" p') [a] [] pos) ρ (.lst ds) :=
  fun H F σ c Q q => pe_to (pe_callTy call_list_of hg hm (by decide +kernel) pa_s (he := he) (hpl := rfl)) (wa_cons (ds := []) ha wa_nil he H F σ c _ fun vs H1 F1 l1 r1 => by
    cases r1 with
    | cons r1 r2 =>
      cases r2
      cases r1 with
      | tup s r => exact ⟨_, _, rfl, .inr (.inl (.inl (l1.ex _ _ s))), fun p hp => q p _ F1 (l1.trans (Le.newO l1.ex hp)) (l1.h.free hp) (l1.ex.free hp) (.lst upd_same r)⟩)
theorem we_tupleL {p' : Pos} {ds : List D} (ha : WE X a ρ (.lst ds)) (hm : X.mg "tuple" = none) (hg : Gl X "tuple" := by rfl) (he : starEach [a] X.env = [(false, eval a X.env)] := by rfl) : WE X (.Call (.Name "tuple" p') [a] [] pos) ρ (.tup ds) :=
  fun H F σ c Q q => pe_to (pe_callTy call_tuple_of hg hm (by decide +kernel) pa_s (he := he) (hpl := rfl)) (wa_cons (ds := []) ha wa_nil he H F σ c _ fun vs H1 F1 l1 r1 => by
    cases r1 with
    | cons r1 r2 =>
      cases r2
      cases r1 with
      | lst s r => exact ⟨_, _, rfl, .inl ⟨.inl (same_rd l1.ex s), fun p hp => q _ _ _ (l1.trans (Le.new l1.ex hp)) (.tup upd_same (r.mono (same_new (l1.ex.free hp))))⟩⟩)
theorem we_tupleT {p' : Pos} {ds : List D} (ha : WE X a ρ (.tup ds)) (hm : X.mg "tuple" = none) (hg : Gl X "tuple" := by rfl) (he : starEach [a] X.env = [(false, eval a X.env)] := by rfl) : WE X (.Call (.Name "tuple" p') [a] [] pos) ρ (.tup ds) :=
  fun H F σ c Q q => pe_to (pe_callTy call_tuple_of hg hm (by decide +kernel) pa_s (he := he) (hpl := rfl)) (wa_cons (ds := []) ha wa_nil he H F σ c _ fun vs H1 F1 l1 r1 => by
    cases r1 with
    | cons r1 r2 =>
      cases r2
      cases r1 with
      | tup s r => exact ⟨_, _, rfl, .inr ⟨.inl (.inl (l1.ex _ _ s)), q _ _ F1 l1 (.tup s r)⟩⟩)
/-- tuple(xs), xs of one's own -/
theorem we_tupleO {p' : Pos} {ds : List D} {p : Addr} {nb : Bool} (k : Nat) (ha : WE X a ρ (.ref p)) (hk : ρ.o[k]? = some ⟨p, nb, .lst ds⟩) (hm : X.mg "tuple" = none) (hg : Gl X "tuple" := by rfl) (he : starEach [a] X.env = [(false, eval a X.env)] := by rfl) : WE X (.Call (.Name "tuple" p') [a] [] pos) ρ (.tup ds) :=
  fun H F σ c Q q => pe_to (pe_callTy call_tuple_of hg hm (by decide +kernel) pa_s (he := he) (hpl := rfl)) (wa_cons (ds := []) ha wa_nil he H F σ c _ fun vs H1 F1 l1 r1 => by
    cases r1 with
    | cons r1 r2 =>
      cases r2
      cases r1
      obtain ⟨h1, h2⟩ : F1 p = none ∧ OwnOk X.K H1 F1 (.lst ds) p := (c.mono l1).ownAt hk
      cases h2 with
      | lst hp r => exact ⟨_, _, rfl, .inl ⟨.inl (.inl hp), fun p hp => q _ _ _ (l1.trans (Le.new l1.ex hp)) (.tup upd_same (r.mono (same_new (l1.ex.free hp))))⟩⟩)
/-- list(xs), xs of one's own -/
theorem wn_listO {p' : Pos} {ds : List D} {p : Addr} {nb : Bool} (k : Nat) (ha : WE X a ρ (.ref p)) (hk : ρ.o[k]? = some ⟨p, nb, .lst ds⟩) (hm : X.mg "list" = none) (hg : Gl X "list" := by rfl) (he : starEach [a] X.env = [(false, eval a X.env)] := by rfl) : WN X (.Call (.Name "list" p') [a] [] pos) ρ (.lst ds) :=
  fun H F σ c Q q => pe_to (pe_callTy call_list_of hg hm (by decide +kernel) pa_s (he := he) (hpl := rfl)) (wa_cons (ds := []) ha wa_nil he H F σ c _ fun vs H1 F1 l1 r1 => by
    cases r1 with
    | cons r1 r2 =>
      cases r2
      cases r1
      obtain ⟨h1, h2⟩ : F1 p = none ∧ OwnOk X.K H1 F1 (.lst ds) p := (c.mono l1).ownAt hk
      cases h2 with
      | lst hp r => exact ⟨_, _, rfl, .inl (.inl (.inl hp)), fun p hp => q p _ F1 (l1.trans (Le.newO l1.ex hp)) (l1.h.free hp) (l1.ex.free hp) (.lst upd_same r)⟩)
end
end DL
/-! DLc: isinstance, sums, dicts read, fields, calls; what is walked; comprehensions; statements. -/
namespace DL
open PySem PySem.Spec PyProof.Rows L2

/-! ### isinstance -/
def D.tag : D → Option String
  | .non => some "NoneType" | .bl _ => some "bool" | .int _ => some "int" | .str _ => some "str"
  | .lst _ => some "list" | .tup _ => some "tuple" | .dK _ => some "dict" | .dT _ => some "dict"
  | _ => none
theorem tyx_of {K : PySem.W.Frag} {H : Hp} {d : D} {v : V} {t : String} (r : Rep K H d v) (h : d.tag = some t) : TyX K H v (.type t) := by
  cases r with
  | non => cases h; exact .base .non
  | bl b => cases h; exact .base (.bl b)
  | int i => cases h; exact .base (.int i)
  | str x => cases h; exact .base (.str x)
  | ty n => cases h
  | ref a => cases h
  | any v => cases h
  | ins _ _ => cases h
  | ext _ => cases h
  | lst s _ =>
    cases h
    rcases s with s | ⟨o, s⟩
    · exact .base (.lst s)
    · exact .base (.frz s)
  | tup s _ =>
    cases h
    exact .base (.tup s)
  | dK s _ => cases h; exact .base (.dK s)
  | dT s _ => cases h; exact .base (.dT s)
def kitBs (a : String) : List String → Option Bool
  | [] => some false
  | T :: r => match kitB a T with
    | some true => some true
    | some false => kitBs a r
    | none => none
theorem kitBs_any {K : PySem.W.Frag} {a : String} : ∀ {ts : List String} {b : Bool}, kitBs a ts = some b → PySem.W.kitAny K (.type a) (ts.map Value.type) = some b
  | [], b, h => by
    cases h
    exact kitAny_nil
  | T :: r, b, h => by
    unfold kitBs at h
    cases e : kitB a T with
    | none =>
      rw [e] at h
      cases h
    | some k =>
      rw [e] at h
      cases k with
      | true =>
        cases h
        exact kitAny_cons (kit_ty e) (fun z => nomatch z) fun _ => rfl
      | false => exact kitAny_cons (kit_ty e) (fun _ => kitBs_any h) fun z => nomatch z
/-- what the fragment's deciders say of an own class -/
structure ClsTy (K : PySem.W.Frag) (C : Addr) : Prop where
  cl : Cls K C
  ha : PySem.W.findIn K (.ref C) "__class__" = some (some (.builtin "object.__class__"))
  hn : PySem.W.specialIn K (.builtin "object.__class__") "__get__" = some (some (.builtin "getset_descriptor.__get__"))
  ht : PySem.W.takesIn K (.builtin "object.__class__") = some true
  hm : PySem.W.mroIn K C (.type "object") = some true

section
variable {X : Cx} {e a b c : Expr} {es : List Expr} {ρ : En} {d : D} {pos : Pos} {x : Str}
theorem we_isB {t T : String} {y : D} {k : Bool} {p' : Pos} (ha : WB X a ρ y) (hc : WB X c ρ (.ty T)) (hy : y.tag = some t) (hk : kitB t T = some k) (hm : X.mg "isinstance" = none) (hg : Gl X "isinstance" := by rfl) (he : starEach [a, c] X.env = (false, eval a X.env) :: starEach [c] X.env := by rfl) (he2 : starEach [c] X.env = (false, eval c X.env) :: starEach [] X.env := by rfl) (hpl : (backTo pos (starEach [c] X.env)).any (·.1) = false := by rfl) :
    WE X (.Call (.Name "isinstance" p') [a, c] [] pos) ρ (.bl k) :=
  fun H F σ cf Q q => pe_to (pe_callB call_isi hg hm (by decide +kernel) pa_s (he := he) (hpl := hpl)) (wab_cons ha (wab_cons hc wab_nil he2) he H F σ cf _ fun vs H1 F1 l1 r1 => by
    cases r1 with
    | cons r1 r2 =>
      cases r2 with
      | cons r2 r3 =>
        cases r3
        cases r2
        exact ⟨_, _, _, _, k, rfl, .ty T, tyx_of r1 hy, kit_ty hk, q _ H1 F1 l1 (.bl k)⟩)
theorem tys_of {K : PySem.W.Frag} {H : Hp} : ∀ {ts : List String} {vs : List V}, RepL K H (ts.map D.ty) vs → Paired ClsV vs (ts.map Value.type)
  | [], _, r => by cases r; exact .nil
  | t :: ts, _, r => by
    cases r with
    | cons r1 r2 =>
      cases r1
      exact .cons (.ty t) (tys_of r2)
theorem we_isT {t : String} {ts : List String} {y : D} {k : Bool} {p' p2 : Pos} {kk : Nat} (ha : WB X a ρ y) (hc : WAB X es ρ (ts.map D.ty)) (hy : y.tag = some t) (hk : kitBs t ts = some k) (hm : X.mg "isinstance" = none) (hl : ts.length ≤ sizeLine := by (show _ ≤ sizeLine; decide)) (hg : Gl X "isinstance" := by rfl)
    (he : starEach [a, .Tuple es kk p2] X.env = (false, eval a X.env) :: starEach [.Tuple es kk p2] X.env := by rfl) (he2 : starEach [.Tuple es kk p2] X.env = (false, eval (.Tuple es kk p2) X.env) :: starEach [] X.env := by rfl) (hpl : (backTo pos (starEach [.Tuple es kk p2] X.env)).any (·.1) = false := by rfl) :
    WE X (.Call (.Name "isinstance" p') [a, .Tuple es kk p2] [] pos) ρ (.bl k) :=
  fun H F σ cf Q q => pe_to (pe_callB call_isiT hg hm (by decide +kernel) (pa_cons pe_s (pa_cons (pe_tup pa_s) pa_nil he2) he) (he := he) (hpl := hpl)) (ha H F σ cf _ fun u H1 F1 l1 r1 => hc H1 F1 σ (cf.mono l1) _ fun vs H2 F2 l2 r2 => by
    refine ⟨by rw [← r2.length, List.length_map]; exact hl, fun p hp => ?_⟩
    have l := (l1.trans l2).trans (Le.new l2.ex hp (o := .tup vs))
    exact ⟨u, p, vs, _, _, k, rfl, upd_same, tys_of r2, tyx_of (r1.mono (l2.h.trans (same_new hp))) hy, kitBs_any hk, q _ _ _ l (.bl k)⟩)
/-- isinstance(x, C), x an instance of an own class -/
theorem we_isC {C C' : Addr} {fs : List (Str × D)} {k : Bool} {p' : Pos} (ha : WB X a ρ (.ins C fs)) (hc : WB X c ρ (.ref C')) (T : ClsTy X.K C) (hk : PySem.W.kitOne X.K (.ref C) (.ref C') = some k) (hm : X.mg "isinstance" = none) (hg : Gl X "isinstance" := by rfl) (he : starEach [a, c] X.env = (false, eval a X.env) :: starEach [c] X.env := by rfl) (he2 : starEach [c] X.env = (false, eval c X.env) :: starEach [] X.env := by rfl) (hpl : (backTo pos (starEach [c] X.env)).any (·.1) = false := by rfl) :
    WE X (.Call (.Name "isinstance" p') [a, c] [] pos) ρ (.bl k) :=
  fun H F σ cf Q q => pe_to (pe_callB call_isi hg hm (by decide +kernel) pa_s (he := he) (hpl := hpl)) (wab_cons ha (wab_cons hc wab_nil he2) he H F σ cf _ fun vs H1 F1 l1 r1 => by
    cases r1 with
    | cons r1 r2 =>
      cases r2 with
      | cons r2 r3 =>
        cases r3
        cases r2
        cases r1 with
        | ins h r => exact ⟨_, _, _, _, k, rfl, .own C', .base (.ins h T.cl T.ha T.hn T.ht T.hm), hk, q _ H1 F1 l1 (.bl k)⟩)
/-- isinstance(x, C), x of a built-in type -/
theorem we_isN {C' : Addr} {y : D} {t : String} {k : Bool} {p' : Pos} (ha : WB X a ρ y) (hc : WB X c ρ (.ref C')) (hy : y.tag = some t) (hk : PySem.W.kitOne X.K (.type t) (.ref C') = some k) (hm : X.mg "isinstance" = none) (hg : Gl X "isinstance" := by rfl) (he : starEach [a, c] X.env = (false, eval a X.env) :: starEach [c] X.env := by rfl) (he2 : starEach [c] X.env = (false, eval c X.env) :: starEach [] X.env := by rfl) (hpl : (backTo pos (starEach [c] X.env)).any (·.1) = false := by rfl) :
    WE X (.Call (.Name "isinstance" p') [a, c] [] pos) ρ (.bl k) :=
  fun H F σ cf Q q => pe_to (pe_callB call_isi hg hm (by decide +kernel) pa_s (he := he) (hpl := hpl)) (wab_cons ha (wab_cons hc wab_nil he2) he H F σ cf _ fun vs H1 F1 l1 r1 => by
    cases r1 with
    | cons r1 r2 =>
      cases r2 with
      | cons r2 r3 =>
        cases r3
        cases r2
        exact ⟨_, _, _, _, k, rfl, .own C', tyx_of r1 hy, hk, q _ H1 F1 l1 (.bl k)⟩)

/-! ### sum, all, any, abs, str -/
theorem repL_ints {K : PySem.W.Frag} {H : Hp} : ∀ {ns : List Int} {vs : List V}, RepL K H (ns.map D.int) vs → vs = ns.map V.int
  | [], _, r => by cases r; rfl
  | n :: ns, _, r => by
    cases r with
    | cons r1 r2 =>
      cases r1
      rw [repL_ints r2]
      rfl
theorem repL_bls {K : PySem.W.Frag} {H : Hp} : ∀ {ns : List Bool} {vs : List V}, RepL K H (ns.map D.bl) vs → vs = ns.map V.bl
  | [], _, r => by cases r; rfl
  | n :: ns, _, r => by
    cases r with
    | cons r1 r2 =>
      cases r1
      rw [repL_bls r2]
      rfl
theorem repL_strs {K : PySem.W.Frag} {H : Hp} : ∀ {ns : List Str} {vs : List V}, RepL K H (ns.map D.str) vs → vs = ns.map V.str
  | [], _, r => by cases r; rfl
  | n :: ns, _, r => by
    cases r with
    | cons r1 r2 =>
      cases r1
      rw [repL_strs r2]
      rfl
theorem we_sum {ns : List Int} {p' : Pos} (ha : WB X a ρ (.lst (ns.map D.int))) (hm : X.mg "sum" = none) (hc : X.calm = true := by rfl) (hg : Gl X "sum" := by rfl) (he : starEach [a] X.env = [(false, eval a X.env)] := by rfl) : WE X (.Call (.Name "sum" p') [a] [] pos) ρ (.int ns.sum) :=
  fun H F σ c Q q => pe_to (pe_callB (cr_sum hc) hg hm (by decide +kernel) pa_s (he := he) (hpl := rfl)) (wab_cons (ds := []) ha wab_nil he H F σ c _ fun vs H1 F1 l1 r1 => by
    cases r1 with
    | cons r1 r2 =>
      cases r2
      cases r1 with
      | lst s r =>
        have e := repL_ints r
        subst e
        exact ⟨_, ns, rfl, .inl s, q _ H1 F1 l1 (.int _)⟩)
theorem we_all {bs : List Bool} {p' : Pos} (ha : WB X a ρ (.lst (bs.map D.bl))) (hm : X.mg "all" = none) (hc : X.calm = true := by rfl) (hg : Gl X "all" := by rfl) (he : starEach [a] X.env = [(false, eval a X.env)] := by rfl) : WE X (.Call (.Name "all" p') [a] [] pos) ρ (.bl (bs.all id)) :=
  fun H F σ c Q q => pe_to (pe_callB (cr_all hc) hg hm (by decide +kernel) pa_s (he := he) (hpl := rfl)) (wab_cons (ds := []) ha wab_nil he H F σ c _ fun vs H1 F1 l1 r1 => by
    cases r1 with
    | cons r1 r2 =>
      cases r2
      cases r1 with
      | lst s r =>
        have e := repL_bls r
        subst e
        exact ⟨_, bs, rfl, .inl s, q _ H1 F1 l1 (.bl _)⟩)
theorem we_abs {i : Int} {p' : Pos} (ha : WB X a ρ (.int i)) (hm : X.mg "abs" = none) (hg : Gl X "abs" := by rfl) (he : starEach [a] X.env = [(false, eval a X.env)] := by rfl) : WE X (.Call (.Name "abs" p') [a] [] pos) ρ (.int (if i < 0 then -i else i)) :=
  fun H F σ c Q q => pe_to (pe_callB call_abs hg hm (by decide +kernel) pa_s (he := he) (hpl := rfl)) (wab_cons (ds := []) ha wab_nil he H F σ c _ fun vs H1 F1 l1 r1 => by
    cases r1 with
    | cons r1 r2 =>
      cases r2
      cases r1
      exact ⟨i, rfl, q _ H1 F1 l1 (.int _)⟩)
theorem we_max {i j : Int} {p' : Pos} (ha : WB X a ρ (.int i)) (hb : WB X b ρ (.int j)) (hm : X.mg "max" = none) (hc : X.calm = true := by rfl) (hg : Gl X "max" := by rfl) (he : starEach [a, b] X.env = (false, eval a X.env) :: starEach [b] X.env := by rfl) (he2 : starEach [b] X.env = (false, eval b X.env) :: starEach [] X.env := by rfl) (hpl : (backTo pos (starEach [b] X.env)).any (·.1) = false := by rfl) :
    WE X (.Call (.Name "max" p') [a, b] [] pos) ρ (.int (if j > i then j else i)) :=
  fun H F σ c Q q => pe_to (pe_callB (call_max2 hc) hg hm (by decide +kernel) pa_s (he := he) (hpl := hpl)) (wab_cons ha (wab_cons (ds := []) hb wab_nil he2) he H F σ c _ fun vs H1 F1 l1 r1 => by
    cases r1 with
    | cons r1 r2 =>
      cases r2 with
      | cons r2 r3 =>
        cases r3
        cases r1
        cases r2
        exact ⟨i, j, rfl, q _ H1 F1 l1 (.int _)⟩)
theorem we_strI {i : Int} {p' : Pos} (ha : WB X a ρ (.int i)) (hm : X.mg "str" = none) (hi : i.natAbs.log2 < 1920) (hg : Gl X "str" := by rfl) (he : starEach [a] X.env = [(false, eval a X.env)] := by rfl) : WE X (.Call (.Name "str" p') [a] [] pos) ρ (.str (toString i)) :=
  fun H F σ c Q q => pe_to (pe_callTy call_str_int hg hm (by decide +kernel) pa_s (he := he) (hpl := rfl)) (wab_cons (ds := []) ha wab_nil he H F σ c _ fun vs H1 F1 l1 r1 => by
    cases r1 with
    | cons r1 r2 =>
      cases r2
      cases r1
      exact ⟨i, rfl, hi, q _ H1 F1 l1 (.str _)⟩)

/-! ### in -/
/-- one sign in a text -/
theorem wc_inSign {s : Str} {k : Nat} (ha : WB X a ρ (.str ⟨#[k]⟩)) (hb : WB X b ρ (.str s)) (hm : behindInMarks .In b = false := by rfl) : WE X (.Compare a [.In] [b] pos) ρ (.bl (decide (k ∈ s.cps.toList))) ∧ WT X (.Compare a [.In] [b] pos) ρ (decide (k ∈ s.cps.toList)) :=
  wc_op op_in_sign ha hb hm fun _ _ _ ru rv _ q => by
    cases ru
    cases rv
    exact ⟨k, s, rfl, rfl, q⟩
def D.flat : D → Bool
  | .non => true | .bl _ => true | .int _ => true | .str _ => true
  | _ => false
/-- the value of flat data -/
def D.val : D → V
  | .non => .non | .bl b => .bl b | .int i => .int i | .str x => .str x
  | _ => .non
theorem Rep.val {K : PySem.W.Frag} {H : Hp} {d : D} {v : V} (r : Rep K H d v) (h : d.flat = true) : v = d.val ∧ flatV v = true := by
  cases r <;> first | exact ⟨rfl, rfl⟩ | cases h
theorem RepL.vals {K : PySem.W.Frag} {H : Hp} : ∀ {ds : List D} {vs : List V}, RepL K H ds vs → ds.all D.flat = true → vs = ds.map D.val ∧ vs.all flatV = true
  | _, _, .nil, _ => ⟨rfl, rfl⟩
  | _, _, .cons r t, h => by
    rw [List.all_cons, Bool.and_eq_true] at h
    obtain ⟨h1, h2⟩ := r.val h.1
    obtain ⟨h3, h4⟩ := RepL.vals t h.2
    exact ⟨by rw [h1, h3] <;> rfl, by rw [List.all_cons, h2, h4] <;> rfl⟩
theorem wc_inL {ds : List D} {y : D} (ha : WB X a ρ y) (hb : WB X b ρ (.lst ds)) (hy : y.flat = true) (hf : ds.all D.flat = true) (hm : behindInMarks .In b = false := by rfl) :
    WE X (.Compare a [.In] [b] pos) ρ (.bl (inV y.val (ds.map D.val))) ∧ WT X (.Compare a [.In] [b] pos) ρ (inV y.val (ds.map D.val)) :=
  wc_op op_in_seq ha hb hm fun _ _ _ ru rv _ q => by
    cases rv with
    | lst s r =>
      obtain ⟨h1, h2⟩ := ru.val hy
      obtain ⟨h3, h4⟩ := r.vals hf
      refine ⟨_, _, rfl, .inl (.inl s), h2, h4, ?_⟩
      rw [h3, h1]
      exact q
theorem wc_ninL {ds : List D} {y : D} (ha : WB X a ρ y) (hb : WB X b ρ (.lst ds)) (hy : y.flat = true) (hf : ds.all D.flat = true) (hm : behindInMarks .NotIn b = false := by rfl) :
    WE X (.Compare a [.NotIn] [b] pos) ρ (.bl (!inV y.val (ds.map D.val))) ∧ WT X (.Compare a [.NotIn] [b] pos) ρ (!inV y.val (ds.map D.val)) :=
  wc_op op_notIn_seq ha hb hm fun _ _ _ ru rv _ q => by
    cases rv with
    | lst s r =>
      obtain ⟨h1, h2⟩ := ru.val hy
      obtain ⟨h3, h4⟩ := r.vals hf
      refine ⟨_, _, rfl, .inl (.inl s), h2, h4, ?_⟩
      rw [h3, h1]
      exact q

/-! ### dicts as tables of data -/
section
variable {κ : Type} [DecidableEq κ]
def getD' (kvs : List (κ × D)) (k : κ) : Option D := (kvs.find? fun kv => decide (kv.1 = k)).map (·.2)
def putD (kvs : List (κ × D)) (k : κ) (v : D) : List (κ × D) :=
  if (kvs.any fun kv => decide (kv.1 = k)) = true then kvs.map (fun kv => if kv.1 = k then (kv.1, v) else kv) else kvs ++ [(k, v)]
end
theorem repK_get {K : PySem.W.Frag} {H : Hp} (k : Key) : ∀ {ds : List (Key × D)} {vs : List (Key × V)}, RepK K H ds vs → (getD' ds k = none ∧ valV vs k = none) ∨ ∃ d v, getD' ds k = some d ∧ valV vs k = some v ∧ Rep K H d v
  | _, _, .nil => .inl ⟨rfl, rfl⟩
  | _, _, .cons (k := k') (d := d) (v := v) (ds := ds) (vs := vs) r t => by
    by_cases e : k' = k
    · exact .inr ⟨d, v, by simp [getD', List.find?_cons, e], valV_pos e, r⟩
    · have h1 : getD' ((k', d) :: ds) k = getD' ds k := by simp [getD', List.find?_cons, e]
      have h2 : valV ((k', v) :: vs) k = valV vs k := valV_neg e
      rw [h1, h2]
      exact repK_get k t
theorem repK_any {K : PySem.W.Frag} {H : Hp} (k : Key) : ∀ {ds : List (Key × D)} {vs : List (Key × V)}, RepK K H ds vs → (ds.any fun kv => decide (kv.1 = k)) = (vs.any fun kv => decide (kv.1 = k))
  | _, _, .nil => rfl
  | _, _, .cons r t => by rw [List.any_cons, List.any_cons, repK_any k t]
theorem repK_len {K : PySem.W.Frag} {H : Hp} : ∀ {ds : List (Key × D)} {vs : List (Key × V)}, RepK K H ds vs → ds.length = vs.length
  | _, _, .nil => rfl
  | _, _, .cons r t => by rw [List.length_cons, List.length_cons, repK_len t]
theorem repK_map {d : D} {v : V} {K : PySem.W.Frag} {H : Hp} (k : Key) (rv : Rep K H d v) : ∀ {ds : List (Key × D)} {vs : List (Key × V)}, RepK K H ds vs → RepK K H (ds.map fun kv => if kv.1 = k then (kv.1, d) else kv) (vs.map fun kv => if kv.1 = k then (kv.1, v) else kv)
  | _, _, .nil => .nil
  | _, _, .cons (k := k') r t => by
    rw [List.map_cons, List.map_cons]
    by_cases e : k' = k
    · rw [if_pos e, if_pos e]
      exact .cons rv (repK_map k rv t)
    · rw [if_neg e, if_neg e]
      exact .cons r (repK_map k rv t)
theorem repK_app {K : PySem.W.Frag} {H : Hp} : ∀ {ds es : List (Key × D)} {vs ws : List (Key × V)}, RepK K H ds vs → RepK K H es ws → RepK K H (ds ++ es) (vs ++ ws)
  | _, _, _, _, .nil, s => s
  | _, _, _, _, .cons r t, s => .cons r (repK_app t s)
theorem repK_put {K : PySem.W.Frag} {H : Hp} {ds : List (Key × D)} {vs : List (Key × V)} (r : RepK K H ds vs) (k : Key) {d : D} {v : V} (rv : Rep K H d v) : RepK K H (putD ds k d) (putK vs k v) := by
  unfold putD putK
  rw [repK_any k r]
  split
  · exact repK_map k rv r
  · exact repK_app r (.cons rv .nil)
theorem repT_get {K : PySem.W.Frag} {H : Hp} (k : List Key) : ∀ {ds : List (List Key × D)} {vs : List (List Key × V)}, RepT K H ds vs → (getD' ds k = none ∧ valV vs k = none) ∨ ∃ d v, getD' ds k = some d ∧ valV vs k = some v ∧ Rep K H d v
  | _, _, .nil => .inl ⟨rfl, rfl⟩
  | _, _, .cons (k := k') (d := d) (v := v) (ds := ds) (vs := vs) r t => by
    by_cases e : k' = k
    · exact .inr ⟨d, v, by simp [getD', List.find?_cons, e], valV_pos e, r⟩
    · have h1 : getD' ((k', d) :: ds) k = getD' ds k := by simp [getD', List.find?_cons, e]
      have h2 : valV ((k', v) :: vs) k = valV vs k := valV_neg e
      rw [h1, h2]
      exact repT_get k t
theorem repT_any {K : PySem.W.Frag} {H : Hp} (k : List Key) : ∀ {ds : List (List Key × D)} {vs : List (List Key × V)}, RepT K H ds vs → (ds.any fun kv => decide (kv.1 = k)) = (vs.any fun kv => decide (kv.1 = k))
  | _, _, .nil => rfl
  | _, _, .cons r t => by rw [List.any_cons, List.any_cons, repT_any k t]
theorem repT_len {K : PySem.W.Frag} {H : Hp} : ∀ {ds : List (List Key × D)} {vs : List (List Key × V)}, RepT K H ds vs → ds.length = vs.length
  | _, _, .nil => rfl
  | _, _, .cons r t => by rw [List.length_cons, List.length_cons, repT_len t]
theorem repT_map {d : D} {v : V} {K : PySem.W.Frag} {H : Hp} (k : List Key) (rv : Rep K H d v) : ∀ {ds : List (List Key × D)} {vs : List (List Key × V)}, RepT K H ds vs → RepT K H (ds.map fun kv => if kv.1 = k then (kv.1, d) else kv) (vs.map fun kv => if kv.1 = k then (kv.1, v) else kv)
  | _, _, .nil => .nil
  | _, _, .cons (k := k') r t => by
    rw [List.map_cons, List.map_cons]
    by_cases e : k' = k
    · rw [if_pos e, if_pos e]
      exact .cons rv (repT_map k rv t)
    · rw [if_neg e, if_neg e]
      exact .cons r (repT_map k rv t)
theorem repT_app {K : PySem.W.Frag} {H : Hp} : ∀ {ds es : List (List Key × D)} {vs ws : List (List Key × V)}, RepT K H ds vs → RepT K H es ws → RepT K H (ds ++ es) (vs ++ ws)
  | _, _, _, _, .nil, s => s
  | _, _, _, _, .cons r t, s => .cons r (repT_app t s)
theorem repT_put {K : PySem.W.Frag} {H : Hp} {ds : List (List Key × D)} {vs : List (List Key × V)} (r : RepT K H ds vs) (k : List Key) {d : D} {v : V} (rv : Rep K H d v) : RepT K H (putD ds k d) (putK vs k v) := by
  unfold putD putK
  rw [repT_any k r]
  split
  · exact repT_map k rv r
  · exact repT_app r (.cons rv .nil)
/-- a key as data -/
def kD : Key → D
  | .inl i => .int i
  | .inr s => .str s
theorem kD_val {K : PySem.W.Frag} {H : Hp} {k : Key} {v : V} (r : Rep K H (kD k) v) : v = kV k := by
  cases k with
  | inl i => cases r; rfl
  | inr s => cases r; rfl
theorem kDs_val {K : PySem.W.Frag} {H : Hp} : ∀ {ks : List Key} {vs : List V}, RepL K H (ks.map kD) vs → vs = ks.map kV
  | [], _, r => by cases r; rfl
  | k :: ks, _, r => by
    cases r with
    | cons r1 r2 => rw [kD_val r1, kDs_val r2] <;> rfl
/-- k in d -/
theorem wc_inK {kvs : List (Key × D)} {k : Key} (ha : WB X a ρ (kD k)) (hb : WB X b ρ (.dK kvs)) (hu : X.A.units + 1 < cLine) (hm : behindInMarks .In b = false := by rfl) :
    WE X (.Compare a [.In] [b] pos) ρ (.bl (getD' kvs k).isSome) ∧ WT X (.Compare a [.In] [b] pos) ρ (getD' kvs k).isSome := by
  have main : ∀ (H F : Hp) (σ : L2.St), Cf X.K H F ρ σ → ∀ Q : VK, (∀ H' F', Le H F H' F' → Q (.bl (getD' kvs k).isSome) H') → tDIn (sE X a) (sE X b) σ H Q := by
    intro H F σ c Q q
    refine ha H F σ c _ fun u H1 F1 l1 r1 => hb H1 F1 σ (c.mono l1) _ fun v H2 F2 l2 r2 => ?_
    cases r2 with
    | dK s r =>
      rw [kD_val r1]
      refine ⟨_, _, rfl, DGet.k s, ?_⟩
      rcases repK_get k r with ⟨h1, h2⟩ | ⟨d, w, h1, h2, _⟩
      · rw [h2]
        have := q H2 F2 (l1.trans l2)
        rw [h1] at this
        exact this
      · rw [h2]
        have := q H2 F2 (l1.trans l2)
        rw [h1] at this
        exact this
  exact ⟨fun H F σ c Q q => pe_to (pe_cmp (pc_din hu pe_s pe_s) hm) (main H F σ c Q fun H' F' l => q _ H' F' l (.bl _)), fun H F σ c Q q => pt_to (pt_cmp (pc_din hu pe_s pe_s) hm) (main H F σ c _ fun H' F' l => ⟨_, rfl, q H' F' l⟩)⟩
theorem wc_ninK {kvs : List (Key × D)} {k : Key} (ha : WB X a ρ (kD k)) (hb : WB X b ρ (.dK kvs)) (hu : X.A.units + 1 < cLine) (hm : behindInMarks .NotIn b = false := by rfl) :
    WE X (.Compare a [.NotIn] [b] pos) ρ (.bl (!(getD' kvs k).isSome)) ∧ WT X (.Compare a [.NotIn] [b] pos) ρ (!(getD' kvs k).isSome) := by
  have main : ∀ (H F : Hp) (σ : L2.St), Cf X.K H F ρ σ → ∀ Q : VK, (∀ H' F', Le H F H' F' → Q (.bl (!(getD' kvs k).isSome)) H') → tDNotIn (sE X a) (sE X b) σ H Q := by
    intro H F σ c Q q
    refine ha H F σ c _ fun u H1 F1 l1 r1 => hb H1 F1 σ (c.mono l1) _ fun v H2 F2 l2 r2 => ?_
    cases r2 with
    | dK s r =>
      rw [kD_val r1]
      refine ⟨_, _, rfl, DGet.k s, ?_⟩
      rcases repK_get k r with ⟨h1, h2⟩ | ⟨d, w, h1, h2, _⟩
      · rw [h2]
        have := q H2 F2 (l1.trans l2)
        rw [h1] at this
        exact this
      · rw [h2]
        have := q H2 F2 (l1.trans l2)
        rw [h1] at this
        exact this
  exact ⟨fun H F σ c Q q => pe_to (pe_cmp (pc_dnotin hu pe_s pe_s) hm) (main H F σ c Q fun H' F' l => q _ H' F' l (.bl _)), fun H F σ c Q q => pt_to (pt_cmp (pc_dnotin hu pe_s pe_s) hm) (main H F σ c _ fun H' F' l => ⟨_, rfl, q H' F' l⟩)⟩
/-- d.get(k) of data that want no heap -/
theorem we_get1 {kvs : List (Key × D)} {k : Key} {p1 : Pos} (ha : WB X a ρ (.dK kvs)) (hb : WB X b ρ (kD k)) (hu : X.A.units + 1 < cLine) (hs : ((getD' kvs k).getD .non).sc = true) (m : M1 X a "get" p1 b pos := by exact ⟨rfl, rfl, rfl, rfl⟩) :
    WE X (.Call (.Attribute a "get" p1) [b] [] pos) ρ ((getD' kvs k).getD .non) :=
  fun H F σ c Q q => pe_to (pe_dget1 hu pe_s pe_s m) (ha H F σ c _ fun u H1 F1 l1 r1 => by
    cases r1 with
    | dK s r =>
      refine ⟨_, rfl, .inl ⟨_, .inl s⟩, hb H1 F1 σ (c.mono l1) _ fun v H2 F2 l2 r2 => ?_⟩
      rw [kD_val r2]
      refine ⟨_, DGet.k (l2.h _ _ s), ?_⟩
      rcases repK_get k r with ⟨h1, h2⟩ | ⟨d, w, h1, h2, h3⟩
      · rw [h2]
        have := q .non H2 F2 (l1.trans l2)
        rw [h1] at this
        exact this .non
      · rw [h2]
        have := q w H2 F2 (l1.trans l2)
        rw [h1] at this hs
        exact this (h3.sc hs))

/-! ### fields, calls -/
theorem we_fld {C : Addr} {fs : List (Str × D)} {f : Str} (ha : WE X a ρ (.ins C fs)) (hf : fs.lookup f = some d) (cl : Cls X.K C) (n : NoAttr X.K C f) (hb : attributeBase a f X.env (eval a X.env) = eval a X.env := by rfl) : WE X (.Attribute a f pos) ρ d :=
  fun H F σ c Q q => pe_to (pe_fld pe_s hb) (ha H F σ c _ fun u H1 F1 l1 r1 => by
    cases r1 with
    | ins s r =>
      obtain ⟨v, hv, rv⟩ := r.lookup hf
      exact ⟨_, C, _, _, v, rfl, l1.ex _ _ s, cl, n, hv, q v H1 F1 l1 rv⟩)
end

/-- a promise by data: arguments and value as R says -/
def spR (K : PySem.W.Frag) (R : List D → D → Prop) : Sp := fun vs H Q _ => ∃ (F : Hp) (ds : List D) (d : D), Same F H ∧ RepL K F ds vs ∧ R ds d ∧ ∀ v H' F', Le H F H' F' → Rep K F' d v → Q v H'
/-- .. the value a new object -/
def spN (K : PySem.W.Frag) (R : List D → D → Prop) : Sp := fun vs H Q _ => ∃ (F : Hp) (ds : List D) (d : D), Same F H ∧ RepL K F ds vs ∧ R ds d ∧ ∀ p H' F', Le H F H' F' → H p = none → F' p = none → OwnOk K H' F' d p → Q (.ref p) H'
/-- a def of the text, by its name, with its promise -/
structure Kn (P : Program) (w : World) (K : PySem.W.Frag) (mg : Str → Option Value) (base : Heap) (x : Str) (k : Nat) (dvs : List V) (sp : Sp) : Prop where
  ex : ∃ (f : Addr) (fd : FuncData) (ps : List Str) (dws : List Value), mg x = some (.ref f) ∧ PySem.W.keepIn K (.ref f) = true ∧ Binds K fd ps dws ∧ Vals dvs dws ∧ FnOk P w K mg base CX0 k f fd ps sp
theorem Kn.mono {P : Program} {w : World} {K : PySem.W.Frag} {mg : Str → Option Value} {base : Heap} {x : Str} {j k : Nat} {dvs : List V} {sp : Sp} (h : Kn P w K mg base x j dvs sp) (hk : j ≤ k) : Kn P w K mg base x k dvs sp := by
  obtain ⟨f, fd, ps, dws, h1, h2, h3, h4, h5⟩ := h.ex
  exact ⟨f, fd, ps, dws, h1, h2, h3, h4, h5.mono hk⟩
section
variable {X : Cx} {e a b c : Expr} {es : List Expr} {ρ : En} {d : D} {pos p' : Pos} {x : Str} {k : Nat} {R : List D → D → Prop} {ds : List D}
theorem we_call (kn : Kn X.prog X.w X.K X.mg X.base x k [] (spR X.K R)) (hr : Room k X.A) (ha : WA X (e :: es) ρ ds) (hR : R ds d) (hg : Gl X x := by rfl) (hdb : (x == ("__debug__" : Str)) = false := by decide) (he : starEach (e :: es) X.env = (false, eval e X.env) :: starEach es X.env := by rfl) (hpl : (backTo pos (starEach es X.env)).any (·.1) = false := by rfl) :
    WE X (.Call (.Name x p') (e :: es) [] pos) ρ d := by
  obtain ⟨f, fd, ps, dws, hm, hk, hb, hd, F0⟩ := kn.ex
  exact fun H F σ c Q q => pe_to (pe_call F0 hr hg hm hk hb hd pass0 pa_s hdb he hpl) (ha H F σ c _ fun vs H1 F1 l1 r1 => by
    rw [List.append_nil]
    exact ⟨F1, ds, d, l1.ex, r1, hR, fun v H' F' l r => q v H' F' (l1.trans l) r⟩)
/-- .. the arguments as they are just now, the value wants no heap -/
theorem we_callB (kn : Kn X.prog X.w X.K X.mg X.base x k [] (spR X.K R)) (hr : Room k X.A) (ha : WAB X (e :: es) ρ ds) (hR : R ds d) (hs : d.sc = true) (hg : Gl X x := by rfl) (hdb : (x == ("__debug__" : Str)) = false := by decide) (he : starEach (e :: es) X.env = (false, eval e X.env) :: starEach es X.env := by rfl) (hpl : (backTo pos (starEach es X.env)).any (·.1) = false := by rfl) :
    WE X (.Call (.Name x p') (e :: es) [] pos) ρ d := by
  obtain ⟨f, fd, ps, dws, hm, hk, hb, hd, F0⟩ := kn.ex
  exact fun H F σ c Q q => pe_to (pe_call F0 hr hg hm hk hb hd pass0 pa_s hdb he hpl) (ha H F σ c _ fun vs H1 F1 l1 r1 => by
    rw [List.append_nil]
    refine ⟨H1, ds, d, Same.refl H1, r1, hR, fun v H' F' l r => q v H' F1 (l1.trans ⟨l.h, Same.refl F1, l1.ex.trans l.h, fun _ _ _ n => n⟩) (r.sc hs)⟩)
theorem wn_call (kn : Kn X.prog X.w X.K X.mg X.base x k [] (spN X.K R)) (hr : Room k X.A) (ha : WA X (e :: es) ρ ds) (hR : R ds d) (hg : Gl X x := by rfl) (hdb : (x == ("__debug__" : Str)) = false := by decide) (he : starEach (e :: es) X.env = (false, eval e X.env) :: starEach es X.env := by rfl) (hpl : (backTo pos (starEach es X.env)).any (·.1) = false := by rfl) :
    WN X (.Call (.Name x p') (e :: es) [] pos) ρ d := by
  obtain ⟨f, fd, ps, dws, hm, hk, hb, hd, F0⟩ := kn.ex
  exact fun H F σ c Q q => pe_to (pe_call F0 hr hg hm hk hb hd pass0 pa_s hdb he hpl) (ha H F σ c _ fun vs H1 F1 l1 r1 => by
    rw [List.append_nil]
    exact ⟨F1, ds, d, l1.ex, r1, hR, fun p H' F' l hn hf o => q p H' F' (l1.trans l) (l1.h.free hn) hf o⟩)
/-- .. the arguments as they are just now, the new list's items want no heap -/
theorem wn_callB {out : List D} (kn : Kn X.prog X.w X.K X.mg X.base x k [] (spN X.K R)) (hr : Room k X.A) (ha : WAB X (e :: es) ρ ds) (hR : R ds (.lst out)) (hs : out.all D.sc = true) (hg : Gl X x := by rfl) (hdb : (x == ("__debug__" : Str)) = false := by decide) (he : starEach (e :: es) X.env = (false, eval e X.env) :: starEach es X.env := by rfl) (hpl : (backTo pos (starEach es X.env)).any (·.1) = false := by rfl) :
    WN X (.Call (.Name x p') (e :: es) [] pos) ρ (.lst out) := by
  obtain ⟨f, fd, ps, dws, hm, hk, hb, hd, F0⟩ := kn.ex
  exact fun H F σ c Q q => pe_to (pe_call F0 hr hg hm hk hb hd pass0 pa_s hdb he hpl) (ha H F σ c _ fun vs H1 F1 l1 r1 => by
    rw [List.append_nil]
    refine ⟨H1, ds, .lst out, Same.refl H1, r1, hR, fun p H' F' l hn hf o => ?_⟩
    have hn1 : F1 p = none := l1.ex.free hn
    cases o with
    | lst hp r => exact q p H' F1 (l1.trans ⟨l.h, Same.refl F1, l1.ex.trans l.h, fun _ _ _ n => n⟩) (l1.h.free hn) hn1 (.lst hp (r.sc hs)))
/-- a method, the receiver among the promise's data -/
structure KnM (P : Program) (w : World) (K : PySem.W.Frag) (mg : Str → Option Value) (base : Heap) (C : Addr) (m : Str) (k : Nat) (dvs : List V) (sp : Sp) : Prop where
  cl : Cls K C
  ex : ∃ (f : Addr) (fd : FuncData) (ps : List Str) (dws : List Value), Meth K C m f ∧ Binds K fd ps dws ∧ Vals dvs dws ∧ FnOk P w K mg base CX0 k f fd ps sp
theorem KnM.mono {P : Program} {w : World} {K : PySem.W.Frag} {mg : Str → Option Value} {base : Heap} {C : Addr} {m : Str} {j k : Nat} {dvs : List V} {sp : Sp} (h : KnM P w K mg base C m j dvs sp) (hk : j ≤ k) : KnM P w K mg base C m k dvs sp := by
  obtain ⟨f, fd, ps, dws, h1, h3, h4, h5⟩ := h.ex
  exact ⟨h.cl, f, fd, ps, dws, h1, h3, h4, h5.mono hk⟩
variable {C : Addr} {m : Str} {fs : List (Str × D)} {p1 : Pos}
theorem we_meth0 {pl : Sem Bool} (kn : KnM X.prog X.w X.K X.mg X.base C m k [] (spR X.K R)) (hr : Room k X.A) (ha : WE X a ρ (.ins C fs)) (hf : fs.lookup m = none) (hR : R [.ins C fs] d)
    (ht : eval (.Call (.Attribute a m p1) [] [] pos) X.env = (do
      let ov ← eval a X.env
      standAt p1.atName
      let (f, first) ← holding [ov] (getMethod ov m pl)
      callWith pos f first (backTo pos (starEach [] X.env)) (backToKw pos (keywordEach [] X.env))) := by rfl) :
    WE X (.Call (.Attribute a m p1) [] [] pos) ρ d := by
  obtain ⟨f, fd, ps, dws, hm, hb, hd, F0⟩ := kn.ex
  exact fun H F σ c Q q => pe_to (pe_meth0 (pl := pl) pe_s kn.cl hm F0 hr hb hd pass0 ht) (ha H F σ c _ fun u H1 F1 l1 r1 => by
    cases r1 with
    | ins s r =>
      refine ⟨_, _, _, rfl, l1.ex _ _ s, r.lookup_none hf, ?_⟩
      exact ⟨F1, [.ins C fs], d, l1.ex, .cons (.ins s r) .nil, hR, fun v H' F' l r => q v H' F' (l1.trans l) r⟩)
theorem we_meth {pl : Sem Bool} (kn : KnM X.prog X.w X.K X.mg X.base C m k [] (spR X.K R)) (hr : Room k X.A) (ha : WE X a ρ (.ins C fs)) (hf : fs.lookup m = none) (hes : WA X (e :: es) ρ ds) (hR : R (.ins C fs :: ds) d)
    (hst : starEach (e :: es) X.env = (false, eval e X.env) :: starEach es X.env := by rfl) (hpl : (backTo pos (starEach es X.env)).any (·.1) = false := by rfl)
    (ht : eval (.Call (.Attribute a m p1) (e :: es) [] pos) X.env = (do
      let ov ← eval a X.env
      standAt p1.atName
      let (f, first) ← holding [ov] (getMethod ov m pl)
      callWith pos f first (backTo pos (starEach (e :: es) X.env)) (backToKw pos (keywordEach [] X.env))) := by rfl) :
    WE X (.Call (.Attribute a m p1) (e :: es) [] pos) ρ d := by
  obtain ⟨f, fd, ps, dws, hm, hb, hd, F0⟩ := kn.ex
  exact fun H F σ c Q q => pe_to (pe_meth (pl := pl) pe_s kn.cl hm F0 hr hb hd pass0 pa_s hst hpl ht) (ha H F σ c _ fun u H1 F1 l1 r1 => by
    cases r1 with
    | ins s r =>
      refine ⟨_, _, _, rfl, l1.ex _ _ s, r.lookup_none hf, hes H1 F1 σ (c.mono l1) _ fun vs H2 F2 l2 r2 => ?_⟩
      rw [List.append_nil]
      exact ⟨F2, .ins C fs :: ds, d, l2.ex, .cons (.ins (l2.f _ _ s) (r.mono l2.f)) r2, hR, fun v H' F' l r => q v H' F' ((l1.trans l2).trans l) r⟩)
end
/-- what __init__ promises: the new instance at x, then data d -/
def spI (K : PySem.W.Frag) (C : Addr) (R : List D → D → Prop) : Sp := fun vs H Q _ => ∃ (Hb F : Hp) (x dx : Addr) (ws : List V) (ds : List D) (d : D), vs = .ref x :: ws ∧ H = upd (upd Hb dx (.own x)) x (.ins C dx []) ∧ Hb x = none ∧ Hb dx = none ∧ dx ≠ x ∧ Same F Hb ∧ RepL K F ds ws ∧ R ds d ∧
  ∀ H' F', Le Hb F H' F' → Rep K F' d (.ref x) → Q .non H'
/-- a class of the text with its __init__ -/
structure KnC (P : Program) (w : World) (K : PySem.W.Frag) (mg : Str → Option Value) (base : Heap) (x : Str) (C : Addr) (k : Nat) (dvs : List V) (sp : Sp) : Prop where
  g : mg x = some (.ref C)
  ex : ∃ (f : Addr) (fd : FuncData) (ps : List Str) (dws : List Value), Mk K C f ∧ Binds K fd ps dws ∧ Vals dvs dws ∧ FnOk P w K mg base CX0 k f fd ps sp
theorem KnC.mono {P : Program} {w : World} {K : PySem.W.Frag} {mg : Str → Option Value} {base : Heap} {x : Str} {C : Addr} {j k : Nat} {dvs : List V} {sp : Sp} (h : KnC P w K mg base x C j dvs sp) (hk : j ≤ k) : KnC P w K mg base x C k dvs sp := by
  obtain ⟨f, fd, ps, dws, h1, h3, h4, h5⟩ := h.ex
  exact ⟨h.g, f, fd, ps, dws, h1, h3, h4, h5.mono hk⟩
section
variable {X : Cx} {e a b c : Expr} {es : List Expr} {ρ : En} {d : D} {pos p' : Pos} {x : Str} {k : Nat} {R : List D → D → Prop} {ds dds : List D} {dvs : List V} {C : Addr}
/-- C(e, ..), defaults among the promise's data -/
theorem we_make (kn : KnC X.prog X.w X.K X.mg X.base x C k dvs (spI X.K C R)) (hr : Room (k + 1) X.A) (ha : WA X (e :: es) ρ ds) (hdd : ∀ F, RepL X.K F dds dvs) (hR : R (ds ++ dds) d) (hg : Gl X x := by rfl) (hdb : (x == ("__debug__" : Str)) = false := by decide) (he : starEach (e :: es) X.env = (false, eval e X.env) :: starEach es X.env := by rfl) (hpl : (backTo pos (starEach es X.env)).any (·.1) = false := by rfl) :
    WE X (.Call (.Name x p') (e :: es) [] pos) ρ d := by
  obtain ⟨f, fd, ps, dws, hm, hb, hd, F0⟩ := kn.ex
  exact fun H F σ cf Q q => pe_to (pe_make hm F0 hr hg kn.g hb hd pass0 pa_s hdb he hpl) (ha H F σ cf _ fun vs H1 F1 l1 r1 y dy hy hdy hne =>
    ⟨H1, F1, y, dy, vs ++ dvs, ds ++ dds, d, rfl, rfl, hy, hdy, hne, l1.ex, r1.append (hdd F1), hR, fun H' F' l r => ⟨rfl, q _ H' F' (l1.trans l) r⟩⟩)
end
end DL
/-! DLd: statements, targets, what is walked, comprehensions, a def's promise from its body. -/
namespace DL
open PySem PySem.Spec PyProof.Rows L2

section
variable {X : Cx} {st : Stmt} {sts : List Stmt} {σ : L2.St} {H : Hp} {Dn : Ends}
def sS (X : Cx) (st : Stmt) : TS := fun Dn σ H => ∀ (pins : List (Addr × Obj)) (s : Shared), Inv X pins σ H s → wpAny (model X.prog X.w) X.A (exec st X.env) (SP X pins Dn) X.xe s
def sSs (X : Cx) (sts : List Stmt) : TS := fun Dn σ H => ∀ (pins : List (Addr × Obj)) (s : Shared), Inv X pins σ H s → wpAny (model X.prog X.w) X.A (execs sts X.env) (SP X pins Dn) X.xe s
def sG (X : Cx) (tg : Expr) : TG := fun v σ H Q => ∀ (pins : List (Addr × Obj)) (s : Shared) (u : Value), Inv X pins σ H s → RelV v u → wpAny (model X.prog X.w) X.A (assign tg X.env u) (fun _ s' => ∃ σ' H', Inv X pins σ' H' s' ∧ Q σ' H') X.xe s
def sGs (X : Cx) (ts : List Expr) : TGs := fun vs σ H Q => ∀ (pins : List (Addr × Obj)) (s : Shared) (us : List Value), Inv X pins σ H s → Vals vs us →
  wpAny (model X.prog X.w) X.A (assignInOrder ((assignEach ts X.env).map (·.2)) us) (fun _ s' => ∃ σ' H', Inv X pins σ' H' s' ∧ Q σ' H') X.xe s
theorem ps_s : PS X st (sS X st) := ⟨fun pins s _ _ _ I h => h pins s I⟩
theorem pss_s : PSs X sts (sSs X sts) := ⟨fun pins s _ _ _ I h => h pins s I⟩
theorem pg_s {tg : Expr} : PG X tg (sG X tg) := ⟨fun pins s _ _ _ u _ I r h => h pins s u I r⟩
theorem pgs_s {ts : List Expr} : PGs X ts (sGs X ts) := ⟨fun pins s _ _ _ us _ I r h => h pins s us I r⟩
theorem ps_to {t : TS} (h : PS X st t) (q : t Dn σ H) : sS X st Dn σ H := fun pins s I => h.run pins s σ H Dn I q
theorem pss_to {t : TS} (h : PSs X sts t) (q : t Dn σ H) : sSs X sts Dn σ H := fun pins s I => h.run pins s σ H Dn I q
theorem pg_to {tg : Expr} {t : TG} {v : V} {Q : L2.St → Hp → Prop} (h : PG X tg t) (q : t v σ H Q) : sG X tg v σ H Q := fun pins s u I r => h.run pins s σ H v u Q I r q
theorem pgs_to {ts : List Expr} {t : TGs} {vs : List V} {Q : L2.St → Hp → Prop} (h : PGs X ts t) (q : t vs σ H Q) : sGs X ts vs σ H Q := fun pins s us I r => h.run pins s σ H vs us Q I r q
end

/-- where a block ends -/
structure Post where
  nx : En → Prop
  rt : List Ob → D → Prop
  bk : En → Prop
  ct : En → Prop
abbrev Post.to (P : Post) (nx : En → Prop) : Post := ⟨nx, P.rt, P.bk, P.ct⟩
structure EndsOk (K : PySem.W.Frag) (M : List Addr) (H0 F0 B : Hp) (P : Post) (Dn : Ends) : Prop where
  nx : ∀ (ρ : En) (H F : Hp) (σ : L2.St), P.nx ρ → Cf K H F ρ σ → Bs M H0 F0 B H F ρ.o → Dn.nx σ H
  rt : ∀ (γ : List Ob) (d : D) (v : V) (H F : Hp), P.rt γ d → Cf K H F ⟨γ, []⟩ [] → Bs M H0 F0 B H F γ → Rep K F d v → Dn.rt v H
  bk : ∀ (ρ : En) (H F : Hp) (σ : L2.St), P.bk ρ → Cf K H F ρ σ → Bs M H0 F0 B H F ρ.o → Dn.bk σ H
  ct : ∀ (ρ : En) (H F : Hp) (σ : L2.St), P.ct ρ → Cf K H F ρ σ → Bs M H0 F0 B H F ρ.o → Dn.ct σ H
def WS (X : Cx) (st : Stmt) (ρ : En) (P : Post) : Prop := ∀ (M : List Addr) (H0 F0 B H F : Hp) (σ : L2.St), Cf X.K H F ρ σ → Bs M H0 F0 B H F ρ.o → ∀ Dn : Ends, EndsOk X.K M H0 F0 B P Dn → sS X st Dn σ H
def WSs (X : Cx) (sts : List Stmt) (ρ : En) (P : Post) : Prop := ∀ (M : List Addr) (H0 F0 B H F : Hp) (σ : L2.St), Cf X.K H F ρ σ → Bs M H0 F0 B H F ρ.o → ∀ Dn : Ends, EndsOk X.K M H0 F0 B P Dn → sSs X sts Dn σ H
theorem Cf.noS {K : PySem.W.Frag} {H F : Hp} {ρ : En} {σ : L2.St} (c : Cf K H F ρ σ) : Cf K H F ⟨ρ.o, []⟩ [] := ⟨c.ex, rfl, fun i d h => by simp at h, c.own, c.nd⟩

section
variable {X : Cx} {st : Stmt} {sts rest : List Stmt} {ρ ρ' : En} {P : Post} {e c o : Expr} {d : D} {pos p' : Pos} {x : Str}
theorem wss_nil (w : Wk ρ ρ') (h : P.nx ρ') : WSs X [] ρ P := fun M H0 F0 B H F σ c b Dn e => pss_to pss_nil (e.nx ρ' H F σ h (c.wk w) (b.wk w))
theorem wss_cons (h : WS X st ρ (P.to fun ρ' => WSs X rest ρ' P)) : WSs X (st :: rest) ρ P := fun M H0 F0 B H F σ c b Dn e =>
  pss_to (pss_cons ps_s pss_s) (h M H0 F0 B H F σ c b { Dn with nx := sSs X rest Dn } ⟨fun ρ' H F σ q c b => q M H0 F0 B H F σ c b Dn e, e.rt, e.bk, e.ct⟩)
theorem wss_one (h : WS X st ρ P) : WSs X [st] ρ P := fun M H0 F0 B H F σ c b Dn e => pss_to (pss_one ps_s) (h M H0 F0 B H F σ c b Dn e)
theorem wss_wk (w : Wk ρ ρ') (h : WSs X sts ρ' P) : WSs X sts ρ P := fun M H0 F0 B H F σ c b Dn e => h M H0 F0 B H F σ (c.wk w) (b.wk w) Dn e
theorem ws_wk (w : Wk ρ ρ') (h : WS X st ρ' P) : WS X st ρ P := fun M H0 F0 B H F σ c b Dn e => h M H0 F0 B H F σ (c.wk w) (b.wk w) Dn e
/-- the ends may be weaker -/
theorem wss_mono {P' : Post} (h : WSs X sts ρ P) (n : ∀ r, P.nx r → P'.nx r) (t : ∀ g d, P.rt g d → P'.rt g d) (k : ∀ r, P.bk r → P'.bk r) (u : ∀ r, P.ct r → P'.ct r) : WSs X sts ρ P' := fun M H0 F0 B H F σ c b Dn e =>
  h M H0 F0 B H F σ c b Dn ⟨fun r H F σ q => e.nx r H F σ (n r q), fun g d v H F q => e.rt g d v H F (t g d q), fun r H F σ q => e.bk r H F σ (k r q), fun r H F σ q => e.ct r H F σ (u r q)⟩
/-- a slot of an object is read as what it holds, from now on for good -/
inductive FzS (p : Addr) (d : D) : List (Option D) → List (Option D) → Prop
  | nil : FzS p d [] []
  | keep {s : Option D} {r q : List (Option D)} : FzS p d r q → FzS p d (s :: r) (s :: q)
  | sub {r q : List (Option D)} : FzS p d r q → FzS p d (some (.ref p) :: r) (some d :: q)
theorem FzS.refl {p : Addr} {d : D} : ∀ r : List (Option D), FzS p d r r
  | [] => .nil
  | _ :: r => .keep (FzS.refl r)
theorem FzS.len {p : Addr} {d : D} : ∀ {r q : List (Option D)}, FzS p d r q → r.length = q.length
  | _, _, .nil => rfl
  | _, _, .keep w => by rw [List.length_cons, List.length_cons, w.len]
  | _, _, .sub w => by rw [List.length_cons, List.length_cons, w.len]
theorem FzS.at {p : Addr} {d : D} : ∀ {r q : List (Option D)}, FzS p d r q → ∀ (i : Nat) (e : D), q[i]? = some (some e) → r[i]? = some (some e) ∨ (r[i]? = some (some (.ref p)) ∧ e = d)
  | _, _, .nil, i, e, h => by simp at h
  | _, _, .keep w, 0, e, h => .inl (by simpa using h)
  | _, _, .keep w, i + 1, e, h => by simpa using w.at i e (by simpa using h)
  | _, _, .sub w, 0, e, h => .inr ⟨by simp, by simp at h; exact h.symm⟩
  | _, _, .sub w, i + 1, e, h => by simpa using w.at i e (by simpa using h)
theorem cf_sub {K : PySem.W.Frag} {H F : Hp} {γ : List Ob} {r q : List (Option D)} {σ : L2.St} {p : Addr} (c : Cf K H F ⟨γ, r⟩ σ) (w : FzS p d r q) (h : Rep K F d (.ref p)) : Cf K H F ⟨γ, q⟩ σ :=
  ⟨c.ex, c.len.trans w.len, fun i e z => by
    rcases w.at i e z with z1 | ⟨z1, z2⟩
    · exact c.sl i e z1
    · obtain ⟨v, h1, h2⟩ := c.sl i _ z1
      cases h2
      rw [z2]
      exact ⟨_, h1, h⟩, c.own, c.nd⟩
theorem wss_fz {p : Addr} {q : List (Option D)} (k : Nat) (hk : ρ.o[k]? = some ⟨p, true, d⟩) (w : FzS p d ρ.s q) (h : WSs X sts ⟨ρ.o.eraseIdx k, q⟩ P) : WSs X sts ρ P := fun M H0 F0 B H F σ c b Dn e => by
  obtain ⟨hf, ho⟩ := c.ownAt hk
  obtain ⟨u, hu, r⟩ := ho.fz hf
  obtain ⟨c2, b2⟩ := b.fz c hk hu
  exact h M H0 F0 B H _ σ (cf_sub c2 w r) b2 Dn e

/-! ### small statements -/
theorem ws_pass (h : P.nx ρ) : WS X (.Pass pos) ρ P := fun M H0 F0 B H F σ c b Dn e => ps_to ps_pass (e.nx ρ H F σ h c b)
theorem ws_break (h : P.bk ρ) : WS X (.Break pos) ρ P := fun M H0 F0 B H F σ c b Dn e => ps_to ps_break (e.bk ρ H F σ h c b)
theorem ws_cont (w : Wk ρ ρ') (h : P.ct ρ') : WS X (.Continue pos) ρ P := fun M H0 F0 B H F σ c b Dn e => ps_to ps_continue (e.ct ρ' H F σ h (c.wk w) (b.wk w))
theorem ws_doc {s : Str} {j : Nat} (h : P.nx ρ) : WS X (.Expr (.Constant (.str s) j pos) p') ρ P := fun M H0 F0 B H F σ c b Dn e => ps_to ps_doc (e.nx ρ H F σ h c b)
theorem ws_expr (he : WE X e ρ d) (h : P.nx ρ) (hs : swapsWith e none pos.line X.env = pure false := by rfl) : WS X (.Expr e pos) ρ P := fun M H0 F0 B H F σ c b Dn k =>
  ps_to (ps_expr pe_s hs) (he H F σ c _ fun v H1 F1 l r => k.nx ρ H1 F1 σ h (c.mono l) (b.mono l))
theorem ws_ret (he : WE X e ρ d) (h : P.rt ρ.o d) : WS X (.Return (some e) pos) ρ P := fun M H0 F0 B H F σ c b Dn k =>
  ps_to (ps_ret pe_s) (he H F σ c _ fun v H1 F1 l r => k.rt ρ.o d v H1 F1 h (c.mono l).noS (b.mono l) r)
/-- .. a new object -/
theorem ws_retN (he : WN X e ρ d) (h : ∀ p, P.rt (ρ.o ++ [⟨p, true, d⟩]) (.ref p)) : WS X (.Return (some e) pos) ρ P := fun M H0 F0 B H F σ c b Dn k =>
  ps_to (ps_ret pe_s) (he H F σ c _ fun p H1 F1 l hn hf o => by
    have c1 := c.mono l
    have ne : ∀ q ∈ ρ.o, q.p ≠ p := fun q hq z => by
      obtain ⟨u, hu⟩ := (c.own q hq).2.there
      rw [z, hn] at hu
      cases hu
    exact k.rt _ (.ref p) (.ref p) H1 F1 (h p) (c1.addO hf o ne).noS ((b.mono l).addO (b.free hn)) (.ref p))
theorem ws_retNone (h : P.rt ρ.o .non) : WS X (.Return none pos) ρ P := fun M H0 F0 B H F σ c b Dn k => ps_to ps_retN (k.rt ρ.o .non .non H F h c.noS b .non)
/-- an object of one's own is given away for good -/
theorem ws_retF {p : Addr} (k : Nat) (he : WE X e ρ (.ref p)) (hk : ρ.o[k]? = some ⟨p, true, d⟩) (h : P.rt (ρ.o.eraseIdx k) d) : WS X (.Return (some e) pos) ρ P := fun M H0 F0 B H F σ c b Dn kk =>
  ps_to (ps_ret pe_s) (he H F σ c _ fun v H1 F1 l r => by
    cases r
    obtain ⟨hf, ho⟩ := (c.mono l).ownAt hk
    obtain ⟨u, hu, r⟩ := ho.fz hf
    obtain ⟨c2, b2⟩ := (b.mono l).fz (c.mono l) hk hu
    exact kk.rt _ d _ H1 _ h c2.noS b2 r)
theorem ws_if {p : Bool} {a b : List Stmt} (hc : WT X c ρ p) (ha : p = true → WSs X a ρ P) (hb : p = false → WSs X b ρ P) : WS X (.If c a b pos) ρ P := fun M H0 F0 B H F σ cf bs Dn k =>
  ps_to (ps_if pt_s pss_s pss_s) (hc H F σ cf _ fun H1 F1 l1 => by
    cases p with
    | true => exact iteT (ha rfl M H0 F0 B H1 F1 σ (cf.mono l1) (bs.mono l1) Dn k)
    | false => exact iteF (hb rfl M H0 F0 B H1 F1 σ (cf.mono l1) (bs.mono l1) Dn k))

/-! ### targets -/
def putρ : List (Option D) → List (Nat × D) → List (Option D)
  | r, [] => r
  | r, (i, d) :: t => putρ (r.set i (some d)) t
def putσ : L2.St → List (Nat × V) → L2.St
  | σ, [] => σ
  | σ, (i, v) :: t => putσ (σ.set i (some v)) t
inductive RepS (K : PySem.W.Frag) (F : Hp) : List (Nat × D) → List (Nat × V) → Prop
  | nil : RepS K F [] []
  | cons {i : Nat} {d : D} {v : V} {ds : List (Nat × D)} {vs : List (Nat × V)} : Rep K F d v → RepS K F ds vs → RepS K F ((i, d) :: ds) ((i, v) :: vs)
theorem RepS.app {K : PySem.W.Frag} {F : Hp} : ∀ {ds es : List (Nat × D)} {vs ws : List (Nat × V)}, RepS K F ds vs → RepS K F es ws → RepS K F (ds ++ es) (vs ++ ws)
  | _, _, _, _, .nil, t => t
  | _, _, _, _, .cons r s, t => .cons r (RepS.app s t)
theorem putσ_app : ∀ (a b : List (Nat × V)) (σ : L2.St), putσ σ (a ++ b) = putσ (putσ σ a) b
  | [], _, _ => rfl
  | (i, v) :: a, b, σ => putσ_app a b _
theorem Cf.put {K : PySem.W.Frag} {H F : Hp} : ∀ (ds : List (Nat × D)) (vs : List (Nat × V)) (ρ : En) (σ : L2.St), RepS K F ds vs → Cf K H F ρ σ → Cf K H F ⟨ρ.o, putρ ρ.s ds⟩ (putσ σ vs)
  | [], _, ρ, σ, h, c => by
    cases h
    exact c
  | (i, d) :: ds, _, ρ, σ, h, c => by
    cases h with
    | cons r t => exact Cf.put ds _ ⟨ρ.o, ρ.s.set i (some d)⟩ (σ.set i (some _)) t (c.setF i r)
def WG (X : Cx) (tg : Expr) (d : D) (sets : List (Nat × D)) : Prop := ∀ (H F : Hp) (σ : L2.St) (v : V), Same F H → Rep X.K F d v → ∃ ws, RepS X.K F sets ws ∧ ∀ Q : L2.St → Hp → Prop, Q (putσ σ ws) H → sG X tg v σ H Q
def WGs (X : Cx) (ts : List Expr) (ds : List D) (sets : List (Nat × D)) : Prop := ∀ (H F : Hp) (σ : L2.St) (vs : List V), Same F H → RepL X.K F ds vs → ∃ ws, RepS X.K F sets ws ∧ ∀ Q : L2.St → Hp → Prop, Q (putσ σ ws) H → sGs X ts vs σ H Q
theorem wg_name (i : Nat) (hN : X.N.Nodup) (hi : X.N[i]? = some x) (hx : Loc X.env.scope x) (hf : X.fn x = true ∨ X.env.scope.names.lookup x = some .local := by first | exact .inl rfl | exact .inr rfl) : WG X (.Name x pos) d [(i, d)] :=
  fun H F σ v e r => ⟨[(i, v)], .cons r .nil, fun Q q => pg_to (pg_name hN hi hx hf) q⟩
theorem wgs_nil : WGs X [] [] [] := fun H F σ vs e r => by
  cases r
  exact ⟨[], .nil, fun Q q => pgs_to pgs_nil ⟨rfl, q⟩⟩
theorem wgs_cons {es : List Expr} {ds : List D} {s1 s2 : List (Nat × D)} (h1 : WG X e d s1) (h2 : WGs X es ds s2)
    (hs : (assignEach (e :: es) X.env).map (·.2) = assign e X.env :: (assignEach es X.env).map (·.2) := by rfl) : WGs X (e :: es) (d :: ds) (s1 ++ s2) := fun H F σ vs ex r => by
  cases r with
  | cons r rr =>
    obtain ⟨w1, r1, q1⟩ := h1 H F σ _ ex r
    obtain ⟨w2, r2, q2⟩ := h2 H F (putσ σ w1) _ ex rr
    refine ⟨w1 ++ w2, r1.app r2, fun Q q => pgs_to (pgs_cons pg_s pgs_s hs) ⟨_, _, rfl, q1 _ ?_⟩⟩
    rw [putσ_app] at q
    exact q2 Q q
theorem wg_tup {es : List Expr} {k : Nat} {ds : List D} {s : List (Nat × D)} (h : WGs X es ds s) (hc : X.calm = true := by rfl)
    (hn : (assignEach es X.env).length = ds.length := by rfl) (hst : (assignEach es X.env).findIdx? (·.1) = none := by rfl) : WG X (.Tuple es k pos) (.tup ds) s := fun H F σ v ex r => by
  cases r with
  | tup a r =>
    obtain ⟨ws, r1, q1⟩ := h H F σ _ ex r
    exact ⟨ws, r1, fun Q q => pg_to (pg_tup hc pgs_s hn hst) ⟨_, _, rfl, .inl (.inl (ex _ _ a)), r.length.symm, q1 Q q⟩⟩
theorem ws_asg {tg : Expr} {s : List (Nat × D)} (he : WE X e ρ d) (hg : WG X tg d s) (h : P.nx ⟨ρ.o, putρ ρ.s s⟩) (hs : swapsWithSole [tg] e pos.line X.env = pure false := by rfl) (hw : swappedStores [tg] e X.env = pure none := by rfl)
    (h1 : (assignEach [tg] X.env).map (·.2) = [assign tg X.env] := by rfl) : WS X (.Assign [tg] e pos) ρ P := fun M H0 F0 B H F σ c b Dn k =>
  ps_to (ps_asg pe_s pg_s hs hw h1) (he H F σ c _ fun v H1 F1 l r => by
    obtain ⟨ws, r1, q1⟩ := hg H1 F1 σ v l.ex r
    exact q1 _ (k.nx _ H1 F1 _ h (Cf.put _ _ _ _ r1 (c.mono l)) (b.mono l)))
/-- a new object of one's own to a name -/
theorem ws_asgN (i : Nat) (he : WN X e ρ d) (h : ∀ p, P.nx ⟨ρ.o ++ [⟨p, true, d⟩], ρ.s.set i (some (.ref p))⟩) (hN : X.N.Nodup) (hi : X.N[i]? = some x) (hx : Loc X.env.scope x) (hs : swapsWith e (some (.Name x p')) pos.line X.env = pure false := by rfl)
    (hf : X.fn x = true ∨ X.env.scope.names.lookup x = some .local := by first | exact .inl rfl | exact .inr rfl) : WS X (.Assign [.Name x p'] e pos) ρ P := fun M H0 F0 B H F σ c b Dn k =>
  ps_to (ps_set hN hi hx pe_s hs hf) (he H F σ c _ fun p H1 F1 l hn hf o => by
    have ne : ∀ q ∈ ρ.o, q.p ≠ p := fun q hq z => by
      obtain ⟨u, hu⟩ := (c.own q hq).2.there
      rw [z, hn] at hu
      cases hu
    exact k.nx _ H1 F1 _ (h p) (((c.mono l).addO hf o ne).setF i (.ref p)) ((b.mono l).addO (b.free hn)))

/-! ### lists of one's own -/
theorem ws_append {p : Addr} {nb : Bool} {ds : List D} {ap cp : Pos} (k : Nat) (ho : WE X o ρ (.ref p)) (hk : ρ.o[k]? = some ⟨p, nb, .lst ds⟩) (he : WE X e ρ d) (hl : ds.length < sizeLine) (h : P.nx ⟨ρ.o.set k ⟨p, nb, .lst (ds ++ [d])⟩, ρ.s⟩)
    (hs : swapsWith (.Call (.Attribute o "append" ap) [e] [] cp) none pos.line X.env = pure false := by rfl) (hbase : attributeBase o "append" X.env (eval o X.env) = eval o X.env := by rfl) (hline : (ap.endLine == cp.line) = true := by rfl)
    (hst : starEach [e] X.env = (false, eval e X.env) :: starEach [] X.env := by rfl)
    (hfew : ((backTo cp (starEach [e] X.env)).all (fun x => !x.1) && (backToKw cp (keywordEach [] X.env)).all (fun x => x.1.isSome) && decide ([e].length + ([] : List Keyword).length + (if ([] : List Keyword).isEmpty then 0 else 1) < 30)) = true := by rfl) :
    WS X (.Expr (.Call (.Attribute o "append" ap) [e] [] cp) pos) ρ P := fun M H0 F0 B H F σ c b Dn kk =>
  ps_to (ps_expr (pe_bm PySem.F.plainAttrs_list PySem.F.slot_list_append PySem.F.type_list_append mt_append pe_s (pa_cons pe_s pa_nil hst) hbase hfew hline hst rfl) hs) (ho H F σ c _ fun u H1 F1 l1 r1 => by
    cases r1
    obtain ⟨hf1, ho1⟩ := (c.mono l1).ownAt hk
    cases ho1 with
    | lst hp r =>
      refine ⟨.inl ⟨rfl, _, .inl (.inl hp)⟩, he H1 F1 σ (c.mono l1) _ fun v H2 F2 l2 r2 => ?_⟩
      have hp2 := l2.h _ _ hp
      have c2 := (c.mono l1).mono l2
      have b2 := (b.mono l1).mono l2
      refine ⟨p, _, v, rfl, rfl, hp2, by rw [← r.length]; exact hl, ?_⟩
      exact kk.nx _ _ F2 σ h (c2.change hk (.lst upd_same ((r.mono l2.f).append (.one r2)))) (b2.change c2 hk))
/-- .. a new object -/
theorem ws_appendN {p : Addr} {nb : Bool} {ds : List D} {ap cp : Pos} (k : Nat) (ho : WE X o ρ (.ref p)) (hk : ρ.o[k]? = some ⟨p, nb, .lst ds⟩) (he : WN X e ρ d) (hl : ds.length < sizeLine) (h : ∀ q : Addr, P.nx ⟨(ρ.o ++ [Ob.mk q true d]).set k (Ob.mk p nb (D.lst (ds ++ [D.ref q]))), ρ.s⟩)
    (hs : swapsWith (.Call (.Attribute o "append" ap) [e] [] cp) none pos.line X.env = pure false := by rfl) (hbase : attributeBase o "append" X.env (eval o X.env) = eval o X.env := by rfl) (hline : (ap.endLine == cp.line) = true := by rfl)
    (hst : starEach [e] X.env = (false, eval e X.env) :: starEach [] X.env := by rfl)
    (hfew : ((backTo cp (starEach [e] X.env)).all (fun x => !x.1) && (backToKw cp (keywordEach [] X.env)).all (fun x => x.1.isSome) && decide ([e].length + ([] : List Keyword).length + (if ([] : List Keyword).isEmpty then 0 else 1) < 30)) = true := by rfl) :
    WS X (.Expr (.Call (.Attribute o "append" ap) [e] [] cp) pos) ρ P := fun M H0 F0 B H F σ c b Dn kk =>
  ps_to (ps_expr (pe_bm PySem.F.plainAttrs_list PySem.F.slot_list_append PySem.F.type_list_append mt_append pe_s (pa_cons pe_s pa_nil hst) hbase hfew hline hst rfl) hs) (ho H F σ c _ fun u H1 F1 l1 r1 => by
    cases r1
    obtain ⟨hf1, ho1⟩ := (c.mono l1).ownAt hk
    cases ho1 with
    | lst hp r =>
      refine ⟨.inl ⟨rfl, _, .inl (.inl hp)⟩, he H1 F1 σ (c.mono l1) _ fun q H2 F2 l2 hn hf o2 => ?_⟩
      have hp2 := l2.h _ _ hp
      have c1 := c.mono l1
      have ne : ∀ z ∈ ρ.o, z.p ≠ q := fun z hz e => by
        obtain ⟨u, hu⟩ := (c1.own z hz).2.there
        rw [e, hn] at hu
        cases hu
      have c2 := (c1.mono l2).addO (b := true) hf o2 ne
      have b2 := ((b.mono l1).mono l2).addO (d := d) ((b.mono l1).free hn)
      have hk2 : (ρ.o ++ [Ob.mk q true d])[k]? = some (Ob.mk p nb (D.lst ds)) := by
        rw [List.getElem?_append_left (List.getElem?_eq_some_iff.mp hk).1]
        exact hk
      refine ⟨p, _, .ref q, rfl, rfl, hp2, by rw [← r.length]; exact hl, ?_⟩
      exact kk.nx _ _ F2 σ (h q) (c2.change (ρ := ⟨ρ.o ++ [⟨q, true, d⟩], ρ.s⟩) hk2 (.lst upd_same ((r.mono l2.f).append (.one (.ref q))))) (b2.change (ρ := ⟨ρ.o ++ [⟨q, true, d⟩], ρ.s⟩) c2 hk2))
/-- xs[i] = e -/
theorem ws_setIx {p : Addr} {nb : Bool} {ds : List D} {a : Expr} {i : Int} {j : Nat} (k : Nat) (ho : WE X o ρ (.ref p)) (hk : ρ.o[k]? = some ⟨p, nb, .lst ds⟩) (ha : WB X a ρ (.int i)) (he : WE X e ρ d) (hj : ixN ds.length i = some j) (h : P.nx ⟨ρ.o.set k ⟨p, nb, .lst (ds.set j d)⟩, ρ.s⟩)
    (hs : swapsWithSole [.Subscript o a p'] e pos.line X.env = pure false := by rfl) (hw : swappedStores [.Subscript o a p'] e X.env = pure none := by rfl) (h1 : (assignEach [.Subscript o a p'] X.env).map (·.2) = [assign (.Subscript o a p') X.env] := by rfl)
    (hg : ∀ v, assign (.Subscript o a p') X.env v = (do
      let ov ← holding [v] (eval o X.env)
      let iv ← holding [v, ov] (eval a X.env)
      standAt p'
      holding [v, ov, iv] (setItem ov iv v)
      release [v, ov, iv] []) := by intro _; rfl) : WS X (.Assign [.Subscript o a p'] e pos) ρ P := fun M H0 F0 B H F σ c b Dn kk =>
  ps_to (ps_asg pe_s (pg_sub pe_s pe_s set_list hg) hs hw h1) (he H F σ c _ fun v H1 F1 l1 r1 => ho H1 F1 σ (c.mono l1) _ fun u H2 F2 l2 r2 => ha H2 F2 σ ((c.mono l1).mono l2) _ fun w H3 F3 l3 r3 => by
    cases r2
    cases r3
    have l := (l1.trans l2).trans l3
    have c3 := c.mono l
    obtain ⟨hf1, ho1⟩ := c3.ownAt hk
    cases ho1 with
    | lst hp r =>
      refine ⟨p, _, i, j, rfl, rfl, hp, by rw [← r.length]; exact hj, ?_⟩
      exact kk.nx _ _ F3 σ h (c3.change hk (.lst upd_same (r.set ((r1.mono l2.f).mono l3.f) j))) ((b.mono l).change c3 hk))
/-- d[y] = e, whole numbers and texts -/
theorem ws_putK {p : Addr} {nb : Bool} {kvs : List (Key × D)} {a : Expr} {y : Key} (k : Nat) (ho : WE X o ρ (.ref p)) (hk : ρ.o[k]? = some ⟨p, nb, .dK kvs⟩) (ha : WB X a ρ (kD y)) (he : WE X e ρ d) (hl : kvs.length < sizeLine) (hu : X.A.units + 1 < cLine) (h : P.nx ⟨ρ.o.set k ⟨p, nb, .dK (putD kvs y d)⟩, ρ.s⟩)
    (hs : swapsWith e (some (.Subscript o a p')) pos.line X.env = pure false := by rfl) : WS X (.Assign [.Subscript o a p'] e pos) ρ P := fun M H0 F0 B H F σ c b Dn kk =>
  ps_to (ps_dput hu pe_s pe_s pe_s hs) (he H F σ c _ fun v H1 F1 l1 r1 => ho H1 F1 σ (c.mono l1) _ fun u H2 F2 l2 r2 => ha H2 F2 σ ((c.mono l1).mono l2) _ fun w H3 F3 l3 r3 => by
    cases r2
    have l := (l1.trans l2).trans l3
    have c3 := c.mono l
    obtain ⟨hf1, ho1⟩ := c3.ownAt hk
    rw [kD_val r3]
    cases ho1 with
    | dK hp r =>
      refine ⟨p, _, rfl, DPut.k hp (by rw [← repK_len r]; exact hl), ?_⟩
      exact kk.nx _ _ F3 σ h (c3.change hk (.dK upd_same (repK_put r y ((r1.mono l2.f).mono l3.f)))) ((b.mono l).change c3 hk))

/-! ### what is walked -/
/-- J yields the data xs wherever B is there still; they stand by F -/
structure ItOk (K : PySem.W.Frag) (B F : Hp) (J : It) (xs : List D) : Prop where
  go : ∀ (i : Nat) (H : Hp), Same B H → i < xs.length → J.go i H
  stop : ∀ (i : Nat) (H : Hp), Same B H → xs.length ≤ i → J.stop i H
  yld : ∀ (i : Nat) (H F' : Hp) (x : V) (H' : Hp) (d : D), Same B H → Same F F' → Same F' H → xs[i]? = some d → J.yld i H x H' → ∃ F'', Le H F' H' F'' ∧ Rep K F'' d x
theorem ItOk.weak {K : PySem.W.Frag} {B B' F : Hp} {J : It} {xs : List D} (h : ItOk K B F J xs) (s : Same B B') : ItOk K B' F J xs :=
  ⟨fun i H e => h.go i H (s.trans e), fun i H e => h.stop i H (s.trans e), fun i H F' x H' d e => h.yld i H F' x H' d (s.trans e)⟩
/-- an iterator over xs that one's own doings leave -/
def WI (X : Cx) (tg iter : Expr) (ρ : En) (xs : List D) : Prop := ∃ wi : TI, PI X tg iter wi ∧ ∀ (H F : Hp) (σ : L2.St), Cf X.K H F ρ σ → ∀ R : It → Hp → Prop, (∀ J H' F', Le H F H' F' → ItOk X.K F' F' J xs → R J H') → wi σ H R
/-- .. that stays while nothing changes -/
def WIo (X : Cx) (tg iter : Expr) (ρ : En) (xs : List D) : Prop := ∃ wi : TI, PI X tg iter wi ∧ ∀ (H F : Hp) (σ : L2.St), Cf X.K H F ρ σ → ∀ R : It → Hp → Prop, (∀ J H' F', Le H F H' F' → ItOk X.K H' F' J xs → R J H') → wi σ H R
variable {tg iter a b : Expr} {xs : List D}
theorem wio_wi (h : WI X tg iter ρ xs) : WIo X tg iter ρ xs := let ⟨wi, p, q⟩ := h; ⟨wi, p, fun H F σ c R r => q H F σ c R fun J H' F' l i => r J H' F' l (i.weak l.ex)⟩
theorem it_list {K : PySem.W.Frag} {B F : Hp} {a : Addr} {vs : List V} (s : Rd B a (.lst vs)) (r : RepL K F xs vs) : ItOk K B F (Itl K a) xs := by
  refine ⟨fun i H e hi => ?_, fun i H e hi => ?_, fun i H F' x H' d e f ex hd y => ?_⟩
  · obtain ⟨v, hv, _⟩ := r.get (List.getElem?_eq_getElem hi)
    exact ⟨vs, v, .inl (same_rd e s), hv⟩
  · exact ⟨vs, .inl (same_rd e s), by rw [← r.length]; exact hi⟩
  · obtain ⟨y1, y2⟩ := y
    obtain ⟨v, hv, rv⟩ := r.get hd
    have z := y2 vs (.inl (same_rd e s))
    rw [hv] at z
    cases z
    rw [y1]
    exact ⟨F', Le.refl ex, rv.mono f⟩
theorem it_tup {K : PySem.W.Frag} {B F : Hp} {a : Addr} {vs : List V} (s : B a = some (.tup vs)) (r : RepL K F xs vs) : ItOk K B F (Itt K a) xs := by
  refine ⟨fun i H e hi => ?_, fun i H e hi => ?_, fun i H F' x H' d e f ex hd y => ?_⟩
  · obtain ⟨v, hv, _⟩ := r.get (List.getElem?_eq_getElem hi)
    exact ⟨vs, v, .inl (.inl (e _ _ s)), hv⟩
  · exact ⟨vs, .inl (.inl (e _ _ s)), by rw [← r.length]; exact hi⟩
  · obtain ⟨y1, y2⟩ := y
    obtain ⟨v, hv, rv⟩ := r.get hd
    have z := y2 vs (.inl (.inl (e _ _ s)))
    rw [hv] at z
    cases z
    rw [y1]
    exact ⟨F', Le.refl ex, rv.mono f⟩
theorem wi_list (h : WE X e ρ (.lst xs)) : WI X tg e ρ xs := ⟨_, pi_list pe_s, fun H F σ c R q => h H F σ c _ fun v H' F' l r => by
  cases r with
  | lst s r => exact ⟨_, rfl, ⟨_, .inl (same_rd l.ex s)⟩, q _ H' F' l (it_list s r)⟩⟩
theorem wi_tup (h : WE X e ρ (.tup xs)) : WI X tg e ρ xs := ⟨_, pi_tup pe_s, fun H F σ c R q => h H F σ c _ fun v H' F' l r => by
  cases r with
  | tup s r => exact ⟨_, rfl, ⟨_, .inl (.inl (l.ex _ _ s))⟩, q _ H' F' l (it_tup s r)⟩⟩
/-- a list of one's own -/
theorem wio_own {p : Addr} {nb : Bool} (k : Nat) (h : WE X e ρ (.ref p)) (hk : ρ.o[k]? = some ⟨p, nb, .lst xs⟩) : WIo X tg e ρ xs := ⟨_, pi_list pe_s, fun H F σ c R q => h H F σ c _ fun v H' F' l r => by
  cases r
  obtain ⟨h1, h2⟩ := (c.mono l).ownAt hk
  cases h2 with
  | lst s r => exact ⟨_, rfl, ⟨_, .inl (.inl s)⟩, q _ H' F' l (it_list (.inl s) r)⟩⟩
/-- a text, sign by sign -/
theorem wi_str {s : Str} (h : WE X e ρ (.str s)) : WI X tg e ρ (s.cps.toList.map fun c => D.str ⟨#[c]⟩) := ⟨_, pi_str pe_s, fun H F σ c R q => h H F σ c _ fun v H' F' l r => by
  cases r
  refine ⟨s, rfl, q _ H' F' l ⟨fun i H e hi => ?_, fun i H e hi => ?_, fun i H F'' x H'' d e f ex hd y => ?_⟩⟩
  · show i < s.cps.size
    simpa using hi
  · show s.cps.size ≤ i
    simpa using hi
  · obtain ⟨y1, c, hc, y2⟩ := y
    rw [y1, y2]
    rw [List.getElem?_map, Array.getElem?_toList, hc] at hd
    cases hd
    exact ⟨F'', Le.refl ex, .str _⟩⟩
theorem it_rng {K : PySem.W.Frag} {B F : Hp} {lo : Int} {n : Nat} : ItOk K B F (Itr lo n) ((List.range n).map fun i : Nat => D.int (lo + (i : Int))) := by
  refine ⟨fun i H e hi => by (show i < n); simpa using hi, fun i H e hi => by (show n ≤ i); simpa using hi, fun i H F' x H' d e f ex hd y => ?_⟩
  obtain ⟨y1, y2⟩ := y
  have hi : i < n := by
    have := (List.getElem?_eq_some_iff.mp hd).1
    simpa using this
  rw [List.getElem?_map, List.getElem?_range hi] at hd
  cases hd
  rw [y1, y2]
  exact ⟨F', Le.refl ex, .int _⟩
theorem wi_rng1 {j : Int} {p pos : Pos} (ha : WB X a ρ (.int j)) (h1 : -(2 ^ 62) ≤ j) (h2 : j < 2 ^ 62) (hm : X.mg "range" = none) (hg : Gl X "range" := by rfl) (hs : starEach [a] X.env = [(false, eval a X.env)] := by rfl) :
    WI X tg (.Call (.Name "range" p) [a] [] pos) ρ ((List.range j.toNat).map fun i : Nat => D.int (i : Int)) := ⟨_, pi_range1 hg hm pa_s hs, fun H F σ c R q => wab_cons ha wab_nil hs H F σ c _ fun vs H1 F1 l r => by
  cases r with
  | cons r1 r2 =>
    cases r2
    cases r1
    have z := q (Itr 0 j.toNat) H1 F1 l (by
      have := it_rng (K := X.K) (B := F1) (F := F1) (lo := 0) (n := j.toNat)
      simpa using this)
    exact ⟨j, rfl, h1, h2, z⟩⟩
theorem wi_rng2 {i j : Int} {p pos : Pos} (ha : WB X a ρ (.int i)) (hb : WB X b ρ (.int j)) (h1 : -(2 ^ 62) ≤ i) (h2 : i < 2 ^ 62) (h3 : -(2 ^ 62) ≤ j) (h4 : j < 2 ^ 62) (hm : X.mg "range" = none) (hg : Gl X "range" := by rfl)
    (hs : starEach [a, b] X.env = [(false, eval a X.env), (false, eval b X.env)] := by rfl) (hs2 : starEach [b] X.env = [(false, eval b X.env)] := by rfl) :
    WI X tg (.Call (.Name "range" p) [a, b] [] pos) ρ ((List.range (j - i).toNat).map fun k : Nat => D.int (i + (k : Int))) := ⟨_, pi_range2 hg hm pa_s hs hs2, fun H F σ c R q => wab_cons ha (wab_cons hb wab_nil hs2) (by rw [hs, hs2]) H F σ c _ fun vs H1 F1 l r => by
  cases r with
  | cons r1 r2 =>
    cases r2 with
    | cons r2 r3 =>
      cases r3
      cases r1
      cases r2
      exact ⟨i, j, rfl, ⟨h1, h2, h3, h4⟩, q _ H1 F1 l it_rng⟩⟩

/-! ### for -/
theorem ws_forI {body : List Stmt} {ρ0 : En} (hw : WI X tg iter ρ xs) (I : Nat → En → Prop) (w0 : Wk ρ ρ0) (h0 : I 0 ρ0)
    (hb : ∀ (i : Nat) (d : D) (ρ1 : En), xs[i]? = some d → I i ρ1 → ∃ sets, WG X tg d sets ∧ WSs X body ⟨ρ1.o, putρ ρ1.s sets⟩ ⟨I (i + 1), P.rt, P.nx, I (i + 1)⟩)
    (hd : ∀ ρ1, I xs.length ρ1 → P.nx ρ1) (hp : PassesOwn (model X.prog X.w) X.A X.env X.xe) (hc : X.calm = true := by rfl) (hs : ∀ x, foldedSetIterable iter X.env x = pure x := by intro _; rfl) : WS X (.For tg iter body [] pos) ρ P := fun M H0 F0 B H F σ c b Dn k => by
  obtain ⟨wi, pi, hwi⟩ := hw
  refine ps_to (ps_for hp hc pi pg_s pss_s hs) (hwi H F σ c _ fun J H1 F1 l it => ?_)
  let St := fun (i : Nat) (σ : L2.St) (H : Hp) => ∃ ρ1 F', I i ρ1 ∧ Cf X.K H F' ρ1 σ ∧ Bs M H0 F0 B H F' ρ1.o ∧ Same F1 F'
  refine ⟨fun i m σ H => i + m = xs.length ∧ St i σ H, ⟨xs.length, by simp, ρ0, F1, h0, (c.mono l).wk w0, (b.mono l).wk w0, Same.refl F1⟩, ?_⟩
  rintro i m σ H ⟨em, ρ1, F', hI, c1, b1, sF⟩
  have sB : Same F1 H := sF.trans c1.ex
  by_cases hi : i < xs.length
  · refine .inr ⟨it.go i H sB hi, St (i + 1), fun σ' H' n => ⟨m - 1, by omega, by omega, n⟩, fun x H' y => ?_⟩
    have hd' := List.getElem?_eq_getElem hi
    obtain ⟨F'', l2, r⟩ := it.yld i H F' x H' _ sB sF c1.ex hd' y
    obtain ⟨sets, g, w⟩ := hb i _ ρ1 hd' hI
    obtain ⟨ws, rs, q⟩ := g H' F'' σ x l2.ex r
    refine q _ ?_
    have c2 := Cf.put _ _ _ _ rs (c1.mono l2)
    have b2 := (b1.mono l2).up
    refine w M H0 F0 F'' H' F'' (putσ σ ws) c2 b2 _ ⟨fun ρ H F σ n c b => ?_, fun γ d v H F n c b => k.rt γ d v H F n c (b.down (b1.fb.trans l2.f)), fun ρ H F σ n c b => k.nx ρ H F σ n c (b.down (b1.fb.trans l2.f)), fun ρ H F σ n c b => ?_⟩
    · exact ⟨ρ, F, n, c, b.down (b1.fb.trans l2.f), (sF.trans l2.f).trans b.fb⟩
    · exact ⟨ρ, F, n, c, b.down (b1.fb.trans l2.f), (sF.trans l2.f).trans b.fb⟩
  · have e : i = xs.length := by omega
    subst e
    exact .inl ⟨it.stop _ H sB (Nat.le_refl _), k.nx ρ1 H F' σ (hd ρ1 hI) c1 b1⟩
end
end DL
/-! DLe: for by prefixes, comprehensions, a def's promise from its body. -/
namespace DL
open PySem PySem.Spec PyProof.Rows L2

section
variable {X : Cx} {ρ : En} {P : Post} {tg iter : Expr} {pos : Pos} {body : List Stmt}
theorem take_cons {τ : Type} {l : List τ} {i : Nat} {x : τ} (h : l[i]? = some x) : l = l.take i ++ x :: l.drop (i + 1) ∧ l.take (i + 1) = l.take i ++ [x] := by
  obtain ⟨hi, e⟩ := List.getElem?_eq_some_iff.mp h
  refine ⟨?_, ?_⟩
  · rw [← e, ← List.drop_eq_getElem_cons hi, List.take_append_drop]
  · rw [List.take_add_one, h]
    rfl
/-- for, by what was walked -/
theorem ws_for {τ : Type} {l : List τ} {enc : τ → D} (E : List τ → En) (hw : WI X tg iter ρ (l.map enc)) (h0 : Wk ρ (E []))
    (hb : ∀ (pre : List τ) (x : τ) (post : List τ), l = pre ++ x :: post → ∃ sets, WG X tg (enc x) sets ∧ WSs X body ⟨(E pre).o, putρ (E pre).s sets⟩ ⟨fun r => r = E (pre ++ [x]), P.rt, P.nx, fun r => r = E (pre ++ [x])⟩)
    (hd : P.nx (E l)) (hp : PassesOwn (model X.prog X.w) X.A X.env X.xe := by exact PassesOwn.never) (hc : X.calm = true := by rfl) (hs : ∀ x, foldedSetIterable iter X.env x = pure x := by intro _; rfl) : WS X (.For tg iter body [] pos) ρ P := by
  refine ws_forI hw (fun i r => r = E (l.take i)) h0 rfl (fun i d ρ1 hi hr => ?_) (fun ρ1 hr => ?_) hp hc hs
  · rw [List.getElem?_map] at hi
    cases hx : l[i]? with
    | none =>
      rw [hx] at hi
      cases hi
    | some x =>
      rw [hx] at hi
      cases hi
      obtain ⟨e1, e2⟩ := take_cons hx
      obtain ⟨sets, g, w⟩ := hb _ x _ e1
      subst hr
      rw [← e2] at w
      exact ⟨sets, g, w⟩
  · rw [hr, List.length_map, List.take_length]
    exact hd

/-! ### comprehensions -/
def wipeρ (r : List (Option D)) : List Nat → List (Option D)
  | [] => r
  | v :: vs => (wipeρ r vs).set v none
theorem Cf.wipe {K : PySem.W.Frag} {H F : Hp} {ρ : En} {σ : L2.St} (c : Cf K H F ρ σ) : ∀ vs : List Nat, Cf K H F ⟨ρ.o, wipeρ ρ.s vs⟩ (L2.wipe σ vs)
  | [] => c
  | v :: vs => (Cf.wipe c vs).setN v none
theorem wipe_set {σ : L2.St} {i : Nat} {v : Option V} : ∀ {vs : List Nat}, i ∈ vs → L2.wipe (σ.set i v) vs = L2.wipe σ vs
  | [], h => by cases h
  | j :: vs, h => by
    unfold L2.wipe
    by_cases e : i ∈ vs
    · rw [wipe_set e]
    · have ij : i = j := by
        rcases List.mem_cons.mp h with z | z
        · exact z
        · exact absurd z e
      subst ij
      have key : ∀ (vs : List Nat) (σ : L2.St), i ∉ vs → L2.wipe (σ.set i v) vs = (L2.wipe σ vs).set i v := by
        intro vs
        induction vs with
        | nil => intro σ _; rfl
        | cons k vs ih =>
          intro σ hn
          unfold L2.wipe
          rw [ih σ fun z => hn (List.mem_cons_of_mem _ z), List.set_comm]
          exact fun z => hn (by rw [z]; exact List.mem_cons_self)
      rw [key vs σ e, List.set_set]
theorem wipe_put {vs : List Nat} : ∀ {ws : List (Nat × V)} {σ : L2.St}, (∀ q ∈ ws, q.1 ∈ vs) → L2.wipe (putσ σ ws) vs = L2.wipe σ vs
  | [], _, _ => rfl
  | (i, v) :: ws, σ, h => by
    show L2.wipe (putσ (σ.set i (some v)) ws) vs = _
    rw [wipe_put (ws := ws) fun q hq => h q (List.mem_cons_of_mem _ hq), wipe_set (h (i, v) List.mem_cons_self)]
theorem wipe_wipe (σ : L2.St) : ∀ vs : List Nat, L2.wipe (L2.wipe σ vs) vs = L2.wipe σ vs
  | [] => rfl
  | v :: vs => by
    show (L2.wipe ((L2.wipe σ vs).set v none) vs).set v none = (L2.wipe σ vs).set v none
    by_cases e : v ∈ vs
    · rw [wipe_set e, wipe_wipe σ vs]
    · have key : ∀ (ws : List Nat) (σ : L2.St), v ∉ ws → L2.wipe (σ.set v none) ws = (L2.wipe σ ws).set v none := by
        intro ws
        induction ws with
        | nil => intro σ _; rfl
        | cons k ws ih =>
          intro σ hn
          show (L2.wipe (σ.set v none) ws).set k none = ((L2.wipe σ ws).set k none).set v none
          rw [ih σ fun z => hn (List.mem_cons_of_mem _ z), List.set_comm]
          exact fun z => hn (by rw [z]; exact List.mem_cons_self)
      rw [key vs _ e, wipe_wipe σ vs, List.set_set]
theorem RepS.keys {K : PySem.W.Frag} {F : Hp} {vs : List Nat} : ∀ {ds : List (Nat × D)} {ws : List (Nat × V)}, RepS K F ds ws → (ds.all fun q => vs.contains q.1) = true → ∀ q ∈ ws, q.1 ∈ vs
  | _, _, .nil, _, q, hq => by cases hq
  | _, _, .cons r t, h, q, hq => by
    rw [List.all_cons, Bool.and_eq_true] at h
    rcases List.mem_cons.mp hq with e | e
    · subst e
      simpa using h.1
    · exact RepS.keys t h.2 q e
variable {elt cnd : Expr} {scope : Scope} {ifs : List Expr}
/-- the block's contexts -/
abbrev bX (X : Cx) (scope : Scope) (s : Shared) (H : Hp) (C : Addr) (cl : List (Str × Addr)) (fp : List Addr) : Cx := X.blk s H scope (compEnvC scope cl C X.env) fp
def bG (X : Cx) (scope : Scope) (tg : Expr) : TG := fun v σ H Q => ∀ s H0 C cl fp, sG (bX X scope s H0 C cl fp) tg v σ H Q
def bE (X : Cx) (scope : Scope) (e : Expr) : TE := fun σ H Q => ∀ s H0 C cl fp, sE (bX X scope s H0 C cl fp) e σ H Q
def bT (X : Cx) (scope : Scope) (e : Expr) : TT := fun σ H Q => ∀ s H0 C cl fp, sT (bX X scope s H0 C cl fp) e σ H Q
/-- an item's turn: the target's slots, the item's data -/
structure Elt (X : Cx) (scope : Scope) (tg elt : Expr) (ρ : En) (vs : List Nat) (d : D) (out : D) : Prop where
  ex : ∃ sets : List (Nat × D), (sets.all fun q => vs.contains q.1) = true ∧ (∀ s H0 C cl fp, WG (bX X scope s H0 C cl fp) tg d sets) ∧ ∀ s H0 C cl fp, WE (bX X scope s H0 C cl fp) elt ⟨ρ.o, putρ (wipeρ ρ.s vs) sets⟩ out
structure EltIf (X : Cx) (scope : Scope) (tg elt cnd : Expr) (ρ : En) (vs : List Nat) (d : D) (p : Bool) (out : D) : Prop where
  ex : ∃ sets : List (Nat × D), (sets.all fun q => vs.contains q.1) = true ∧ (∀ s H0 C cl fp, WG (bX X scope s H0 C cl fp) tg d sets) ∧ (∀ s H0 C cl fp, WT (bX X scope s H0 C cl fp) cnd ⟨ρ.o, putρ (wipeρ ρ.s vs) sets⟩ p) ∧
    (p = true → ∀ s H0 C cl fp, WE (bX X scope s H0 C cl fp) elt ⟨ρ.o, putρ (wipeρ ρ.s vs) sets⟩ out)
theorem lc_run {H F : Hp} {σ : L2.St} {Q : VK} {τ : Type} {l : List τ} {enc : τ → D} {f : τ → D} {p : τ → Bool} {vs : List Nat} {wi : TI} {tt : TT} (hwi : ∀ (H F : Hp) (σ : L2.St), Cf X.K H F ρ σ → ∀ R : It → Hp → Prop, (∀ J H' F', Le H F H' F' → ItOk X.K H' F' J (l.map enc) → R J H') → wi σ H R)
    (hl : l.length < sizeLine)
    (hb : ∀ x ∈ l, ∃ sets : List (Nat × D), (sets.all fun q => vs.contains q.1) = true ∧ (∀ s H0 C cl fp, WG (bX X scope s H0 C cl fp) tg (enc x) sets) ∧
      (∀ (H F : Hp) (σ : L2.St), Cf X.K H F ⟨ρ.o, putρ (wipeρ ρ.s vs) sets⟩ σ → ∀ Q : Bool → Hp → Prop, (∀ H' F', Le H F H' F' → Q (p x) H') → tt σ H Q) ∧
      (p x = true → ∀ s H0 C cl fp, WE (bX X scope s H0 C cl fp) elt ⟨ρ.o, putρ (wipeρ ρ.s vs) sets⟩ (f x)))
    (c : Cf X.K H F ρ σ) (q : ∀ p' H' F', Le H F H' F' → H p' = none → F' p' = none → OwnOk X.K H' F' (.lst ((l.filter p).map f)) p' → Q (.ref p') H') :
    tLc wi (bG X scope tg) tt (bE X scope elt) vs σ H Q := by
  refine hwi H F σ c _ fun J H1 F1 l1 it D0 hD => ?_
  have c1 := c.mono l1
  have hF1 : F1 D0 = none := l1.ex.free hD
  let St := fun (i : Nat) (H : Hp) => ∃ F' acc, Same H1 H ∧ Le H1 F1 H F' ∧ H D0 = some (.lst acc) ∧ F' D0 = none ∧ RepL X.K F' (((l.take i).filter p).map f) acc
  refine ⟨fun i m H => i + m = l.length ∧ St i H, ⟨l.length, by simp, F1, [], same_new hD, Le.newO l1.ex hD, upd_same, hF1, .nil⟩, ?_⟩
  rintro i m H2 ⟨em, F2, acc, s2, l2, d2, f2, r2⟩
  by_cases hi : i < l.length
  · have hx := List.getElem?_eq_getElem hi
    obtain ⟨e1, e2⟩ := take_cons hx
    obtain ⟨sets, hs, hg, ht, he⟩ := hb _ (List.getElem_mem hi)
    refine .inr ⟨it.go i H2 s2 (by rw [List.length_map]; exact hi), St (i + 1), fun H' n => ⟨m - 1, by omega, by omega, n⟩, fun x H3 y => ?_⟩
    have hd : (l.map enc)[i]? = some (enc l[i]) := by rw [List.getElem?_map, hx]; rfl
    obtain ⟨F3, l3, r3⟩ := it.yld i H2 F2 x H3 _ s2 l2.f l2.ex hd y
    intro s H0 C cl fp
    have l13 := l2.trans l3
    have c3 := (c1.mono l13).wipe vs
    obtain ⟨ws, rs, qg⟩ := hg s H0 C cl fp H3 F3 (L2.wipe σ vs) x l3.ex r3
    have c4 := Cf.put _ _ _ _ rs c3
    refine qg _ ⟨?_, ht H3 F3 _ c4 _ fun H4 F4 l4 => ?_⟩
    · rw [wipe_put (rs.keys hs), wipe_wipe]
    · have l14 := l13.trans l4
      have d4 : H4 D0 = some (.lst acc) := l4.h _ _ (l3.h _ _ d2)
      have f4 : F4 D0 = none := l4.pr _ _ (l3.h _ _ d2) (l3.pr _ _ d2 f2)
      by_cases hp : p l[i] = true
      · rw [hp]
        show bE X scope elt _ H4 _
        intro s5 H5 C5 cl5 fp5
        refine he hp s5 H5 C5 cl5 fp5 H4 F4 _ (c4.mono l4) _ fun v H6 F6 l6 r6 => ?_
        have d6 : H6 D0 = some (.lst acc) := l6.h _ _ d4
        have f6 : F6 D0 = none := l6.pr _ _ d4 f4
        have r6' := ((r2.mono l3.f).mono l4.f).mono l6.f
        have hacc : acc.length < sizeLine := by
          rw [← r6'.length, List.length_map]
          refine Nat.lt_of_le_of_lt (List.length_filter_le ..) ?_
          rw [List.length_take]
          omega
        refine ⟨acc, d6, hacc, F6, acc ++ [v], ?_, ?_, upd_same, f6, ?_⟩
        · exact same_mut (l14.trans l6).h hD
        · have l16 := l14.trans l6
          refine ⟨same_mut l16.h hD, l16.f, same_mut l16.ex f6, l16.pr⟩
        · rw [e2, List.filter_append, List.filter_cons_of_pos hp, List.filter_nil, List.map_append]
          exact r6'.append (.one r6)
      · have hp' : p l[i] = false := by simpa using hp
        rw [hp']
        refine ⟨F4, acc, l14.h, l14, d4, f4, ?_⟩
        rw [e2, List.filter_append, List.filter_cons_of_neg hp, List.filter_nil, List.append_nil]
        exact (r2.mono l3.f).mono l4.f
  · have e : i = l.length := by omega
    subst e
    rw [List.take_length] at r2
    exact .inl ⟨it.stop _ H2 s2 (by rw [List.length_map]; exact Nat.le_refl _), q D0 H2 F2 (l1.trans l2) (l1.h.free hD) f2 (.lst d2 r2)⟩
theorem wn_lc {τ : Type} {l : List τ} {enc : τ → D} {f : τ → D} {own : List (Str × Nat)} (hw : WIo X tg iter ρ (l.map enc)) (hl : l.length < sizeLine) (ok : blkC X.N X.env.scope scope own = true)
    (hb : ∀ x ∈ l, Elt X scope tg elt ρ (own.map (·.2)) (enc x) (f x)) (hN : X.N.Nodup) (hc : X.calm = true := by rfl) (hs : ∀ x, foldedSetIterable iter X.env x = pure x := by intro _; rfl) :
    WN X (.ListComp elt [⟨tg, iter, [], 0⟩] scope pos) ρ (.lst (l.map f)) := fun H F σ c Q q => by
  obtain ⟨wi, pi, hwi⟩ := hw
  refine pe_to (pe_lc (tt := tYes) (g := bG X scope tg) (te := bE X scope elt) hc hN pi (blkOk_by ok) (fun s H C cl fp => ⟨fun pins s' _ _ _ u _ I r h => h s H C cl fp pins s' u I r⟩) (fun _ _ _ _ _ => pts_nil) (fun s H C cl fp => ⟨fun pins s' _ _ _ I h => h s H C cl fp pins s' I⟩) hs)
    (lc_run (p := fun _ => true) (f := f) hwi hl (fun x hx => ?_) c fun p' H' F' l' a1 a2 o => ?_)
  · obtain ⟨sets, h1, h2, h3⟩ := (hb x hx).ex
    exact ⟨sets, h1, h2, fun H F σ c Q q => q H F (Le.refl c.ex), fun _ => h3⟩
  · rw [List.filter_eq_self.mpr fun _ _ => rfl] at o
    exact q p' H' F' l' a1 a2 o
theorem wn_lcIf {τ : Type} {l : List τ} {enc : τ → D} {f : τ → D} {p : τ → Bool} {own : List (Str × Nat)} (hw : WIo X tg iter ρ (l.map enc)) (hl : l.length < sizeLine) (ok : blkC X.N X.env.scope scope own = true)
    (hb : ∀ x ∈ l, EltIf X scope tg elt cnd ρ (own.map (·.2)) (enc x) (p x) (f x)) (hN : X.N.Nodup) (hc : X.calm = true := by rfl) (hs : ∀ x, foldedSetIterable iter X.env x = pure x := by intro _; rfl) :
    WN X (.ListComp elt [⟨tg, iter, [cnd], 0⟩] scope pos) ρ (.lst ((l.filter p).map f)) := fun H F σ c Q q => by
  obtain ⟨wi, pi, hwi⟩ := hw
  refine pe_to (pe_lc (tt := bT X scope cnd) (g := bG X scope tg) (te := bE X scope elt) hc hN pi (blkOk_by ok) (fun s H C cl fp => ⟨fun pins s' _ _ _ u _ I r h => h s H C cl fp pins s' u I r⟩) (fun s H C cl fp => pts_one ⟨fun pins s' _ _ _ I h => h s H C cl fp pins s' I⟩) (fun s H C cl fp => ⟨fun pins s' _ _ _ I h => h s H C cl fp pins s' I⟩) hs)
    (lc_run (p := p) (f := f) hwi hl (fun x hx => ?_) c q)
  obtain ⟨sets, h1, h2, h3, h4⟩ := (hb x hx).ex
  exact ⟨sets, h1, h2, fun H F σ c Q q s H0 C cl fp => h3 s H0 C cl fp H F σ c Q q, h4⟩
/-- name = [..] on one line -/
theorem ws_setLc {τ : Type} {l : List τ} {enc : τ → D} {f : τ → D} {own : List (Str × Nat)} {y : Str} {py spos : Pos} (i : Nat) (hw : WIo X tg iter ρ (l.map enc)) (hl : l.length < sizeLine) (ok : blkC X.N X.env.scope scope own = true)
    (hb : ∀ x ∈ l, Elt X scope tg elt ρ (own.map (·.2)) (enc x) (f x)) (h : ∀ p, P.nx ⟨ρ.o ++ [⟨p, true, .lst (l.map f)⟩], ρ.s.set i (some (.ref p))⟩) (hN : X.N.Nodup) (hy : X.N[i]? = some y) (hyl : X.env.scope.names.lookup y = some .local)
    (hsw : swapsWith (.ListComp elt [⟨tg, iter, [], 0⟩] scope pos) (some (.Name y py)) spos.line X.env = pure true) (hc : X.calm = true := by rfl) (hs : ∀ x, foldedSetIterable iter X.env x = pure x := by intro _; rfl) :
    WS X (.Assign [.Name y py] (.ListComp elt [⟨tg, iter, [], 0⟩] scope pos) spos) ρ P := fun M H0 F0 B H F σ c b Dn k => by
  obtain ⟨wi, pi, hwi⟩ := hw
  refine ps_to (ps_setLc (i := i) (tt := tYes) (g := bG X scope tg) (te := bE X scope elt) hc hN hy hyl hsw pi (blkOk_by ok) (fun s H C cl fp => ⟨fun pins s' _ _ _ u _ I r h => h s H C cl fp pins s' u I r⟩) (fun _ _ _ _ _ => pts_nil) (fun s H C cl fp => ⟨fun pins s' _ _ _ I h => h s H C cl fp pins s' I⟩) hs)
    (lc_run (p := fun _ => true) (f := f) hwi hl (fun x hx => ?_) c fun p H1 F1 l hn hf o => ?_)
  · obtain ⟨sets, h1, h2, h3⟩ := (hb x hx).ex
    exact ⟨sets, h1, h2, fun H F σ c Q q => q H F (Le.refl c.ex), fun _ => h3⟩
  · rw [List.filter_eq_self.mpr fun _ _ => rfl] at o
    have ne : ∀ q ∈ ρ.o, q.p ≠ p := fun q hq z => by
      obtain ⟨u, hu⟩ := (c.own q hq).2.there
      rw [z, hn] at hu
      cases hu
    exact k.nx _ H1 F1 _ (h p) (((c.mono l).addO hf o ne).setF i (.ref p)) ((b.mono l).addO (b.free hn))
theorem ws_setLcIf {τ : Type} {l : List τ} {enc : τ → D} {f : τ → D} {p : τ → Bool} {own : List (Str × Nat)} {y : Str} {py spos : Pos} (i : Nat) (hw : WIo X tg iter ρ (l.map enc)) (hl : l.length < sizeLine) (ok : blkC X.N X.env.scope scope own = true)
    (hb : ∀ x ∈ l, EltIf X scope tg elt cnd ρ (own.map (·.2)) (enc x) (p x) (f x)) (h : ∀ q, P.nx ⟨ρ.o ++ [⟨q, true, .lst ((l.filter p).map f)⟩], ρ.s.set i (some (.ref q))⟩) (hN : X.N.Nodup) (hy : X.N[i]? = some y) (hyl : X.env.scope.names.lookup y = some .local)
    (hsw : swapsWith (.ListComp elt [⟨tg, iter, [cnd], 0⟩] scope pos) (some (.Name y py)) spos.line X.env = pure true) (hc : X.calm = true := by rfl) (hs : ∀ x, foldedSetIterable iter X.env x = pure x := by intro _; rfl) :
    WS X (.Assign [.Name y py] (.ListComp elt [⟨tg, iter, [cnd], 0⟩] scope pos) spos) ρ P := fun M H0 F0 B H F σ c b Dn k => by
  obtain ⟨wi, pi, hwi⟩ := hw
  refine ps_to (ps_setLc (i := i) (tt := bT X scope cnd) (g := bG X scope tg) (te := bE X scope elt) hc hN hy hyl hsw pi (blkOk_by ok) (fun s H C cl fp => ⟨fun pins s' _ _ _ u _ I r h => h s H C cl fp pins s' u I r⟩) (fun s H C cl fp => pts_one ⟨fun pins s' _ _ _ I h => h s H C cl fp pins s' I⟩) (fun s H C cl fp => ⟨fun pins s' _ _ _ I h => h s H C cl fp pins s' I⟩) hs)
    (lc_run (p := p) (f := f) hwi hl (fun x hx => ?_) c fun p H1 F1 l hn hf o => ?_)
  · obtain ⟨sets, h1, h2, h3, h4⟩ := (hb x hx).ex
    exact ⟨sets, h1, h2, fun H F σ c Q q s H0 C cl fp => h3 s H0 C cl fp H F σ c Q q, h4⟩
  · have ne : ∀ q ∈ ρ.o, q.p ≠ p := fun q hq z => by
      obtain ⟨u, hu⟩ := (c.own q hq).2.there
      rw [z, hn] at hu
      cases hu
    exact k.nx _ H1 F1 _ (h p) (((c.mono l).addO hf o ne).setF i (.ref p)) ((b.mono l).addO (b.free hn))
end

/-! ### a def's promise from its body -/
/-- a def's context: no exception leaves it -/
abbrev cxN (P : Program) (w : World) (K : PySem.W.Frag) (mg : Str → Option Value) (base : Heap) (N : List Str) (qual : Str) (scope : Scope) (f : Addr) (cdv : Value) (A : Around) (outer : List Env) (s : Shared) (H : Hp) (E : XK) : Cx := (cxOf CX0 P w K mg base N qual scope f cdv A outer s H E).nox
def startρ (N : List Str) (ds : List D) : List (Option D) := ds.map some ++ List.replicate (N.length - ds.length) none
theorem cf_start {K : PySem.W.Frag} {H F : Hp} {N : List Str} {ds : List D} {vs : List V} (e : Same F H) (r : RepL K F ds vs) : Cf K H F ⟨[], startρ N ds⟩ (L2.start N vs) := by
  have hl := r.length
  refine ⟨e, ?_, fun i d h => ?_, (fun q hq => nomatch hq), List.Pairwise.nil⟩
  · simp [L2.start, startρ, hl]
  · have h : (startρ N ds)[i]? = some (some d) := h
    unfold startρ at h
    unfold L2.start
    by_cases hi : i < ds.length
    · rw [List.getElem?_append_left (by rw [List.length_map]; exact hi), List.getElem?_map] at h
      cases hd : ds[i]? with
      | none =>
        rw [hd] at h
        cases h
      | some d' =>
        rw [hd] at h
        cases h
        obtain ⟨v, hv, rv⟩ := r.get hd
        exact ⟨v, by rw [List.getElem?_append_left (by rw [List.length_map, ← hl]; exact hi), List.getElem?_map, hv]; rfl, rv⟩
    · rw [List.getElem?_append_right (by rw [List.length_map]; omega), List.getElem?_replicate] at h
      split at h <;> cases h
theorem bs_start {H F : Hp} (e : Same F H) : Bs [] H F F H F [] := ⟨fun _ _ h _ => h, Same.refl F, Same.refl F, e, fun _ _ _ n => n, fun a o h => ⟨o, h⟩, fun q hq => by cases hq⟩
theorem Bs.le {H F B H' F' : Hp} {γ : List Ob} (b : Bs [] H F B H' F' γ) : Le H F H' F' := ⟨fun a o h => b.h a o h (by simp), b.f, b.ex, b.pr⟩
section
variable {P : Program} {w : World} {K : PySem.W.Frag} {mg : Str → Option Value} {base : Heap} {x qual : Str} {params : Arguments} {body : List Stmt} {scope : Scope} {dvs : List V} {kws : List (Str × V)} {f : Addr} {fd : FuncData} {N ps : List Str} {k : Nat} {R : List D → D → Prop}
/-- the value stands -/
theorem fn_okR (F : FunD K x qual params body scope dvs kws f fd) (S : FnScope N ps scope) (len : ∀ ds d, R ds d → ds.length = ps.length)
    (h : ∀ (cdv : Value) (A : Around) (outer : List Env) (s : Shared) (H : Hp) (E : XK), Room k (A.deeper (envOfC qual scope s.heap.objs.size f cdv)) → ∀ ds d, R ds d →
      WSs (cxN P w K mg base N qual scope f cdv A outer s H E) body ⟨[], startρ N ds⟩ ⟨fun _ => d = .non, fun _ d' => d' = d, fun _ => False, fun _ => False⟩) : FnOk P w K mg base CX0 (k + 1) f fd ps (spR K R) := by
  refine F.ok S (fun vs H Q E hs => ?_) (fun cdv A outer s H vs Q E hr hs => ⟨sSs _ body, PSs.nox pss_s, ?_⟩)
  · obtain ⟨F, ds, d, _, r, hR, _⟩ := hs
    rw [← r.length]
    exact len ds d hR
  · obtain ⟨F, ds, d, e, r, hR, q⟩ := hs
    refine h cdv A outer s H E hr ds d hR [] H F F H F _ (cf_start e r) (bs_start e) _ ⟨fun ρ H1 F1 σ n c b => ?_, fun γ d' v H1 F1 n c b r1 => ?_, fun _ _ _ _ z => z.elim, fun _ _ _ _ z => z.elim⟩
    · subst n
      exact q .non H1 F1 b.le .non
    · subst n
      exact q v H1 F1 b.le r1
/-- the value is a new object -/
theorem fn_okN (F : FunD K x qual params body scope dvs kws f fd) (S : FnScope N ps scope) (len : ∀ ds d, R ds d → ds.length = ps.length)
    (h : ∀ (cdv : Value) (A : Around) (outer : List Env) (s : Shared) (H : Hp) (E : XK), Room k (A.deeper (envOfC qual scope s.heap.objs.size f cdv)) → ∀ ds d, R ds d →
      WSs (cxN P w K mg base N qual scope f cdv A outer s H E) body ⟨[], startρ N ds⟩ ⟨fun _ => False, fun γ d' => ∃ (p : Addr) (j : Nat), d' = .ref p ∧ γ[j]? = some ⟨p, true, d⟩, fun _ => False, fun _ => False⟩) : FnOk P w K mg base CX0 (k + 1) f fd ps (spN K R) := by
  refine F.ok S (fun vs H Q E hs => ?_) (fun cdv A outer s H vs Q E hr hs => ⟨sSs _ body, PSs.nox pss_s, ?_⟩)
  · obtain ⟨F, ds, d, _, r, hR, _⟩ := hs
    rw [← r.length]
    exact len ds d hR
  · obtain ⟨F, ds, d, e, r, hR, q⟩ := hs
    refine h cdv A outer s H E hr ds d hR [] H F F H F _ (cf_start e r) (bs_start e) _ ⟨fun ρ H1 F1 σ n c b => n.elim, fun γ d' v H1 F1 n c b r1 => ?_, fun _ _ _ _ z => z.elim, fun _ _ _ _ z => z.elim⟩
    obtain ⟨p, j, rfl, hj⟩ := n
    cases r1
    obtain ⟨hf, ho⟩ := c.ownAt hj
    exact q p H1 F1 b.le ((b.nw _ (List.mem_of_getElem? hj)).1 rfl) hf ho
/-- __init__: the new instance -/
theorem fn_okI {C : Addr} (F : FunD K x qual params body scope dvs kws f fd) (S : FnScope N ps scope) (len : ∀ ds d, R ds d → ds.length + 1 = ps.length)
    (h : ∀ (cdv : Value) (A : Around) (outer : List Env) (s : Shared) (H : Hp) (E : XK), Room k (A.deeper (envOfC qual scope s.heap.objs.size f cdv)) → ∀ ds d, R ds d → ∀ y,
      WSs (cxN P w K mg base N qual scope f cdv A outer s H E) body ⟨[⟨y, true, .ins C []⟩], startρ N (.ref y :: ds)⟩ ⟨fun r => ∃ j : Nat, r.o[j]? = some (Ob.mk y true d), fun _ _ => False, fun _ => False, fun _ => False⟩) : FnOk P w K mg base CX0 (k + 1) f fd ps (spI K C R) := by
  refine F.ok S (fun vs H Q E hs => ?_) (fun cdv A outer s H vs Q E hr hs => ⟨sSs _ body, PSs.nox pss_s, ?_⟩)
  · obtain ⟨Hb, F, y, dx, ws, ds, d, rfl, _, _, _, _, _, r, hR, _⟩ := hs
    rw [List.length_cons, ← r.length]
    exact len ds d hR
  · obtain ⟨Hb, F, y, dx, ws, ds, d, rfl, eH, hy, hdx, hne, e, r, hR, q⟩ := hs
    have sH : Same Hb H := by
      rw [eH]
      refine (same_new hdx).trans (same_new ?_)
      rw [upd_ne hne.symm]
      exact hy
    have hF : F y = none := e.free hy
    have c0 := cf_start (N := N) (e.trans sH) (RepL.cons (K := K) (.ref y) r)
    have hH : H y = some (.ins C dx []) := by rw [eH, upd_same]
    have c1 : Cf K H F ⟨[⟨y, true, .ins C []⟩], startρ N (.ref y :: ds)⟩ (L2.start N (.ref y :: ws)) := c0.addO hF (.ins hH .nil) fun q hq => by cases hq
    have b1 : Bs [] Hb F F H F [⟨y, true, .ins C []⟩] := ⟨fun a o h _ => sH a o h, Same.refl F, Same.refl F, e.trans sH, fun _ _ _ n => n, fun a o h => ⟨o, sH a o h⟩, fun q hq => by
      have z : q = ⟨y, true, .ins C []⟩ := by simpa using hq
      subst z
      exact ⟨fun _ => hy, fun z => nomatch z⟩⟩
    refine h cdv A outer s H E hr ds d hR y [] Hb F F H F _ c1 b1 _ ⟨fun ρ H1 F1 σ n c b => ?_, fun _ _ _ _ _ z => z.elim, fun _ _ _ _ z => z.elim, fun _ _ _ _ z => z.elim⟩
    obtain ⟨j, hj⟩ := n
    obtain ⟨hf, ho⟩ := c.ownAt hj
    obtain ⟨u, hu, r1⟩ := ho.fz hf
    obtain ⟨c2, b2⟩ := b.fz c hj hu
    exact q H1 _ b2.le r1
end
end DL
/-! DLf: rules by data (operators, comparisons, truth), fields, lists put together. -/
namespace DL
open PySem PySem.Spec PyProof.Rows L2

section
variable {X : Cx} {e a b c o : Expr} {es : List Expr} {ρ : En} {d y z w : D} {pos p' : Pos} {x : Str} {i j : Int}
/-! ### by data -/
structure Bin (X : Cx) (op : Operator) (y z w : D) : Prop where
  run : ∀ {a b : Expr} {ρ : En} {pos : Pos}, WB X a ρ y → WB X b ρ z → WE X (.BinOp a op b pos) ρ w
theorem we_bin {op : Operator} (ha : WB X a ρ y) (hb : WB X b ρ z) (h : Bin X op y z w) : WE X (.BinOp a op b pos) ρ w := h.run ha hb
theorem bin_add : Bin X .Add (.int i) (.int j) (.int (i + j)) := ⟨we_add⟩
theorem bin_sub : Bin X .Sub (.int i) (.int j) (.int (i - j)) := ⟨we_sub⟩
theorem bin_mul (hc : CMul i j) : Bin X .Mult (.int i) (.int j) (.int (i * j)) := ⟨fun p q => we_mul p q hc⟩
theorem bin_fdiv (hc : CDiv i j) : Bin X .FloorDiv (.int i) (.int j) (.int (i / j)) := ⟨fun p q => we_fdiv p q hc⟩
theorem bin_mod (hc : 0 < j) : Bin X .Mod (.int i) (.int j) (.int (i % j)) := ⟨fun p q => we_mod p q hc⟩
theorem bin_pow (hc : CPow i j) : Bin X .Pow (.int i) (.int j) (.int (i ^ j.toNat)) := ⟨fun p q => we_pow p q hc⟩
theorem bin_adds {s t : Str} (hl : s.length + t.length ≤ sizeLine) : Bin X .Add (.str s) (.str t) (.str (s ++ t)) := ⟨fun p q => we_adds p q hl⟩
/-- a comparison: as a value, as a test -/
structure Cmp (X : Cx) (op : CmpOp) (y z : D) (k : Bool) : Prop where
  run : ∀ {a b : Expr} {ρ : En} {pos : Pos}, WB X a ρ y → WB X b ρ z → behindInMarks op b = false → WE X (.Compare a [op] [b] pos) ρ (.bl k) ∧ WT X (.Compare a [op] [b] pos) ρ k
theorem we_cmp {op : CmpOp} {k : Bool} (ha : WB X a ρ y) (hb : WB X b ρ z) (h : Cmp X op y z k) (hm : behindInMarks op b = false) : WE X (.Compare a [op] [b] pos) ρ (.bl k) := (h.run ha hb hm).1
theorem wt_cmp {op : CmpOp} {k : Bool} (ha : WB X a ρ y) (hb : WB X b ρ z) (h : Cmp X op y z k) (hm : behindInMarks op b = false) : WT X (.Compare a [op] [b] pos) ρ k := (h.run ha hb hm).2
theorem cmp_lt : Cmp X .Lt (.int i) (.int j) (decide (i < j)) := ⟨fun p q _ => wc_lt p q⟩
theorem cmp_le : Cmp X .LtE (.int i) (.int j) (decide (i ≤ j)) := ⟨fun p q _ => wc_le p q⟩
theorem cmp_gt : Cmp X .Gt (.int i) (.int j) (decide (j < i)) := ⟨fun p q _ => wc_gt p q⟩
theorem cmp_ge : Cmp X .GtE (.int i) (.int j) (decide (j ≤ i)) := ⟨fun p q _ => wc_ge p q⟩
theorem cmp_eqI : Cmp X .Eq (.int i) (.int j) (decide (i = j)) := ⟨fun p q _ => wc_eqI p q⟩
theorem cmp_neI : Cmp X .NotEq (.int i) (.int j) (!decide (i = j)) := ⟨fun p q _ => wc_neI p q⟩
theorem cmp_eqS {s t : Str} : Cmp X .Eq (.str s) (.str t) (decide (s = t)) := ⟨fun p q _ => wc_eqS p q⟩
theorem cmp_inSign {s : Str} {k : Nat} : Cmp X .In (.str ⟨#[k]⟩) (.str s) (decide (k ∈ s.cps.toList)) := ⟨fun p q h => wc_inSign p q h⟩
theorem cmp_inL {ds : List D} (hy : y.flat = true) (hf : ds.all D.flat = true) : Cmp X .In y (.lst ds) (inV y.val (ds.map D.val)) := ⟨fun p q h => wc_inL p q hy hf h⟩
theorem cmp_ninL {ds : List D} (hy : y.flat = true) (hf : ds.all D.flat = true) : Cmp X .NotIn y (.lst ds) (!inV y.val (ds.map D.val)) := ⟨fun p q h => wc_ninL p q hy hf h⟩
theorem cmp_inI {kvs : List (Key × D)} (hu : X.A.units + 1 < cLine) : Cmp X .In (.int i) (.dK kvs) (getD' kvs (.inl i)).isSome := ⟨fun p q h => wc_inK (k := .inl i) p q hu h⟩
theorem cmp_ninI {kvs : List (Key × D)} (hu : X.A.units + 1 < cLine) : Cmp X .NotIn (.int i) (.dK kvs) (!(getD' kvs (.inl i)).isSome) := ⟨fun p q h => wc_ninK (k := .inl i) p q hu h⟩
/-- a value's truth -/
structure Tru (X : Cx) (y : D) (k : Bool) : Prop where
  run : ∀ {e : Expr} {ρ : En}, WB X e ρ y → (∀ whole, isTrue e X.env whole = (do let v ← whole; standAt e.pos; holding [v] (truthy v))) → WT X e ρ k
theorem wt_tru {k : Bool} (h : WB X e ρ y) (t : Tru X y k) (he : ∀ whole, isTrue e X.env whole = (do let v ← whole; standAt e.pos; holding [v] (truthy v))) : WT X e ρ k := t.run h he
theorem tru_bl {k : Bool} : Tru X (.bl k) k := ⟨fun h he => wt_val h he⟩
theorem tru_lst {ds : List D} : Tru X (.lst ds) (!ds.isEmpty) := ⟨fun h he => wt_lst h he⟩
/-- e[i], by data -/
structure Sub (X : Cx) (y z w : D) : Prop where
  run : ∀ {a b : Expr} {ρ : En} {pos : Pos}, WE X a ρ y → WB X b ρ z → PlainIx b → WE X (.Subscript a b pos) ρ w
theorem we_sub' (ha : WE X a ρ y) (hb : WB X b ρ z) (h : Sub X y z w) (hs : PlainIx b) : WE X (.Subscript a b pos) ρ w := h.run ha hb hs
theorem sub_l {ds : List D} (hi : atI ds i = some d) : Sub X (.lst ds) (.int i) d := ⟨fun p q h => we_ixL p q hi h⟩
theorem sub_t {ds : List D} (hi : atI ds i = some d) : Sub X (.tup ds) (.int i) d := ⟨fun p q h => we_ixT p q hi h⟩
theorem sub_s {s : Str} {k : Nat} (hl : s.length ≤ sizeLine) (hi : atI s.cps.toList i = some k) : Sub X (.str s) (.int i) (.str ⟨#[k]⟩) := ⟨fun p q h => we_ixS (wb_of p) q hl hi h⟩
/-- len(e), by data -/
structure Len (X : Cx) (y : D) (n : Int) : Prop where
  run : ∀ {a : Expr} {ρ : En} {pos p' : Pos}, WB X a ρ y → X.mg "len" = none → Gl X "len" → starEach [a] X.env = [(false, eval a X.env)] → WE X (.Call (.Name "len" p') [a] [] pos) ρ (.int n)
theorem we_len {n : Int} (ha : WB X a ρ y) (h : Len X y n) (hm : X.mg "len" = none) (hg : Gl X "len") (he : starEach [a] X.env = [(false, eval a X.env)]) : WE X (.Call (.Name "len" p') [a] [] pos) ρ (.int n) := h.run ha hm hg he
theorem len_l {ds : List D} : Len X (.lst ds) (ds.length : Int) := ⟨fun h m g e => wc_len h m g e⟩
theorem len_t {ds : List D} : Len X (.tup ds) (ds.length : Int) := ⟨fun h m g e => wc_lenT h m g e⟩
theorem len_s {s : Str} (hl : s.length ≤ sizeLine) : Len X (.str s) (s.length : Int) := ⟨fun h m g e => wc_lenS h m hl g e⟩
/-- tuple(e) -/
structure Tup (X : Cx) (y w : D) : Prop where
  run : ∀ {a : Expr} {ρ : En} {pos p' : Pos}, WE X a ρ y → X.mg "tuple" = none → Gl X "tuple" → starEach [a] X.env = [(false, eval a X.env)] → WE X (.Call (.Name "tuple" p') [a] [] pos) ρ w
theorem we_tuple (ha : WE X a ρ y) (h : Tup X y w) (hm : X.mg "tuple" = none) (hg : Gl X "tuple") (he : starEach [a] X.env = [(false, eval a X.env)]) : WE X (.Call (.Name "tuple" p') [a] [] pos) ρ w := h.run ha hm hg he
theorem tup_l {ds : List D} : Tup X (.lst ds) (.tup ds) := ⟨fun h m g e => we_tupleL h m g e⟩
theorem tup_t {ds : List D} : Tup X (.tup ds) (.tup ds) := ⟨fun h m g e => we_tupleT h m g e⟩
/-- list(e) -/
structure Lst (X : Cx) (y w : D) : Prop where
  run : ∀ {a : Expr} {ρ : En} {pos p' : Pos}, WE X a ρ y → X.mg "list" = none → Gl X "list" → starEach [a] X.env = [(false, eval a X.env)] → WN X (.Call (.Name "list" p') [a] [] pos) ρ w
theorem wn_list (ha : WE X a ρ y) (h : Lst X y w) (hm : X.mg "list" = none) (hg : Gl X "list") (he : starEach [a] X.env = [(false, eval a X.env)]) : WN X (.Call (.Name "list" p') [a] [] pos) ρ w := h.run ha hm hg he
theorem lst_l {ds : List D} : Lst X (.lst ds) (.lst ds) := ⟨fun h m g e => wn_listL h m g e⟩
theorem lst_t {ds : List D} : Lst X (.tup ds) (.lst ds) := ⟨fun h m g e => wn_listT h m g e⟩
/-- isinstance(e, T) -/
theorem we_isB' {t T : String} {k : Bool} (ha : WB X a ρ y) (hc : WB X c ρ (.ty T)) (hy : y.tag = some t) (hk : kitB t T = some k) (hm : X.mg "isinstance" = none) (hg : Gl X "isinstance") (he : starEach [a, c] X.env = (false, eval a X.env) :: starEach [c] X.env) (he2 : starEach [c] X.env = (false, eval c X.env) :: starEach [] X.env) (hpl : (backTo pos (starEach [c] X.env)).any (·.1) = false) :
    WE X (.Call (.Name "isinstance" p') [a, c] [] pos) ρ (.bl k) := we_isB ha hc hy hk hm hg he he2 hpl
structure Isi (X : Cx) (y z : D) (k : Bool) : Prop where
  run : ∀ {a c : Expr} {ρ : En} {pos p' : Pos}, WB X a ρ y → WB X c ρ z → X.mg "isinstance" = none → Gl X "isinstance" → starEach [a, c] X.env = (false, eval a X.env) :: starEach [c] X.env → starEach [c] X.env = (false, eval c X.env) :: starEach [] X.env → (backTo pos (starEach [c] X.env)).any (·.1) = false → WE X (.Call (.Name "isinstance" p') [a, c] [] pos) ρ (.bl k)
theorem we_isi {k : Bool} (ha : WB X a ρ y) (hc : WB X c ρ z) (h : Isi X y z k) (hm : X.mg "isinstance" = none) (hg : Gl X "isinstance") (he : starEach [a, c] X.env = (false, eval a X.env) :: starEach [c] X.env) (he2 : starEach [c] X.env = (false, eval c X.env) :: starEach [] X.env) (hpl : (backTo pos (starEach [c] X.env)).any (·.1) = false) :
    WE X (.Call (.Name "isinstance" p') [a, c] [] pos) ρ (.bl k) := h.run ha hc hm hg he he2 hpl
theorem isi_b {t T : String} {k : Bool} (hy : y.tag = some t) (hk : kitB t T = some k) : Isi X y (.ty T) k := ⟨fun p q m g h1 h2 h3 => we_isB p q hy hk m g h1 h2 h3⟩
theorem isi_c {C C' : Addr} {fs : List (Str × D)} {k : Bool} (T : ClsTy X.K C) (hk : PySem.W.kitOne X.K (.ref C) (.ref C') = some k) : Isi X (.ins C fs) (.ref C') k := ⟨fun p q m g h1 h2 h3 => we_isC p q T hk m g h1 h2 h3⟩
theorem isi_n {C' : Addr} {t : String} {k : Bool} (hy : y.tag = some t) (hk : PySem.W.kitOne X.K (.type t) (.ref C') = some k) : Isi X y (.ref C') k := ⟨fun p q m g h1 h2 h3 => we_isN p q hy hk m g h1 h2 h3⟩

/-! ### and, or: a first that decides -/
theorem we_andF {rest : List Expr} (ha : WE X a ρ (.bl false)) : WE X (.BoolOp .And (a :: b :: rest) pos) ρ (.bl false) := we_and (q := false) ha fun z => nomatch z
theorem we_orT {rest : List Expr} (ha : WE X a ρ (.bl true)) : WE X (.BoolOp .Or (a :: b :: rest) pos) ρ (.bl true) := we_or (q := true) ha fun z => nomatch z
theorem ww_andF {rest : List Expr} (ha : WT X a ρ false) : WW X (.BoolOp .And (a :: b :: rest) pos) ρ false := ww_and (q := false) ha fun z => nomatch z
theorem ww_orT {rest : List Expr} (ha : WT X a ρ true) : WW X (.BoolOp .Or (a :: b :: rest) pos) ρ true := ww_or (q := true) ha fun z => nomatch z
theorem we_cast {d' : D} (h : WE X e ρ d') (q : d' = d) : WE X e ρ d := q ▸ h
theorem wn_cast {d' : D} (h : WN X e ρ d') (q : d' = d) : WN X e ρ d := q ▸ h
theorem wt_cast {k k' : Bool} (h : WT X e ρ k') (q : k' = k) : WT X e ρ k := q ▸ h

/-! ### lists put together -/
/-- a list whose items stand -/
def WL (X : Cx) (e : Expr) (ρ : En) (ds : List D) : Prop := ∀ (H F : Hp) (σ : L2.St), Cf X.K H F ρ σ → ∀ Q : VK, (∀ p H' F' xs, Le H F H' F' → Rd H' p (.lst xs) → RepL X.K F' ds xs → Q (.ref p) H') → sE X e σ H Q
theorem wl_we {ds : List D} (h : WE X e ρ (.lst ds)) : WL X e ρ ds := fun H F σ c Q q => h H F σ c Q fun v H' F' l r => by
  cases r with
  | lst s r => exact q _ H' F' _ l (same_rd l.ex s) r
theorem wl_wn {ds : List D} (h : WN X e ρ (.lst ds)) : WL X e ρ ds := fun H F σ c Q q => h H F σ c Q fun p H' F' l hn hf o => by
  cases o with
  | lst s r => exact q _ H' F' _ l (.inl s) r
theorem wl_own {ds : List D} {p : Addr} {nb : Bool} (k : Nat) (h : WE X e ρ (.ref p)) (hk : ρ.o[k]? = some ⟨p, nb, .lst ds⟩) : WL X e ρ ds := fun H F σ c Q q => h H F σ c Q fun v H' F' l r => by
  cases r
  obtain ⟨h1, h2⟩ := (c.mono l).ownAt hk
  cases h2 with
  | lst s r => exact q _ H' F' _ l (.inl s) r
theorem op_catR : OpR X (binaryOp .Add) (fun x y H Q => ∃ l b xs zs, x = .ref l ∧ y = .ref b ∧ Rd H l (.lst xs) ∧ Rd H b (.lst zs) ∧ xs.length + zs.length ≤ sizeLine ∧ ∀ p, H p = none → Q (.ref p) (upd H p (.lst (xs ++ zs)))) := by
  intro pins s σ H x y v u Q I rx ry h
  obtain ⟨l, b, xs, zs, rfl, rfl, hH, hB, hz, q⟩ := h
  cases rx
  cases ry
  obtain ⟨z, its, n, r, e⟩ := hH.ok I.hok
  obtain ⟨z2, its2, n2, r2, e2⟩ := hB.ok I.hok
  have hl := r.length
  have hl2 := r2.length
  refine PySem.P.add_list e e2 ?_ (by rw [List.size_toArray, List.size_toArray]; omega)
  have ea : its.toArray ++ its2.toArray = (its ++ its2).toArray := by simp
  rw [ea]
  exact ⟨.ref _, _, I.lnew (t' := s.toks) (r.append r2) (by rw [List.length_append]; omega), rfl, q _ I.fresh⟩
theorem wn_cat {ds es : List D} (ha : WL X a ρ ds) (hb : WL X b ρ es) (hl : ds.length + es.length ≤ sizeLine) : WN X (.BinOp a .Add b pos) ρ (.lst (ds ++ es)) :=
  fun H F σ c Q q => pe_to (pe_op op_catR pe_s pe_s) (ha H F σ c _ fun p1 H1 F1 xs l1 s1 r1 => hb H1 F1 σ (c.mono l1) _ fun p2 H2 F2 ys l2 s2 r2 =>
    ⟨p1, p2, xs, ys, rfl, rfl, same_rd l2.h s1, s2, by rw [← r1.length, ← r2.length]; exact hl, fun p hp => q p _ F2 ((l1.trans l2).trans (Le.newO l2.ex hp)) ((l1.trans l2).h.free hp) (l2.ex.free hp) (.lst upd_same ((r1.mono l2.f).append r2))⟩)
/-- xs[lo:hi] -/
theorem wn_sl {ds : List D} {lo hi : Option Expr} {l h : Option Int} {p2 : Pos} (ha : WL X a ρ ds) (hl : WO X lo ρ l) (hh : WO X hi ρ h) : WN X (.Subscript a (.Slice lo hi none p2) pos) ρ (.lst (cutD ds l h)) :=
  fun H F σ c Q q => by
    obtain ⟨t1, P1, h1⟩ := hl
    obtain ⟨t2, P2, h2⟩ := hh
    refine pe_to (pe_slice sl_list pe_s P1 P2) (ha H F σ c _ fun u H1 F1 xs l1 s r => h1 H1 F1 σ (c.mono l1) _ fun H2 F2 l2 => h2 H2 F2 σ ((c.mono l1).mono l2) _ fun H3 F3 l3 => ?_)
    have l : Le H F H3 F3 := (l1.trans l2).trans l3
    exact ⟨_, _, rfl, .inl (same_rd (l2.h.trans l3.h) s), fun p hp => q p _ F3 (l.trans (Le.newO l.ex hp)) (l.h.free hp) (l.ex.free hp) (.lst upd_same ((cut_rep r _ _).mono (l2.f.trans l3.f)))⟩

/-! ### fields -/
/-- a field of one's own instance: its data stand -/
theorem we_fldO {C p : Addr} {nb : Bool} {fs : List (Str × D)} {f : Str} (k : Nat) (ha : WE X a ρ (.ref p)) (hk : ρ.o[k]? = some ⟨p, nb, .ins C fs⟩) (hf : fs.lookup f = some d) (cl : Cls X.K C) (n : NoAttr X.K C f) (hb : attributeBase a f X.env (eval a X.env) = eval a X.env) : WE X (.Attribute a f pos) ρ d :=
  fun H F σ c Q q => pe_to (pe_fld pe_s hb) (ha H F σ c _ fun u H1 F1 l1 r1 => by
    cases r1
    obtain ⟨h1, h2⟩ := (c.mono l1).ownAt hk
    cases h2 with
    | ins s r =>
      obtain ⟨v, hv, rv⟩ := r.lookup hf
      exact ⟨_, C, _, _, v, rfl, s, cl, n, hv, q v H1 F1 l1 rv⟩)
def putFD (f : Str) (d : D) : List (Str × D) → List (Str × D)
  | [] => [(f, d)]
  | (g, e) :: r => if g = f then (g, d) :: r else (g, e) :: putFD f d r
theorem RepF.len {K : PySem.W.Frag} {H : Hp} : ∀ {fs : List (Str × D)} {xs : List (Str × V)}, RepF K H fs xs → fs.length = xs.length
  | _, _, .nil => rfl
  | _, _, .cons r t => by rw [List.length_cons, List.length_cons, RepF.len t]
theorem RepF.put {v : V} {K : PySem.W.Frag} {H : Hp} (f : Str) (r : Rep K H d v) : ∀ {fs : List (Str × D)} {xs : List (Str × V)}, RepF K H fs xs → RepF K H (putFD f d fs) (putF f v xs)
  | _, _, .nil => .cons r .nil
  | _, _, .cons (f := g) q t => by
    unfold putFD putF
    by_cases e : g = f
    · rw [if_pos e, if_pos e]
      exact .cons r t
    · rw [if_neg e, if_neg e]
      exact .cons q (RepF.put f r t)
/-- self.f = e -/
theorem ws_setFld {C p : Addr} {nb : Bool} {fs : List (Str × D)} {f : Str} {P : Post} (k : Nat) (ho : WE X o ρ (.ref p)) (hk : ρ.o[k]? = some ⟨p, nb, .ins C fs⟩) (he : WE X e ρ d) (h : P.nx ⟨ρ.o.set k ⟨p, nb, .ins C (putFD f d fs)⟩, ρ.s⟩) (cl : Cls X.K C) (n : NoAttr X.K C f) (hl : fs.length < 1000)
    (hs : swapsWith e (some (.Attribute o f p')) pos.line X.env = pure false := by rfl) : WS X (.Assign [.Attribute o f p'] e pos) ρ P := fun M H0 F0 B H F σ c b Dn kk =>
  ps_to (ps_fld pe_s pe_s hs) (he H F σ c _ fun v H1 F1 l1 r1 => ho H1 F1 σ (c.mono l1) _ fun u H2 F2 l2 r2 => by
    cases r2
    have c2 := (c.mono l1).mono l2
    have b2 := (b.mono l1).mono l2
    obtain ⟨h1, h2⟩ := c2.ownAt hk
    cases h2 with
    | ins s r =>
      refine ⟨p, C, _, _, rfl, s, cl, n, by rw [← r.len]; exact hl, ?_⟩
      exact kk.nx _ _ F2 σ h (c2.change hk (.ins upd_same (r.put f (r1.mono l2.f)))) (b2.change c2 hk))
end

theorem ws_ifN {X : Cx} {c : Expr} {ρ : En} {P : Post} {pos : Pos} {p : Bool} {a b : List Stmt} (hc : WT X c ρ p) (hp : p = false) (hb : WSs X b ρ P) : WS X (.If c a b pos) ρ P := ws_if hc (fun z => by rw [hp] at z; cases z) fun _ => hb
theorem ws_ifT {X : Cx} {c : Expr} {ρ : En} {P : Post} {pos : Pos} {p : Bool} {a b : List Stmt} (hc : WT X c ρ p) (hp : p = true) (ha : WSs X a ρ P) : WS X (.If c a b pos) ρ P := ws_if hc (fun _ => ha) fun z => by rw [hp] at z; cases z
/-! ### comprehensions, forms -/
section
variable {X : Cx} {ρ : En} {P : Post} {tg iter elt cnd : Expr} {pos : Pos} {scope : Scope} {vs : List Nat} {d out : D} {p : Bool}
theorem elt_mk {out' : D} (sets : List (Nat × D)) (hg : ∀ s H0 C cl fp, WG (bX X scope s H0 C cl fp) tg d sets) (hs : (sets.all fun q => vs.contains q.1) = true) (he : ∀ s H0 C cl fp, WE (bX X scope s H0 C cl fp) elt ⟨ρ.o, putρ (wipeρ ρ.s vs) sets⟩ out') (e : out' = out) : Elt X scope tg elt ρ vs d out := ⟨⟨sets, hs, hg, e ▸ he⟩⟩
theorem eltIf_mk {out' : D} {p' : Bool} (sets : List (Nat × D)) (hg : ∀ s H0 C cl fp, WG (bX X scope s H0 C cl fp) tg d sets) (hs : (sets.all fun q => vs.contains q.1) = true) (ht : ∀ s H0 C cl fp, WT (bX X scope s H0 C cl fp) cnd ⟨ρ.o, putρ (wipeρ ρ.s vs) sets⟩ p') (ep : p' = p)
    (he : ∀ s H0 C cl fp, WE (bX X scope s H0 C cl fp) elt ⟨ρ.o, putρ (wipeρ ρ.s vs) sets⟩ out') (e : out' = out) : EltIf X scope tg elt cnd ρ vs d p out := ⟨⟨sets, hs, hg, ep ▸ ht, fun _ => e ▸ he⟩⟩
theorem wn_lcG {τ γ : Type} (l : List τ) (enc : τ → D) (g : τ → γ) (enc2 : γ → D) (own : List (Str × Nat)) (hw : WIo X tg iter ρ (l.map enc)) (hl : l.length < sizeLine) (ok : blkC X.N X.env.scope scope own = true)
    (hb : ∀ x ∈ l, Elt X scope tg elt ρ (own.map (·.2)) (enc x) (enc2 (g x))) (hN : X.N.Nodup) (hc : X.calm = true := by rfl) (hs : ∀ x, foldedSetIterable iter X.env x = pure x := by intro _; rfl) :
    WN X (.ListComp elt [⟨tg, iter, [], 0⟩] scope pos) ρ (.lst ((l.map g).map enc2)) := by
  have h := wn_lc (f := fun x => enc2 (g x)) hw hl ok hb hN hc hs (pos := pos)
  rw [List.map_map]
  exact h
theorem wn_lcGIf {τ γ : Type} (l : List τ) (enc : τ → D) (p : τ → Bool) (g : τ → γ) (enc2 : γ → D) (own : List (Str × Nat)) (hw : WIo X tg iter ρ (l.map enc)) (hl : l.length < sizeLine) (ok : blkC X.N X.env.scope scope own = true)
    (hb : ∀ x ∈ l, EltIf X scope tg elt cnd ρ (own.map (·.2)) (enc x) (p x) (enc2 (g x))) (hN : X.N.Nodup) (hc : X.calm = true := by rfl) (hs : ∀ x, foldedSetIterable iter X.env x = pure x := by intro _; rfl) :
    WN X (.ListComp elt [⟨tg, iter, [cnd], 0⟩] scope pos) ρ (.lst (((l.filter p).map g).map enc2)) := by
  have h := wn_lcIf (f := fun x => enc2 (g x)) (p := p) hw hl ok hb hN hc hs (pos := pos)
  rw [List.map_map]
  exact h
/-- name = [..], an object of one's own -/
theorem ws_lcG {τ γ : Type} {y : Str} {py spos : Pos} (i : Nat) (l : List τ) (enc : τ → D) (g : τ → γ) (enc2 : γ → D) (own : List (Str × Nat)) (hw : WIo X tg iter ρ (l.map enc)) (hl : l.length < sizeLine) (ok : blkC X.N X.env.scope scope own = true)
    (hb : ∀ x ∈ l, Elt X scope tg elt ρ (own.map (·.2)) (enc x) (enc2 (g x))) (h : ∀ p, P.nx ⟨ρ.o ++ [⟨p, true, .lst ((l.map g).map enc2)⟩], ρ.s.set i (some (.ref p))⟩) (hN : X.N.Nodup) (hy : X.N[i]? = some y) (hyl : X.env.scope.names.lookup y = some .local)
    (hsw : swapsWith (.ListComp elt [⟨tg, iter, [], 0⟩] scope pos) (some (.Name y py)) spos.line X.env = pure true) (hc : X.calm = true := by rfl) (hs : ∀ x, foldedSetIterable iter X.env x = pure x := by intro _; rfl) :
    WS X (.Assign [.Name y py] (.ListComp elt [⟨tg, iter, [], 0⟩] scope pos) spos) ρ P := by
  refine ws_setLc (f := fun x => enc2 (g x)) i hw hl ok hb (fun p => ?_) hN hy hyl hsw hc hs
  have := h p
  rw [List.map_map] at this
  exact this
theorem erase_last : ∀ (l : List Ob) (a : Ob), (l ++ [a]).eraseIdx l.length = l
  | [], _ => rfl
  | b :: l, a => by
    show b :: ((l ++ [a]).eraseIdx l.length) = b :: l
    rw [erase_last l a]
/-- .. that stands at once -/
theorem ws_lcS {τ γ : Type} {y : Str} {py spos : Pos} (i : Nat) (l : List τ) (enc : τ → D) (g : τ → γ) (enc2 : γ → D) (own : List (Str × Nat)) (hw : WIo X tg iter ρ (l.map enc)) (hl : l.length < sizeLine) (ok : blkC X.N X.env.scope scope own = true)
    (hb : ∀ x ∈ l, Elt X scope tg elt ρ (own.map (·.2)) (enc x) (enc2 (g x))) (h : P.nx ⟨ρ.o, ρ.s.set i (some (.lst ((l.map g).map enc2)))⟩) (hN : X.N.Nodup) (hy : X.N[i]? = some y) (hyl : X.env.scope.names.lookup y = some .local)
    (hsw : swapsWith (.ListComp elt [⟨tg, iter, [], 0⟩] scope pos) (some (.Name y py)) spos.line X.env = pure true) (hc : X.calm = true := by rfl) (hs : ∀ x, foldedSetIterable iter X.env x = pure x := by intro _; rfl) :
    WS X (.Assign [.Name y py] (.ListComp elt [⟨tg, iter, [], 0⟩] scope pos) spos) ρ P := by
  intro M H0 F0 B H F σ c b Dn k
  refine ws_lcG (P := ⟨fun r => ∃ p, r = ⟨ρ.o ++ [⟨p, true, .lst ((l.map g).map enc2)⟩], ρ.s.set i (some (.ref p))⟩, P.rt, P.bk, P.ct⟩) i l enc g enc2 own hw hl ok hb (fun p => ⟨p, rfl⟩) hN hy hyl hsw hc hs M H0 F0 B H F σ c b Dn ⟨fun r H1 F1 σ1 n c1 b1 => ?_, k.rt, k.bk, k.ct⟩
  obtain ⟨p, rfl⟩ := n
  have hk : (ρ.o ++ [Ob.mk p true (.lst ((l.map g).map enc2))])[ρ.o.length]? = some ⟨p, true, .lst ((l.map g).map enc2)⟩ := by simp
  obtain ⟨hf, ho⟩ := c1.ownAt hk
  obtain ⟨u, hu, r⟩ := ho.fz hf
  obtain ⟨c2, b2⟩ := b1.fz c1 hk hu
  have e : (ρ.o ++ [Ob.mk p true (.lst ((l.map g).map enc2))]).eraseIdx ρ.o.length = ρ.o := erase_last _ _
  dsimp only at c2 b2
  rw [e] at c2 b2
  have w : FzS p (.lst ((l.map g).map enc2)) (ρ.s.set i (some (.ref p))) (ρ.s.set i (some (.lst ((l.map g).map enc2)))) := by
    have key : ∀ (s : List (Option D)) (i : Nat), FzS p (.lst ((l.map g).map enc2)) (s.set i (some (.ref p))) (s.set i (some (.lst ((l.map g).map enc2)))) := by
      intro s
      induction s with
      | nil => intro i; exact .nil
      | cons a s ih =>
        intro i
        cases i with
        | zero => exact .sub (FzS.refl s)
        | succ i => exact .keep (ih i)
    exact key _ _
  exact k.nx _ H1 _ σ1 h (cf_sub c2 w r) b2
end
end DL
/-! DLi: sums of tuples, range lists, slices of tuples and texts, dicts by tuples, extend, a loop over a list of one's own, enumerate. -/
namespace DL
open PySem PySem.Spec PyProof.Rows L2

theorem sum_rawT {prog : Program} {w : World} {A : Around} {E : Value → Shared → Prop} {s : Shared} {l : Addr} {its : List Value} {ns : List Int} {Q : Value → Shared → Prop} (hh : A.handled = none) (hl : s.heap.IsTuple l its.toArray) (hi : IntsAre its ns)
    (h : ∀ h' tk t', (∀ b o, s.heap.get? b = some o → h'.get? b = some o) → Q (.int ns.sum t') { s with heap := h', toks := tk }) : wpAny (model prog w) A (call (.builtin "sum") [.ref l]) Q E s := by
  obtain ⟨xs, e⟩ := hi.allInts.items
  have hn : numsOf (intItems xs).toList = ns := by rw [← e]; exact hi.numsOf
  rw [nums_intItems] at hn
  rw [e] at hl
  have hlt : l < s.heap.objs.size := by obtain ⟨_, e, _⟩ := id hl; exact Heap.lt_size e
  refine call_sum_walkG (wpAny_pyIter_tuple hl ?_)
  refine ⟨_, _, _, _, _, _, numAt xs, rfl, Walks.tuple (A := A.in1) hh _ l (Nat.ne_of_lt hlt) (intItems xs), ⟨⟨_, Heap.get?_push_size _ rfl, rfl, rfl⟩, hl.push _⟩, (fun b hb => ?_), (fun _ _ => intItems_at), fun h' tk t' hk => ?_⟩
  · show b < (s.heap.push _).objs.size
    rw [Heap.size_push]
    have hb' : b = s.heap.objs.size ∨ b = l := by simpa using hb
    rcases hb' with z | z
    · rw [z]; exact Nat.lt_succ_self _
    · rw [z]; exact Nat.lt_succ_of_lt hlt
  · have hk2 : ∀ b o, s.heap.get? b = some o → h'.get? b = some o := fun b o e => by
      refine hk b o (fun hm => ?_) (Heap.get?_push_of_some _ e)
      have z : b = s.heap.objs.size := by simpa using hm
      exact absurd (z ▸ Heap.lt_size e) (Nat.lt_irrefl _)
    have := h h' tk t' hk2
    rw [← hn] at this
    have e2 : preSum (numAt xs) (intItems xs).size = (xs.toList.map (·.1)).sum := by
      rw [preSum_eq, List.take_of_length_le (by simp [intItems])]
    rw [e2]
    exact this
section
variable {X : Cx} {e a b c o f : Expr} {es : List Expr} {ρ : En} {d y z w : D} {pos p' : Pos} {x : Str} {i j : Int}
theorem cr_sumT (hc : X.calm = true) : CallR X (.builtin "sum") (fun vs H Q => ∃ (a : Addr) (ns : List Int), vs = [V.ref a] ∧ SqT X.K H a (ns.map V.int) ∧ Q (.int ns.sum) H) := by
  intro pins s σ H vs us Q I r h
  obtain ⟨a, ns, rfl, hs, q⟩ := h
  obtain ⟨its, rv, hl, _⟩ := I.tuple hs
  rw [Vals.ref1 r]
  exact sum_rawT (I.ok.hd hc) hl rv.ints fun h' tk t' hk => ⟨.int _, H, I.kept hk, ⟨_, rfl⟩, q⟩
theorem we_sumT {ns : List Int} (ha : WB X a ρ (.tup (ns.map D.int))) (hm : X.mg "sum" = none) (hc : X.calm = true := by rfl) (hg : Gl X "sum" := by rfl) (he : starEach [a] X.env = [(false, eval a X.env)] := by rfl) : WE X (.Call (.Name "sum" p') [a] [] pos) ρ (.int ns.sum) :=
  fun H F σ c Q q => pe_to (pe_callB (cr_sumT hc) hg hm (by decide +kernel) pa_s (he := he) (hpl := rfl)) (wab_cons (ds := []) ha wab_nil he H F σ c _ fun vs H1 F1 l1 r1 => by
    cases r1 with
    | cons r1 r2 =>
      cases r2
      cases r1 with
      | tup s r =>
        have e := repL_ints r
        subst e
        exact ⟨_, ns, rfl, .inl (.inl s), q _ H1 F1 l1 (.int _)⟩)
structure Sum (X : Cx) (y : D) (n : Int) : Prop where
  run : ∀ {a : Expr} {ρ : En} {pos p' : Pos}, WB X a ρ y → X.mg "sum" = none → X.calm = true → Gl X "sum" → starEach [a] X.env = [(false, eval a X.env)] → WE X (.Call (.Name "sum" p') [a] [] pos) ρ (.int n)
theorem we_sum' {n : Int} (ha : WB X a ρ y) (h : Sum X y n) (hm : X.mg "sum" = none) (hc : X.calm = true) (hg : Gl X "sum") (he : starEach [a] X.env = [(false, eval a X.env)]) : WE X (.Call (.Name "sum" p') [a] [] pos) ρ (.int n) := h.run ha hm hc hg he
theorem sum_l {ns : List Int} : Sum X (.lst (ns.map D.int)) ns.sum := ⟨fun h m c g e => we_sum h m c g e⟩
theorem sum_t {ns : List Int} : Sum X (.tup (ns.map D.int)) ns.sum := ⟨fun h m c g e => we_sumT h m c g e⟩
theorem we_any (h : WE X e ρ d) : WE X e ρ .any := fun H F σ c Q q => h H F σ c Q fun v H' F' l _ => q v H' F' l (.any v)

/-! ### in, of texts -/
theorem inV_str {s : Str} : ∀ {l : List Str}, inV (V.str s) ((l.map D.str).map D.val) = decide (s ∈ l)
  | [] => rfl
  | t :: l => by
    have ih := inV_str (s := s) (l := l)
    unfold inV at ih ⊢
    rw [List.map_cons, List.map_cons, List.any_cons, ih]
    show (eqV (V.str t) (V.str s) || _) = _
    by_cases h : t = s
    · subst h
      have : eqV (V.str t) (V.str t) = true := by unfold eqV; simp
      rw [this]
      simp
    · have : eqV (V.str t) (V.str s) = false := by unfold eqV; simp [h]
      rw [this]
      have h' : s ≠ t := fun z => h z.symm
      simp [h']
theorem cmp_inLS {s : Str} {l : List Str} : Cmp X .In (.str s) (.lst (l.map D.str)) (decide (s ∈ l)) := ⟨fun p q h => by
  have hf : (l.map D.str).all D.flat = true := by rw [List.all_map, List.all_eq_true]; intro _ _; rfl
  have e : decide (s ∈ l) = inV (D.str s).val ((l.map D.str).map D.val) := inV_str.symm
  rw [e]
  exact wc_inL p q rfl hf h⟩
theorem cmp_ninLS {s : Str} {l : List Str} : Cmp X .NotIn (.str s) (.lst (l.map D.str)) (!decide (s ∈ l)) := ⟨fun p q h => by
  have hf : (l.map D.str).all D.flat = true := by rw [List.all_map, List.all_eq_true]; intro _ _; rfl
  have e : decide (s ∈ l) = inV (D.str s).val ((l.map D.str).map D.val) := inV_str.symm
  rw [e]
  exact wc_ninL p q rfl hf h⟩
/-- == of flat data -/
theorem cmp_eqV {k : Bool} (hy : y.flat = true) (hz : z.flat = true) (hs : scal y.val z.val = true) (hk : decide (y.val = z.val) = k) : Cmp X .Eq y z k := ⟨fun p q _ => wc_op op_eq p q (nomark _) fun _ _ _ ru rv _ qq => by
  rw [(ru.val hy).1, (rv.val hz).1]
  exact ⟨hs, by rw [hk]; exact qq⟩⟩

/-! ### list(range(..)) -/
def WR (X : Cx) (e : Expr) (ρ : En) (i j : Int) : Prop := ∃ t, PRg X e t ∧ ∀ (H F : Hp) (σ : L2.St), Cf X.K H F ρ σ → ∀ Q : Int → Int → Hp → Prop, (∀ H' F', Le H F H' F' → Q i j H') → t σ H Q
theorem wr_1 {p pos : Pos} (ha : WB X a ρ (.int j)) (hm : X.mg "range" = none) (hg : Gl X "range" := by rfl) (na : starEach [a] X.env = (false, eval a X.env) :: starEach [] X.env := by rfl) : WR X (.Call (.Name "range" p) [a] [] pos) ρ 0 j :=
  ⟨_, prg_1 hg hm pe_s na, fun H F σ c Q q => ha H F σ c _ fun u H1 F1 l r => by cases r; exact ⟨j, rfl, q H1 F1 l⟩⟩
theorem wr_2 {p pos : Pos} (ha : WB X a ρ (.int i)) (hb : WB X b ρ (.int j)) (hm : X.mg "range" = none) (hg : Gl X "range" := by rfl) (na : starEach [a, b] X.env = (false, eval a X.env) :: starEach [b] X.env := by rfl)
    (nb : starEach [b] X.env = (false, eval b X.env) :: starEach [] X.env := by rfl) (hp : (backTo pos (starEach [b] X.env)).any (·.1) = false := by rfl) : WR X (.Call (.Name "range" p) [a, b] [] pos) ρ i j :=
  ⟨_, prg_2 hg hm pe_s pe_s na nb hp, fun H F σ c Q q => ha H F σ c _ fun u H1 F1 l1 r1 => hb H1 F1 σ (c.mono l1) _ fun v H2 F2 l2 r2 => by cases r1; cases r2; exact ⟨i, j, rfl, rfl, q H2 F2 (l1.trans l2)⟩⟩
/-- i, i + 1, .. below j -/
def rgL (i j : Int) : List Int := (List.range (j - i).toNat).map fun k : Nat => i + (k : Int)
theorem repL_ofInts {K : PySem.W.Frag} {H : Hp} : ∀ ns : List Int, RepL K H (ns.map D.int) (ns.map V.int)
  | [] => .nil
  | n :: ns => .cons (.int n) (repL_ofInts ns)
theorem wn_listRg {p pos : Pos} (hr : WR X e ρ i j) (ok : RgOk i j) (hm : X.mg "list" = none) (hc : X.calm = true := by rfl) (hg : Gl X "list" := by rfl) (na : starEach [e] X.env = (false, eval e X.env) :: starEach [] X.env := by rfl) : WN X (.Call (.Name "list" p) [e] [] pos) ρ (.lst ((rgL i j).map D.int)) :=
  fun H F σ c Q q => by
    obtain ⟨t, P, h⟩ := hr
    refine pe_to (pe_listRg hc hg hm P na) (h H F σ c _ fun H1 F1 l => ⟨ok, fun p hp => q p _ F1 (l.trans (Le.newO l.ex hp)) (l.h.free hp) (l.ex.free hp) (.lst upd_same ?_)⟩)
    have e : rgV i j = (rgL i j).map V.int := by
      unfold rgV rgL
      rw [List.map_map]
      rfl
    rw [e]
    exact repL_ofInts _

/-! ### slices of tuples, of texts -/
theorem cut_whole {α : Type} {ds : List α} {lo hi : Option Int} (h : HT.sIx ds.length 0 lo = 0 ∧ HT.sIx ds.length ds.length hi = ds.length) : cutD ds lo hi = ds := by
  unfold cutD
  rw [h.1, h.2]
  simp
theorem we_slT {ds : List D} {lo hi : Option Expr} {l h : Option Int} {p2 : Pos} (ha : WE X a ρ (.tup ds)) (hl : WO X lo ρ l) (hh : WO X hi ρ h) : WE X (.Subscript a (.Slice lo hi none p2) pos) ρ (.tup (cutD ds l h)) :=
  fun H F σ c Q q => by
    obtain ⟨t1, P1, h1⟩ := hl
    obtain ⟨t2, P2, h2⟩ := hh
    refine pe_to (pe_slice sl_tupA pe_s P1 P2) (ha H F σ c _ fun u H1 F1 l1 r1 => h1 H1 F1 σ (c.mono l1) _ fun H2 F2 l2 => h2 H2 F2 σ ((c.mono l1).mono l2) _ fun H3 F3 l3 => ?_)
    cases r1 with
    | tup s r =>
      have l : Le H F H3 F3 := (l1.trans l2).trans l3
      refine ⟨_, _, rfl, .inl (.inl (((l1.ex.trans l2.h).trans l3.h) _ _ s)), fun hw => ?_, fun _ p hp => q _ _ _ (l.trans (Le.new l.ex hp)) (.tup upd_same (((cut_rep r _ _).mono (l2.f.trans l3.f)).mono (same_new (l.ex.free hp))))⟩
      rw [← r.length] at hw
      rw [cut_whole hw] at q
      exact q _ H3 F3 l ((Rep.tup s r).mono (l2.f.trans l3.f))
theorem we_slS {s : Str} {lo hi : Option Expr} {l h : Option Int} {p2 : Pos} (ha : WE X a ρ (.str s)) (hl : WO X lo ρ l) (hh : WO X hi ρ h) (hz : s.length ≤ sizeLine) : WE X (.Subscript a (.Slice lo hi none p2) pos) ρ (.str (cutS s l h)) :=
  fun H F σ c Q q => by
    obtain ⟨t1, P1, h1⟩ := hl
    obtain ⟨t2, P2, h2⟩ := hh
    refine pe_to (pe_slice sl_str pe_s P1 P2) (ha H F σ c _ fun u H1 F1 l1 r1 => h1 H1 F1 σ (c.mono l1) _ fun H2 F2 l2 => h2 H2 F2 σ ((c.mono l1).mono l2) _ fun H3 F3 l3 => ?_)
    cases r1
    exact ⟨s, rfl, hz, q _ H3 F3 ((l1.trans l2).trans l3) (.str _)⟩

/-! ### dicts by tuples -/
def keyOf : D → Option Key
  | .int i => some (.inl i)
  | .str s => some (.inr s)
  | _ => none
def keysOf : List D → Option (List Key)
  | [] => some []
  | d :: ds => match keyOf d, keysOf ds with
    | some k, some ks => some (k :: ks)
    | _, _ => none
theorem keyOf_rep {K : PySem.W.Frag} {H : Hp} {d : D} {v : V} {k : Key} (r : Rep K H d v) (h : keyOf d = some k) : v = kV k := by
  cases r <;> first | (cases h; rfl) | cases h
theorem keysOf_rep {K : PySem.W.Frag} {H : Hp} : ∀ {ds : List D} {vs : List V} {ks : List Key}, RepL K H ds vs → keysOf ds = some ks → vs = ks.map kV
  | _, _, ks, .nil, h => by
    cases h
    rfl
  | _, _, ks, .cons (d := d) (ds := ds) r t, h => by
    unfold keysOf at h
    cases e1 : keyOf d with
    | none => rw [e1] at h; cases h
    | some k =>
      rw [e1] at h
      cases e2 : keysOf ds with
      | none => rw [e2] at h; cases h
      | some ks' =>
        rw [e2] at h
        cases h
        rw [keyOf_rep r e1, keysOf_rep t e2] <;> rfl
theorem keyOf_eq {d : D} {k : Key} (h : keyOf d = some k) : d = kD k := by
  cases d <;> first | (cases h; rfl) | cases h
theorem ws_putK' {P : Post} {p : Addr} {nb : Bool} {kvs : List (Key × D)} {dy : D} {y : Key} (k : Nat) (ho : WE X o ρ (.ref p)) (hk : ρ.o[k]? = some ⟨p, nb, .dK kvs⟩) (ha : WB X a ρ dy) (hy : keyOf dy = some y) (he : WE X e ρ d) (hl : kvs.length < sizeLine) (hu : X.A.units + 1 < cLine) (h : P.nx ⟨ρ.o.set k ⟨p, nb, .dK (putD kvs y d)⟩, ρ.s⟩)
    (hs : swapsWith e (some (.Subscript o a p')) pos.line X.env = pure false := by rfl) : WS X (.Assign [.Subscript o a p'] e pos) ρ P := by
  rw [keyOf_eq hy] at ha
  exact ws_putK k ho hk ha he hl hu h hs
theorem we_get1' {kvs : List (Key × D)} {dy : D} {y : Key} {p1 : Pos} (ha : WB X a ρ (.dK kvs)) (hb : WB X b ρ dy) (hy : keyOf dy = some y) (hu : X.A.units + 1 < cLine) (hs : ((getD' kvs y).getD .non).sc = true) (m : M1 X a "get" p1 b pos := by exact ⟨rfl, rfl, rfl, rfl⟩) :
    WE X (.Call (.Attribute a "get" p1) [b] [] pos) ρ ((getD' kvs y).getD .non) := by
  rw [keyOf_eq hy] at hb
  exact we_get1 ha hb hu hs m
theorem ws_putT {P : Post} {p : Addr} {nb : Bool} {kvs : List (List Key × D)} {ds : List D} {ks : List Key} (k : Nat) (ho : WE X o ρ (.ref p)) (hk : ρ.o[k]? = some ⟨p, nb, .dT kvs⟩) (ha : WE X a ρ (.tup ds)) (hks : keysOf ds = some ks) (he : WE X e ρ d) (hl : kvs.length < sizeLine) (hu : X.A.units + 1 < cLine) (h : P.nx ⟨ρ.o.set k ⟨p, nb, .dT (putD kvs ks d)⟩, ρ.s⟩)
    (hs : swapsWith e (some (.Subscript o a p')) pos.line X.env = pure false := by rfl) : WS X (.Assign [.Subscript o a p'] e pos) ρ P := fun M H0 F0 B H F σ c b Dn kk =>
  ps_to (ps_dput hu pe_s pe_s pe_s hs) (he H F σ c _ fun v H1 F1 l1 r1 => ho H1 F1 σ (c.mono l1) _ fun u H2 F2 l2 r2 => ha H2 F2 σ ((c.mono l1).mono l2) _ fun w H3 F3 l3 r3 => by
    cases r2
    have l := (l1.trans l2).trans l3
    have c3 := c.mono l
    obtain ⟨hf1, ho1⟩ := c3.ownAt hk
    cases r3 with
    | tup s3 r3 =>
      have e3 := keysOf_rep r3 hks
      subst e3
      cases ho1 with
      | dT hp r =>
        refine ⟨p, _, rfl, DPut.t hp (l.ex _ _ s3) (by rw [← repT_len r]; exact hl), ?_⟩
        exact kk.nx _ _ F3 σ h (c3.change hk (.dT upd_same (repT_put r ks ((r1.mono l2.f).mono l3.f)))) ((b.mono l).change c3 hk))
/-- d.get(t, x), d of one's own -/
theorem we_get2T {p : Addr} {nb : Bool} {kvs : List (List Key × D)} {ds : List D} {ks : List Key} {p1 : Pos} (k : Nat) (ho : WE X o ρ (.ref p)) (hk : ρ.o[k]? = some ⟨p, nb, .dT kvs⟩) (ha : WE X a ρ (.tup ds)) (hks : keysOf ds = some ks) (hb : WE X b ρ y) (hu : X.A.units + 1 < cLine) (m : M2 X o "get" p1 a b pos := by exact ⟨rfl, rfl, rfl, rfl⟩) :
    WE X (.Call (.Attribute o "get" p1) [a, b] [] pos) ρ ((getD' kvs ks).getD y) := fun H F σ c Q q =>
  pe_to (pe_dget2 hu pe_s pe_s pe_s m) (ho H F σ c _ fun u H1 F1 l1 r1 => by
    cases r1
    obtain ⟨_, ho1⟩ := (c.mono l1).ownAt hk
    refine ⟨p, rfl, ?_, ha H1 F1 σ (c.mono l1) _ fun v H2 F2 l2 r2 => hb H2 F2 σ ((c.mono l1).mono l2) _ fun w H3 F3 l3 r3 => ?_⟩
    · cases ho1 with
      | dT hp _ => exact .inr ⟨_, .inl hp⟩
    · have l := (l1.trans l2).trans l3
      obtain ⟨_, ho3⟩ := (c.mono l).ownAt hk
      cases r2 with
      | tup s2 r2 =>
        have e2 := keysOf_rep r2 hks
        subst e2
        cases ho3 with
        | dT hp r =>
          refine ⟨_, DGet.t hp (l.ex _ _ (l3.f _ _ s2)), ?_⟩
          rcases repT_get ks r with ⟨h1, h2⟩ | ⟨d, v, h1, h2, h3⟩
          · rw [h2]
            rw [h1] at q
            exact q w H3 F3 l r3
          · rw [h2]
            rw [h1] at q
            exact q v H3 F3 l h3)

/-! ### extend -/
theorem ws_extend {P : Post} {p : Addr} {nb : Bool} {ds es : List D} {ap cp : Pos} (k : Nat) (ho : WE X o ρ (.ref p)) (hk : ρ.o[k]? = some ⟨p, nb, .lst ds⟩) (he : WN X e ρ (.lst es)) (hl : ds.length + es.length ≤ sizeLine) (h : P.nx ⟨ρ.o.set k ⟨p, nb, .lst (ds ++ es)⟩, ρ.s⟩)
    (hs : swapsWith (.Call (.Attribute o "extend" ap) [e] [] cp) none pos.line X.env = pure false := by rfl) (hbase : attributeBase o "extend" X.env (eval o X.env) = eval o X.env := by rfl) (hline : (ap.endLine == cp.line) = true := by rfl)
    (hst : starEach [e] X.env = (false, eval e X.env) :: starEach [] X.env := by rfl)
    (hfew : ((backTo cp (starEach [e] X.env)).all (fun x => !x.1) && (backToKw cp (keywordEach [] X.env)).all (fun x => x.1.isSome) && decide ([e].length + ([] : List Keyword).length + (if ([] : List Keyword).isEmpty then 0 else 1) < 30)) = true := by rfl) :
    WS X (.Expr (.Call (.Attribute o "extend" ap) [e] [] cp) pos) ρ P := fun M H0 F0 B H F σ c b Dn kk =>
  ps_to (ps_expr (pe_bm PySem.F.plainAttrs_list PySem.F.slot_list_extend PySem.F.type_list_extend mt_extend pe_s (pa_cons pe_s pa_nil hst) hbase hfew hline hst rfl) hs) (ho H F σ c _ fun u H1 F1 l1 r1 => by
    cases r1
    obtain ⟨hf1, ho1⟩ := (c.mono l1).ownAt hk
    cases ho1 with
    | lst hp r =>
      refine ⟨.inl ⟨rfl, _, .inl (.inl hp)⟩, he H1 F1 σ (c.mono l1) _ fun q H2 F2 l2 hn hf o2 => ?_⟩
      have hp2 := l2.h _ _ hp
      have c2 := (c.mono l1).mono l2
      have b2 := (b.mono l1).mono l2
      cases o2 with
      | lst hq rq =>
        refine ⟨p, q, _, _, rfl, rfl, hp2, hq, by rw [← r.length, ← rq.length]; exact hl, ?_⟩
        exact kk.nx _ _ F2 σ h (c2.change hk (.lst upd_same ((r.mono l2.f).append rq))) (b2.change c2 hk))
/-- [..] * k -/
theorem wn_rep {ds : List D} (ha : WN X a ρ (.lst ds)) (hb : WB X b ρ (.int i)) (h1 : -(2 ^ 63) ≤ i) (h2 : i < 2 ^ 63) (hl : ds.length * i.toNat ≤ sizeLine) : WN X (.BinOp a .Mult b pos) ρ (.lst (List.replicate i.toNat ds).flatten) :=
  fun H F σ c Q q => pe_to (pe_op op_rep pe_s pe_s) (ha H F σ c _ fun p1 H1 F1 l1 hn hf o1 => hb H1 F1 σ (c.mono l1) _ fun v H2 F2 l2 r2 => by
    cases r2
    cases o1 with
    | lst hp r =>
      refine ⟨p1, i, _, rfl, rfl, l2.h _ _ hp, h1, h2, by rw [← r.length]; exact hl, fun p hp => q p _ F2 ((l1.trans l2).trans (Le.newO l2.ex hp)) ((l1.trans l2).h.free hp) (l2.ex.free hp) (.lst upd_same ?_)⟩
      have r' := r.mono l2.f
      generalize i.toNat = n
      induction n with
      | zero => exact .nil
      | succ n ih =>
        rw [List.replicate_succ, List.replicate_succ, List.flatten_cons, List.flatten_cons]
        exact r'.append ih)
/-- sep.join(xs) -/
theorem we_join {s : Str} {ys : List Str} {p1 : Pos} (ho : WB X o ρ (.str s)) (he : WB X e ρ (.lst (ys.map D.str))) (hl : (ys.map (·.length)).sum + ys.length * s.length ≤ 16777216) (hs : starEach [e] X.env = [(false, eval e X.env)] := by rfl) (hbase : attributeBase o "join" X.env (eval o X.env) = eval o X.env := by rfl) (hline : (p1.endLine == pos.line) = true := by rfl) :
    WE X (.Call (.Attribute o "join" p1) [e] [] pos) ρ (.str (Txt.join s ys)) := fun H F σ c Q q =>
  pe_to (pe_join pe_s pe_s hs hbase hline) (ho H F σ c _ fun u H1 F1 l1 r1 => by
    cases r1
    refine ⟨⟨s, rfl⟩, he H1 F1 σ (c.mono l1) _ fun v H2 F2 l2 r2 => ?_⟩
    cases r2 with
    | lst s2 r2 =>
      have e2 := repL_strs r2
      subst e2
      exact ⟨s, _, ys, rfl, rfl, .inl (.inl s2), hl, q _ H2 F2 (l1.trans l2) (.str _)⟩)
end
end DL
/-! DLj: enumerate of a tuple, from a start; a for over a list of one's own. -/
namespace DL
open PySem PySem.Spec PyProof.Rows L2

def IteT (K : PySem.W.Frag) (a : Addr) (k : Int) : It :=
  ⟨fun i H => ∃ (xs : List V) (x : V), SqT K H a xs ∧ xs[i]? = some x, fun i H v H' => ∃ T x, v = .ref T ∧ H T = none ∧ H' = upd H T (.tup [.int (k + (i : Nat)), x]) ∧ ∀ xs, SqT K H a xs → xs[i]? = some x, fun i H => ∃ xs : List V, SqT K H a xs ∧ xs.length ≤ i⟩
theorem tup_ne {h : Heap} {a b : Addr} {its : Array Value} {o : Obj} {n : String} (p : IsTup h a its) (e : h.get? b = some o) (c : o.cls = .type n) (hn : n ≠ "tuple") : a ≠ b := fun z => by
  subst z
  obtain ⟨o', e', c', _⟩ := p
  rw [e] at e'
  cases e'
  rw [c] at c'
  injection c' with c'
  exact hn c'
theorem enum_endT {prog : Program} {w : World} {A : Around} {E : Value → Shared → Prop} {s : Shared} {e it l : Addr} {i : Nat} {k : Int} {items : Array Value} {old : Value} {Q : Option Value → Shared → Prop} (hh : A.handled = none)
    (he : IsEnum s.heap e it k old) (hit : s.heap.IsTupleIter it l i) (hl : s.heap.IsTuple l items) (hx : items[i]? = none)
    (hQ : ∀ h', Heap.ExtBut it s.heap h' → Q none { s with heap := h' }) : wpAny (model prog w) A (pyNext (.ref e)) Q E s := by
  have hT : s.TypeIs (.ref e) "enumerate" := ⟨_, he, rfl⟩
  unfold pyNext
  refine wpAny_bind (wpAny_attempt (wpAny_callSpecial?_slot (name := Str.ofString "__next__") hT F.slot_enumerate_next
    (wpAny_call_entry F.slot_enumerate_next hT F.entry_enumerate_next ?_ (F.args_enumerate_next_1 _))))
  show wpAny _ _ (field (.ref e) 2 >>= _) _ _ _
  refine wpAny_bind (wpAny_field he rfl (x := .ref it) rfl ?_)
  refine wpAny_bind (wpAny_nextOf_tuple_end hh hit hl hx fun h' x he' hx' => ?_)
  obtain ⟨o, ho, hc⟩ := hx'
  refine wpAny_bind (wpAny_isInstance (T := "StopIteration") (b := true) ⟨o, ho, hc⟩ isSubtype_stop ?_)
  exact wpAny_pure (hQ _ he')
theorem turn_enumT {P : Program} {w : World} {K : PySem.W.Frag} {elts : List Expr} {kk : Nat} {tpos : Pos} (a e it : Addr) (k : Int) :
    Turn P w K (.Tuple elts kk tpos) (IteT K a k) [e, it] e (fun i h => (∃ old, IsEnum h e it (k + (i : Nat)) old) ∧ h.IsTupleIter it a i ∧ e ≠ it) where
  mem := by simp
  obj := fun i h st b hb => by
    obtain ⟨⟨old, he⟩, ⟨o, ho, hc, hd⟩, _⟩ := st
    have e' : b = e ∨ b = it := by simpa using hb
    rcases e' with z | z
    · rw [z]; exact ⟨_, he, fun v q => nomatch q⟩
    · rw [z]; exact ⟨o, ho, fun v q => by rw [hd] at q; cases q⟩
  keep := fun i h h' st k => let ⟨⟨old, he⟩, hi, hne⟩ := st; ⟨⟨old, k e (by simp) _ he⟩, hi.at fun o q => k it (by simp) o q, hne⟩
  item := by
    intro X hP hw hK hc i pins s σ H E I hf st hg
    subst hP hw hK
    obtain ⟨⟨old, he⟩, hit, hne⟩ := st
    obtain ⟨xs, x, hq, hx⟩ := hg
    obtain ⟨its, rv, p, hz⟩ := I.tuple hq
    obtain ⟨u, hu, ru⟩ := rv.get hx
    have hel : e < s.heap.objs.size := Heap.lt_size he
    have hil : it < s.heap.objs.size := by obtain ⟨_, q, _⟩ := id hit; exact Heap.lt_size q
    have nai : a ≠ it := by obtain ⟨o, q, c, _⟩ := id hit; exact tup_ne p q c (by decide)
    have nae : a ≠ e := tup_ne p he (show _ = Value.type "enumerate" from rfl) (by decide)
    have hlt : i < its.toArray.size := by
      have := (List.getElem?_eq_some_iff.mp hu).1
      simpa using this
    refine wpAny_pyNext_enum_itemC (Draws.tuple (A := X.A.in1) (I.ok.hd hc) it a nai its.toArray) he ⟨hit, p⟩ hlt hne (by simp [hne, nae.symm]) fun y h' tk hP ho hst' hT hsz hk => ?_
    have ey : y = u := by
      have z : its.toArray[i]? = some u := by simpa using hu
      rw [z] at hP
      exact (Option.some.inj hP).symm
    subst ey
    refine ⟨_, rfl, wpAny_letOwnedTupleGo_enum (s := { s with heap := h', toks := tk + 1 }) ho fun h'' he' sb => ?_⟩
    have hT2 : h''.get? s.heap.objs.size = some { cls := .type "tuple", data := .seq #[.int (k + (i : Nat)) tk, y] } := (sb.2 _ (Nat.ne_of_gt hel)).trans hT
    have new : ObjOk X.prog X.w (upd H s.heap.objs.size (.tup [.int (k + (i : Nat)), x])) h'' s.heap.objs.size (.tup [.int (k + (i : Nat)), x]) :=
      ⟨by show 2 ≤ sizeLine; decide, [.int (k + (i : Nat)) tk, y], .cons ⟨_, rfl⟩ (.cons ru .nil), ⟨_, hT2, rfl, _, rfl⟩⟩
    have I1 : Inv X pins σ (upd H s.heap.objs.size (.tup [.int (k + (i : Nat)), x])) { s with heap := h'', toks := tk + 1 } :=
      I.turnedNew (ch := [e, it]) (fun b ob hb q => (sb.2 b (fun z => hb (by simp [z]))).trans (hk b ob (fun z => hb (by simp [z])) (fun z => hb (by simp [z])) q)) hf (Nat.le_refl _) new
    refine ⟨.ref s.heap.objs.size, _, I1, rfl, ⟨_, x, rfl, I.hok.fresh (Nat.le_refl _), rfl, fun ys hy => by rw [I.tuple_inj hy hq]; exact hx⟩, ⟨⟨y, ?_⟩, hst'.1.at fun o q => (sb.2 it (Ne.symm hne)).trans q, hne⟩, fun b hb => ?_⟩
    · have e1 : k + ((i + 1 : Nat) : Int) = k + (i : Int) + 1 := by omega
      rw [e1]; exact he'
    · have hb' : b < s.heap.objs.size := by
        have e' : b = e ∨ b = it := by simpa using hb
        rcases e' with z | z
        · rw [z]; exact hel
        · rw [z]; exact hil
      rw [upd_ne (Nat.ne_of_lt hb')]
      exact (hf b hb).1
  done := by
    intro X hP hw hK hc i pins s σ H E I hf st hg
    subst hP hw hK
    obtain ⟨⟨old, he⟩, hit, hne⟩ := st
    obtain ⟨xs, hq, hx⟩ := hg
    obtain ⟨its, rv, p, hz⟩ := I.tuple hq
    obtain ⟨f0, f1, f2, f3, f4, f5⟩ := hf it (by simp)
    have hl := rv.length
    exact enum_endT (I.ok.hd hc) he hit p (by simp; omega) fun h' eb => ⟨rfl, I.turned (t' := s.toks) (fun b o hb q => eb b o hb q) f0 f1 f3 f4 f5⟩
  self := fun A i s Q E st h => let ⟨⟨_, he⟩, _⟩ := st; wpAny_pyIter_enum he h
/-! enumerate(t, start=k) -/
section
variable {M : Model} {A : Around} {E : Value → Shared → Prop} {s : Shared} {env : Env}
theorem callWith_typeKw {pos : Pos} {T : String} {e : Expr} {rest : List Expr} {kws : List Keyword} {Q : Value → Shared → Prop}
    (h : wpAny M A (spliced (backTo pos (starEach (e :: rest) env))) (fun vs s₁ => wpAny M A (evalAll ((backToKw pos (keywordEach kws env)).map (·.2)))
      (fun kvs s₂ => wpAny M A (call (.type T) vs (((backToKw pos (keywordEach kws env)).filterMap (·.1)).zip kvs)) Q E s₂) E s₁) E s)
    (he : backTo pos (starEach (e :: rest) env) = (false, eval e env) :: backTo pos (starEach rest env))
    (hplain : (backTo pos (starEach (e :: rest) env)).any (·.1) = false)
    (hall : (backToKw pos (keywordEach kws env)).all (·.1.isSome) = true)
    (hkw : (backToKw pos (keywordEach kws env)).any (·.1.isNone) = false) :
    wpAny M A (callWith pos (.type T) [] (backTo pos (starEach (e :: rest) env)) (backToKw pos (keywordEach kws env))) Q E s := by
  have main : wpAny M A (evalArgs (.type T) true (backTo pos (starEach (e :: rest) env)) (backToKw pos (keywordEach kws env))) (fun a s₁ => wpAny M A (call (.type T) ([] ++ a.pos) a.kw) Q E s₁) E s := by
    rw [he] at h ⊢
    exact evalArgs_kwB hall h
  unfold callWith
  refine wpAny_bind (wpAny_holding (wpAny_mono main (fun a s₁ h₁ => wpAny_bind (wpAny_standAt ?_)) fun _ _ x => x))
  simp only [hplain, hkw, Bool.or_false]
  refine wpAny_bind (wpAny_pure ?_)
  exact wpAny_bind (wpAny_mono h₁ (fun r s₂ hr => wpAny_bind (wpAny_holding (wpAny_point (wpAny_pure hr)))) fun _ _ x => x)
end
def iEnumT (K : PySem.W.Frag) (te tk : TE) : TI := fun σ H R => te σ H fun v H1 => tk σ H1 fun u H2 => ∃ a xs k, v = .ref a ∧ u = .int k ∧ -(2 ^ 63) ≤ k ∧ k < 2 ^ 63 ∧ SqT K H2 a xs ∧ R (IteT K a k) H2
theorem pi_enumT {X : Cx} {e kv : Expr} {te tk : TE} {p pos tpos kp : Pos} {elts : List Expr} {kk : Nat} (hg : Gl X "enumerate") (hm : X.mg "enumerate" = none) (ha : PE X e te) (hk : PE X kv tk)
    (hs : starEach [e] X.env = (false, eval e X.env) :: starEach [] X.env := by rfl) (hs2 : backTo pos (starEach [e] X.env) = (false, eval e X.env) :: backTo pos (starEach [] X.env) := by rfl)
    (hpl : (backTo pos (starEach [e] X.env)).any (·.1) = false := by rfl) (hall : (backToKw pos (keywordEach [⟨some "start", kv, kp⟩] X.env)).all (·.1.isSome) = true := by rfl) (hkw : (backToKw pos (keywordEach [⟨some "start", kv, kp⟩] X.env)).any (·.1.isNone) = false := by rfl)
    (hnm : (backToKw pos (keywordEach [⟨some "start", kv, kp⟩] X.env)).filterMap (·.1) = [("start" : Str)] := by rfl) :
    PI X (.Tuple elts kk tpos) (.Call (.Name "enumerate" p) [e] [⟨some "start", kv, kp⟩] pos) (iEnumT X.K te tk) := by
  refine ⟨fun pins s σ H R I h => ?_⟩
  refine wpAny_Call_Name_kw (ld_blt I hg hm boot_enumerate (callWith_typeKw ?_ hs2 hpl hall hkw))
  have pa1 := pa_cons (X := X) ha pa_nil hs
  refine thn (pa1.run pos pins s σ H (fun vs H1 => match vs with
    | [v] => tk σ H1 fun u H2 => ∃ a xs k, v = .ref a ∧ u = .int k ∧ -(2 ^ 63) ≤ k ∧ k < 2 ^ 63 ∧ SqT X.K H2 a xs ∧ R (IteT X.K a k) H2
    | _ => False) I h) fun us s1 ⟨vs, H1, I1, r1, q1⟩ => ?_
  match vs, r1, q1 with
  | [v], r1, q1 =>
    refine kws_cons (thn (hk.run pins s1 σ H1 _ I1 q1) fun ku s2 ⟨u, H2, I2, r2, a, xs, k, ea, eu, h1, h2, hq, q⟩ => ?_)
    subst ea eu
    obtain ⟨t, rfl⟩ := r2
    refine evalAll_nil ?_
    cases r1 with
    | cons r rr =>
      cases rr
      cases r
      rw [hnm]
      obtain ⟨its, rv, ht, hz⟩ := I2.tuple hq
      show wpAny _ _ (call (.type "enumerate") [.ref a] [(("start" : Str), .int k t)]) _ _ _
      refine enum_begins_start (begins_tuple a its.toArray) ht h1 h2 fun h' he hit hsz hkk => wpAny_pyIter_enum he ?_
      have I3 : Inv X pins σ H2 { s2 with heap := h' } := I2.kept (t' := s2.toks) hkk
      refine ⟨s2.heap.objs.size + 1, [s2.heap.objs.size + 1, s2.heap.objs.size], _, _, H2, rfl, I3, turn_enumT a (s2.heap.objs.size + 1) s2.heap.objs.size k, ⟨⟨.none, ?_⟩, ⟨_, hit, rfl, rfl⟩, Nat.succ_ne_self _⟩, fun b hb => ?_, q⟩
      · have e1 : k + ((0 : Nat) : Int) = k := by omega
        rw [e1]
        exact he
      · have e' : b = s2.heap.objs.size + 1 ∨ b = s2.heap.objs.size := by simpa using hb
        have hle : s2.heap.objs.size ≤ b := by
          rcases e' with z | z
          · rw [z]; exact Nat.le_add_right _ _
          · rw [z]; exact Nat.le_refl _
        exact I2.fpOk hle (I2.hok.fresh hle)
/-! ### enumerate by data -/
def enumL {τ : Type} : Int → List τ → List (Int × τ)
  | _, [] => []
  | k, x :: r => (k, x) :: enumL (k + 1) r
def enumEnc {τ : Type} (enc : τ → D) (q : Int × τ) : D := .tup [.int q.1, enc q.2]
theorem enumL_get {τ : Type} : ∀ (l : List τ) (k : Int) (i : Nat), (enumL k l)[i]? = l[i]?.map fun x => (k + (i : Int), x)
  | [], k, i => by simp [enumL]
  | x :: r, k, 0 => by simp [enumL]
  | x :: r, k, i + 1 => by
    have := enumL_get r (k + 1) i
    simp only [enumL, List.getElem?_cons_succ]
    rw [this]
    congr 1
    funext x
    congr 1
    omega
theorem enumL_length {τ : Type} : ∀ (l : List τ) (k : Int), (enumL k l).length = l.length
  | [], _ => rfl
  | x :: r, k => by simp [enumL, enumL_length r]
theorem enumL_append {τ : Type} : ∀ (l m : List τ) (k : Int), enumL k (l ++ m) = enumL k l ++ enumL (k + (l.length : Int)) m
  | [], m, k => by simp [enumL]
  | x :: r, m, k => by
    simp only [List.cons_append, enumL, List.length_cons]
    rw [enumL_append r m (k + 1)]
    congr 2
    congr 1
    omega
theorem enumL_snd {τ : Type} : ∀ (l : List τ) (k : Int), (enumL k l).map (·.2) = l
  | [], _ => rfl
  | x :: r, k => by simp [enumL, enumL_snd r]
/-- a prefix of an enumeration is the enumeration of a prefix -/
theorem enumL_split {τ : Type} {k : Int} {q : Int × τ} : ∀ {l : List τ} {pre post : List (Int × τ)}, enumL k l = pre ++ q :: post → ∃ a b, l = a ++ q.2 :: b ∧ pre = enumL k a ∧ q.1 = k + (a.length : Int) ∧ post = enumL (q.1 + 1) b := by
  intro l pre post h
  refine ⟨pre.map (·.2), post.map (·.2), ?_, ?_, ?_, ?_⟩
  · have := congrArg (List.map (·.2)) h
    rw [enumL_snd] at this
    simpa using this
  · have hp : pre = (enumL k l).take pre.length := by rw [h]; simp
    have key : ∀ (l : List τ) (k : Int) (n : Nat), (enumL k l).take n = enumL k (l.take n) := by
      intro l
      induction l with
      | nil => intro k n; simp [enumL]
      | cons x r ih =>
        intro k n
        cases n with
        | zero => simp [enumL]
        | succ n => simp [enumL, ih]
    rw [key] at hp
    have e : l.take pre.length = pre.map (·.2) := by
      have := congrArg (List.map (·.2)) hp
      rw [enumL_snd] at this
      exact this.symm
    rw [← e]
    exact hp
  · have := enumL_get l k pre.length
    rw [h] at this
    simp only [List.getElem?_append_right (Nat.le_refl _), Nat.sub_self, List.getElem?_cons_zero] at this
    rw [List.length_map]
    cases hx : l[pre.length]? with
    | none =>
      rw [hx] at this
      cases this
    | some x =>
      rw [hx] at this
      have := Option.some.inj this
      rw [this]
  · apply List.ext_getElem?
    intro i
    rw [enumL_get]
    have h1 := enumL_get l k (pre.length + 1 + i)
    have h0 := enumL_get l k pre.length
    rw [h] at h1 h0
    have e1 : (pre ++ q :: post)[pre.length + 1 + i]? = post[i]? := by
      rw [List.getElem?_append_right (by omega)]
      rw [show pre.length + 1 + i - pre.length = i + 1 by omega]
      rfl
    have e0 : (pre ++ q :: post)[pre.length]? = some q := by simp
    rw [e1] at h1
    rw [e0] at h0
    rw [h1]
    have e2 : (post.map (·.2))[i]? = l[pre.length + 1 + i]? := by
      have := congrArg (List.map (·.2)) h
      rw [enumL_snd] at this
      rw [this, List.map_append, List.map_cons]
      rw [List.getElem?_append_right (by rw [List.length_map]; omega), List.length_map]
      rw [show pre.length + 1 + i - pre.length = i + 1 by omega]
      rfl
    rw [e2]
    cases hx : l[pre.length]? with
    | none =>
      rw [hx] at h0
      cases h0
    | some x =>
      rw [hx] at h0
      have hq := Option.some.inj h0
      rw [hq]
      congr 1
      funext y
      congr 1
      simp only
      omega
section
variable {X : Cx} {e kv : Expr} {ρ : En} {P : Post} {tg iter : Expr} {pos p tpos kp : Pos} {elts : List Expr} {kk : Nat} {body : List Stmt}
theorem it_enum {K : PySem.W.Frag} {τ : Type} {l : List τ} {enc : τ → D} {B F : Hp} {a : Addr} {vs : List V} (s : Rd B a (.lst vs)) (r : RepL K F (l.map enc) vs) : ItOk K B F (Ite K a) ((enumL 0 l).map (enumEnc enc)) := by
  have hl : l.length = vs.length := by have := r.length; simpa using this
  refine ⟨fun i H e hi => ?_, fun i H e hi => ?_, fun i H F' x H' d e f ex hd y => ?_⟩
  · rw [List.length_map, enumL_length] at hi
    obtain ⟨v, hv⟩ : ∃ v, vs[i]? = some v := ⟨vs[i]'(by omega), List.getElem?_eq_getElem _⟩
    exact ⟨vs, v, .inl (same_rd e s), hv⟩
  · rw [List.length_map, enumL_length] at hi
    exact ⟨vs, .inl (same_rd e s), by omega⟩
  · obtain ⟨T, z, rfl, hT, rfl, hz⟩ := y
    have hv := hz vs (.inl (same_rd e s))
    rw [List.getElem?_map, enumL_get] at hd
    cases hx : l[i]? with
    | none =>
      rw [hx] at hd
      cases hd
    | some q =>
      rw [hx] at hd
      cases hd
      obtain ⟨v, hv2, rv⟩ := r.get (i := i) (d := enc q) (by rw [List.getElem?_map, hx]; rfl)
      rw [hv] at hv2
      cases hv2
      have hF : F' T = none := ex.free hT
      refine ⟨upd F' T _, Le.new ex hT, .tup upd_same (.cons ?_ (.cons ((rv.mono f).mono (same_new hF)) .nil))⟩
      have e0 : (0 : Int) + (i : Int) = ((i : Nat) : Int) := by omega
      rw [e0]
      exact .int _
theorem it_enumT {K : PySem.W.Frag} {τ : Type} {l : List τ} {enc : τ → D} {B F : Hp} {a : Addr} {vs : List V} {k : Int} (s : B a = some (.tup vs)) (r : RepL K F (l.map enc) vs) : ItOk K B F (IteT K a k) ((enumL k l).map (enumEnc enc)) := by
  have hl : l.length = vs.length := by have := r.length; simpa using this
  refine ⟨fun i H e hi => ?_, fun i H e hi => ?_, fun i H F' x H' d e f ex hd y => ?_⟩
  · rw [List.length_map, enumL_length] at hi
    obtain ⟨v, hv⟩ : ∃ v, vs[i]? = some v := ⟨vs[i]'(by omega), List.getElem?_eq_getElem _⟩
    exact ⟨vs, v, .inl (.inl (e _ _ s)), hv⟩
  · rw [List.length_map, enumL_length] at hi
    exact ⟨vs, .inl (.inl (e _ _ s)), by omega⟩
  · obtain ⟨T, z, rfl, hT, rfl, hz⟩ := y
    have hv := hz vs (.inl (.inl (e _ _ s)))
    rw [List.getElem?_map, enumL_get] at hd
    cases hx : l[i]? with
    | none =>
      rw [hx] at hd
      cases hd
    | some q =>
      rw [hx] at hd
      cases hd
      obtain ⟨v, hv2, rv⟩ := r.get (i := i) (d := enc q) (by rw [List.getElem?_map, hx]; rfl)
      rw [hv] at hv2
      cases hv2
      have hF : F' T = none := ex.free hT
      exact ⟨upd F' T _, Le.new ex hT, .tup upd_same (.cons (.int _) (.cons ((rv.mono f).mono (same_new hF)) .nil))⟩
theorem wi_enumL {τ : Type} {l : List τ} {enc : τ → D} (h : WE X e ρ (.lst (l.map enc))) (hm : X.mg "enumerate" = none) (hg : Gl X "enumerate" := by rfl) (hs : starEach [e] X.env = [(false, eval e X.env)] := by rfl) :
    WI X (.Tuple elts kk tpos) (.Call (.Name "enumerate" p) [e] [] pos) ρ ((enumL 0 l).map (enumEnc enc)) := ⟨_, pi_enum hg hm pa_s hs, fun H F σ c R q => wa_cons h wa_nil hs H F σ c _ fun vs H1 F1 l1 r1 => by
  cases r1 with
  | cons r1 r2 =>
    cases r2
    cases r1 with
    | lst s r => exact ⟨_, _, rfl, .inl (same_rd l1.ex s), q _ H1 F1 l1 (it_enum s r)⟩⟩
theorem wio_enumO {τ : Type} {l : List τ} {enc : τ → D} {a : Addr} {nb : Bool} (k : Nat) (h : WE X e ρ (.ref a)) (hk : ρ.o[k]? = some ⟨a, nb, .lst (l.map enc)⟩) (hm : X.mg "enumerate" = none) (hg : Gl X "enumerate" := by rfl) (hs : starEach [e] X.env = [(false, eval e X.env)] := by rfl) :
    WIo X (.Tuple elts kk tpos) (.Call (.Name "enumerate" p) [e] [] pos) ρ ((enumL 0 l).map (enumEnc enc)) := ⟨_, pi_enum hg hm pa_s hs, fun H F σ c R q => wa_cons h wa_nil hs H F σ c _ fun vs H1 F1 l1 r1 => by
  cases r1 with
  | cons r1 r2 =>
    cases r2
    cases r1
    obtain ⟨h1, h2⟩ := (c.mono l1).ownAt hk
    cases h2 with
    | lst s r => exact ⟨_, _, rfl, .inl (.inl s), q _ H1 F1 l1 (it_enum (.inl s) r)⟩⟩
theorem wi_enumT {τ : Type} {l : List τ} {enc : τ → D} {k : Int} (h : WE X e ρ (.tup (l.map enc))) (hk : WB X kv ρ (.int k)) (h1 : -(2 ^ 63) ≤ k) (h2 : k < 2 ^ 63) (hm : X.mg "enumerate" = none) (hg : Gl X "enumerate" := by rfl)
    (hs : starEach [e] X.env = (false, eval e X.env) :: starEach [] X.env := by rfl) (hs2 : backTo pos (starEach [e] X.env) = (false, eval e X.env) :: backTo pos (starEach [] X.env) := by rfl)
    (hpl : (backTo pos (starEach [e] X.env)).any (·.1) = false := by rfl) (hall : (backToKw pos (keywordEach [⟨some "start", kv, kp⟩] X.env)).all (·.1.isSome) = true := by rfl) (hkw : (backToKw pos (keywordEach [⟨some "start", kv, kp⟩] X.env)).any (·.1.isNone) = false := by rfl)
    (hnm : (backToKw pos (keywordEach [⟨some "start", kv, kp⟩] X.env)).filterMap (·.1) = [("start" : Str)] := by rfl) :
    WI X (.Tuple elts kk tpos) (.Call (.Name "enumerate" p) [e] [⟨some "start", kv, kp⟩] pos) ρ ((enumL k l).map (enumEnc enc)) := ⟨_, pi_enumT hg hm pe_s pe_s hs hs2 hpl hall hkw hnm, fun H F σ c R q => h H F σ c _ fun v H1 F1 l1 r1 => hk H1 F1 σ (c.mono l1) _ fun u H2 F2 l2 r2 => by
  cases r2
  cases r1 with
  | tup s r => exact ⟨_, _, k, rfl, rfl, h1, h2, .inl (.inl ((l1.ex.trans l2.h) _ _ s)), q _ H2 F2 (l1.trans l2) (it_enumT (l2.f _ _ s) (r.mono l2.f))⟩⟩

/-! ### for over a list of one's own that the loop leaves -/
theorem ws_forO {τ : Type} {l : List τ} {enc : τ → D} {a : Addr} {nb : Bool} (k : Nat) (E : List τ → En) (h : WE X iter ρ (.ref a)) (hk : ∀ pre, (E pre).o[k]? = some ⟨a, nb, .lst (l.map enc)⟩) (h0 : Wk ρ (E []))
    (hb : ∀ (pre : List τ) (x : τ) (post : List τ), l = pre ++ x :: post → ∃ sets, WG X tg (enc x) sets ∧ WSs X body ⟨(E pre).o, putρ (E pre).s sets⟩ ⟨fun r => r = E (pre ++ [x]), P.rt, P.nx, fun r => r = E (pre ++ [x])⟩)
    (hd : P.nx (E l)) (hp : PassesOwn (model X.prog X.w) X.A X.env X.xe := by exact PassesOwn.never) (hc : X.calm = true := by rfl) (hs : ∀ x, foldedSetIterable iter X.env x = pure x := by intro _; rfl) : WS X (.For tg iter body [] pos) ρ P := fun M H0 F0 B H F σ c b Dn kk => by
  refine ps_to (ps_for hp hc (pi_list pe_s) pg_s pss_s hs) (h H F σ c _ fun v H1 F1 l1 r1 => ?_)
  cases r1
  have read : ∀ {i : Nat} {H : Hp} {F' : Hp} {σ : L2.St}, Cf X.K H F' (E (l.take i)) σ → ∃ vs, SqL X.K H a vs ∧ RepL X.K F' (l.map enc) vs := fun {i H F' σ} c => by
    obtain ⟨h1, h2⟩ := c.ownAt (hk (l.take i))
    cases h2 with
    | lst s r => exact ⟨_, .inl (.inl s), r⟩
  have c1 := (c.mono l1).wk h0
  have b1 := (b.mono l1).wk h0
  obtain ⟨vs0, s0, _⟩ := read (i := 0) (by simpa using c1)
  refine ⟨a, rfl, ⟨vs0, s0⟩, ?_⟩
  let St := fun (i : Nat) (σ : L2.St) (H : Hp) => ∃ F', Cf X.K H F' (E (l.take i)) σ ∧ Bs M H0 F0 B H F' (E (l.take i)).o
  refine ⟨fun i m σ H => i + m = l.length ∧ St i σ H, ⟨l.length, by simp, F1, by simpa using c1, by simpa using b1⟩, ?_⟩
  rintro i m σ H ⟨em, F', c2, b2⟩
  obtain ⟨vs, sq, r⟩ := read c2
  have hlen : l.length = vs.length := by have := r.length; simpa using this
  by_cases hi : i < l.length
  · have hx := List.getElem?_eq_getElem hi
    obtain ⟨e1, e2⟩ := take_cons hx
    obtain ⟨v, hv, rv⟩ := r.get (i := i) (d := enc l[i]) (by rw [List.getElem?_map, hx]; rfl)
    refine .inr ⟨⟨vs, v, sq, hv⟩, St (i + 1), fun σ' H' n => ⟨m - 1, by omega, by omega, n⟩, fun x H' y => ?_⟩
    obtain ⟨y1, y2⟩ := y
    have z := y2 vs sq
    rw [hv] at z
    cases z
    subst y1
    obtain ⟨sets, g, w⟩ := hb _ _ _ e1
    obtain ⟨ws, rs, q⟩ := g H' F' σ v c2.ex rv
    refine q _ ?_
    refine w M H0 F0 B H' F' (putσ σ ws) (Cf.put _ _ _ _ rs c2) b2 _ ⟨fun ρ H F σ n c b => ?_, fun γ d v H F n c b => kk.rt γ d v H F n c b, fun ρ H F σ n c b => kk.nx ρ H F σ n c b, fun ρ H F σ n c b => ?_⟩
    · subst n
      rw [← e2] at c b
      exact ⟨F, c, b⟩
    · subst n
      rw [← e2] at c b
      exact ⟨F, c, b⟩
  · have e : i = l.length := by omega
    subst e
    rw [List.take_length] at c2 b2
    exact .inl ⟨⟨vs, sq, by omega⟩, kk.nx _ H F' σ hd c2 b2⟩
theorem wi_rg1 {a : Expr} {j : Int} (ha : WB X a ρ (.int j)) (h1 : -(2 ^ 62) ≤ j) (h2 : j < 2 ^ 62) (hm : X.mg "range" = none) (hg : Gl X "range" := by rfl) (hs : starEach [a] X.env = [(false, eval a X.env)] := by rfl) :
    WI X tg (.Call (.Name "range" p) [a] [] pos) ρ ((rgL 0 j).map D.int) := by
  have h := wi_rng1 (tg := tg) (p := p) (pos := pos) ha h1 h2 hm hg hs
  have e : (rgL 0 j).map D.int = (List.range j.toNat).map fun i : Nat => D.int (i : Int) := by
    unfold rgL
    rw [List.map_map, Int.sub_zero]
    refine List.map_congr_left fun k _ => ?_
    show D.int (0 + (k : Int)) = _
    rw [Int.zero_add]
  rw [e]
  exact h
theorem wi_rg2 {a b : Expr} {i j : Int} (ha : WB X a ρ (.int i)) (hb : WB X b ρ (.int j)) (h1 : -(2 ^ 62) ≤ i) (h2 : i < 2 ^ 62) (h3 : -(2 ^ 62) ≤ j) (h4 : j < 2 ^ 62) (hm : X.mg "range" = none) (hg : Gl X "range" := by rfl)
    (hs : starEach [a, b] X.env = [(false, eval a X.env), (false, eval b X.env)] := by rfl) (hs2 : starEach [b] X.env = [(false, eval b X.env)] := by rfl) :
    WI X tg (.Call (.Name "range" p) [a, b] [] pos) ρ ((rgL i j).map D.int) := by
  have h := wi_rng2 (tg := tg) (p := p) (pos := pos) ha hb h1 h2 h3 h4 hm hg hs hs2
  have e : (rgL i j).map D.int = (List.range (j - i).toNat).map fun k : Nat => D.int (i + (k : Int)) := by
    unfold rgL
    rw [List.map_map]
    rfl
  rw [e]
  exact h
theorem WkS.set {d : D} : ∀ {r q : List (Option D)} (i : Nat), WkS r q → WkS (r.set i (some d)) (q.set i (some d))
  | _, _, _, .nil => .nil
  | _, _, 0, .keep e w => .keep rfl w
  | _, _, i + 1, .keep e w => .keep e (WkS.set i w)
  | _, _, 0, .drop w => .keep rfl w
  | _, _, i + 1, .drop w => .drop (WkS.set i w)
  | _, _, 0, .any w => .keep rfl w
  | _, _, i + 1, .any w => .any (WkS.set i w)
theorem WkS.put : ∀ {r q : List (Option D)} (s : List (Nat × D)), WkS r q → WkS (putρ r s) (putρ q s)
  | _, _, [], w => w
  | _, _, (i, d) :: s, w => WkS.put s (WkS.set i w)
/-- for, by what was walked and a state -/
theorem ws_forS {τ α : Type} {l : List τ} {enc : τ → D} (E : List τ → α → En) (I : List τ → α → Prop) (a0 : α) (hw : WI X tg iter ρ (l.map enc)) (i0 : I [] a0) (h0 : Wk ρ (E [] a0))
    (hb : ∀ (pre : List τ) (x : τ) (post : List τ) (a : α), l = pre ++ x :: post → I pre a → ∃ sets, WG X tg (enc x) sets ∧ WSs X body ⟨(E pre a).o, putρ (E pre a).s sets⟩ ⟨fun r => ∃ a', I (pre ++ [x]) a' ∧ Wk r (E (pre ++ [x]) a'), P.rt, P.nx, fun r => ∃ a', I (pre ++ [x]) a' ∧ Wk r (E (pre ++ [x]) a')⟩)
    (hd : ∀ a, I l a → P.nx (E l a)) (hp : PassesOwn (model X.prog X.w) X.A X.env X.xe := by exact PassesOwn.never) (hc : X.calm = true := by rfl) (hs : ∀ x, foldedSetIterable iter X.env x = pure x := by intro _; rfl) : WS X (.For tg iter body [] pos) ρ P := by
  have hb' : ∀ (pre : List τ) (x : τ) (post : List τ) (a : α), l = pre ++ x :: post → I pre a → ∃ sets, WG X tg (enc x) sets ∧ WSs X body ⟨(E pre a).o, putρ (E pre a).s sets⟩ ⟨fun r => ∃ a', I (pre ++ [x]) a' ∧ r = E (pre ++ [x]) a', P.rt, P.nx, fun r => ∃ a', I (pre ++ [x]) a' ∧ r = E (pre ++ [x]) a'⟩ := by
    intro pre x post a h1 h2
    obtain ⟨sets, g, w⟩ := hb pre x post a h1 h2
    refine ⟨sets, g, ?_⟩
    intro M H0 F0 B H F σ c b Dn kk
    refine w M H0 F0 B H F σ c b Dn ⟨fun r H F σ n c b => ?_, kk.rt, kk.bk, fun r H F σ n c b => ?_⟩
    · obtain ⟨a', i', w'⟩ := n
      exact kk.nx _ H F σ ⟨a', i', rfl⟩ (c.wk w') (b.wk w')
    · obtain ⟨a', i', w'⟩ := n
      exact kk.ct _ H F σ ⟨a', i', rfl⟩ (c.wk w') (b.wk w')
  refine ws_forI hw (fun i r => ∃ a, I (l.take i) a ∧ r = E (l.take i) a) h0 ⟨a0, i0, rfl⟩ (fun i d ρ1 hi hr => ?_) (fun ρ1 hr => ?_) hp hc hs
  · rw [List.getElem?_map] at hi
    cases hx : l[i]? with
    | none =>
      rw [hx] at hi
      cases hi
    | some x =>
      rw [hx] at hi
      cases hi
      obtain ⟨e1, e2⟩ := take_cons hx
      obtain ⟨a, ia, rfl⟩ := hr
      obtain ⟨sets, g, w⟩ := hb' _ x _ a e1 ia
      rw [← e2] at w
      exact ⟨sets, g, w⟩
  · obtain ⟨a, ia, rfl⟩ := hr
    rw [List.length_map, List.take_length] at ia ⊢
    exact hd a ia
/-- a value of which nothing is told -/
theorem ws_retA {d : D} (he : WE X e ρ d) (h : P.rt ρ.o .any) : WS X (.Return (some e) pos) ρ P := ws_ret (we_any he) h
end
/-! ### tables -/
section
variable {κ : Type} [DecidableEq κ]
theorem putD_mem {kvs : List (κ × D)} {k : κ} {v : D} {q : κ × D} (h : q ∈ putD kvs k v) : q ∈ kvs ∨ q.2 = v := by
  unfold putD at h
  split at h
  · obtain ⟨r, hr, rfl⟩ := List.mem_map.mp h
    by_cases e : r.1 = k
    · rw [if_pos e]; exact .inr rfl
    · rw [if_neg e]; exact .inl hr
  · rcases List.mem_append.mp h with h | h
    · exact .inl h
    · have z : q = (k, v) := by simpa using h
      rw [z]; exact .inr rfl
theorem getD_mem {kvs : List (κ × D)} {k : κ} {d : D} (h : getD' kvs k = some d) : ∃ q ∈ kvs, q.2 = d := by
  unfold getD' at h
  cases e : kvs.find? fun kv => decide (kv.1 = k) with
  | none => rw [e] at h; cases h
  | some q =>
    rw [e] at h
    cases h
    exact ⟨q, List.mem_of_find?_eq_some e, rfl⟩
theorem putD_len (kvs : List (κ × D)) (k : κ) (v : D) : (putD kvs k v).length ≤ kvs.length + 1 := by
  unfold putD
  split
  · rw [List.length_map]; omega
  · rw [List.length_append]; simp
end
theorem keysOf_len : ∀ {ds : List D} {ks : List Key}, keysOf ds = some ks → ds.length = ks.length
  | [], ks, h => by cases h; rfl
  | d :: ds, ks, h => by
    unfold keysOf at h
    cases e1 : keyOf d with
    | none => rw [e1] at h; cases h
    | some k =>
      rw [e1] at h
      cases e2 : keysOf ds with
      | none => rw [e2] at h; cases h
      | some ks' =>
        rw [e2] at h
        cases h
        rw [List.length_cons, List.length_cons, keysOf_len e2]
theorem keysOf_drop : ∀ (n : Nat) {ds : List D} {ks : List Key}, keysOf ds = some ks → keysOf (ds.drop n) = some (ks.drop n)
  | 0, ds, ks, h => h
  | n + 1, [], ks, h => by cases h; rfl
  | n + 1, d :: ds, ks, h => by
    unfold keysOf at h
    cases e1 : keyOf d with
    | none => rw [e1] at h; cases h
    | some k =>
      rw [e1] at h
      cases e2 : keysOf ds with
      | none => rw [e2] at h; cases h
      | some ks' =>
        rw [e2] at h
        cases h
        exact keysOf_drop n e2
theorem keysOf_take : ∀ (n : Nat) {ds : List D} {ks : List Key}, keysOf ds = some ks → keysOf (ds.take n) = some (ks.take n)
  | 0, ds, ks, h => by simp [keysOf]
  | n + 1, [], ks, h => by cases h; rfl
  | n + 1, d :: ds, ks, h => by
    unfold keysOf at h
    cases e1 : keyOf d with
    | none => rw [e1] at h; cases h
    | some k =>
      rw [e1] at h
      cases e2 : keysOf ds with
      | none => rw [e2] at h; cases h
      | some ks' =>
        rw [e2] at h
        cases h
        show keysOf (d :: ds.take n) = some (k :: ks'.take n)
        unfold keysOf
        rw [e1, keysOf_take n e2]
theorem keysOf_cut {ds : List D} {ks : List Key} {lo hi : Option Int} (h : keysOf ds = some ks) : keysOf (cutD ds lo hi) = some (cutD ks lo hi) := by
  unfold cutD
  rw [keysOf_len h]
  exact keysOf_take _ (keysOf_drop _ h)
end DL
/-! DLk: fields that hold objects of one's own, == of data, the last item, calls with keywords. -/
namespace DL
open PySem PySem.Spec PyProof.Rows L2

/-! ### the last item -/
theorem ixN_last (n : Nat) : ixN (n + 1) (-1) = some n := by
  unfold ixN
  rw [if_neg (by decide), if_pos (by omega)]
  congr 1
  omega
theorem atI_lastM {τ : Type} (l : List τ) (x : τ) (f : τ → D) : atI ((l ++ [x]).map f) (-1) = some (f x) := by
  rw [List.map_append]
  exact atI_last _ _
theorem ixN_lastM {τ : Type} (l : List τ) (x : τ) (f : τ → D) : ixN ((l ++ [x]).map f).length (-1) = some l.length := by
  rw [List.length_map, List.length_append]
  exact ixN_last _
theorem set_lastM {τ : Type} (l : List τ) (x y : τ) (f : τ → D) : ((l ++ [x]).map f).set l.length (f y) = (l ++ [y]).map f := by
  rw [List.map_append, List.map_append]
  have h := List.set_append_right (s := l.map f) (t := [x].map f) l.length (f y) (by rw [List.length_map]; exact Nat.le_refl _)
  rw [h, List.length_map, Nat.sub_self]
  rfl

/-! ### data as the library tells it -/
mutual
def D.pd : D → PyData
  | .non => .none | .bl b => .bool b | .int i => .int i | .str s => .str s
  | .lst xs => .list (pdL xs) | .tup xs => .tuple (pdL xs)
  | _ => .none
def pdL : List D → List PyData
  | [] => []
  | d :: ds => d.pd :: pdL ds
end
mutual
def D.dat : D → Bool
  | .non => true | .bl _ => true | .int _ => true | .str _ => true
  | .lst xs => datL xs | .tup xs => datL xs
  | _ => false
def datL : List D → Bool
  | [] => true
  | d :: ds => d.dat && datL ds
end
mutual
theorem dp_of {K : PySem.W.Frag} {H : Hp} : ∀ (d : D) (v : V), Rep K H d v → d.dat = true → Dp K H v d.pd
  | .non, _, r, _ => by cases r; exact .non
  | .bl b, _, r, _ => by cases r; exact .bl b
  | .int i, _, r, _ => by cases r; exact .int i
  | .str s, _, r, _ => by cases r; exact .str s
  | .lst xs, _, r, h => by
    cases r with
    | lst s r => exact .lst (.inl s) (dpL_of xs _ r (by simpa [D.dat] using h))
  | .tup xs, _, r, h => by
    cases r with
    | tup s r => exact .tup (.inl (.inl s)) (dpL_of xs _ r (by simpa [D.dat] using h))
  | .ty _, _, _, h => by simp [D.dat] at h
  | .ref _, _, _, h => by simp [D.dat] at h
  | .dK _, _, _, h => by simp [D.dat] at h
  | .dT _, _, _, h => by simp [D.dat] at h
  | .ins _ _, _, _, h => by simp [D.dat] at h
  | .ext _, _, _, h => by simp [D.dat] at h
  | .any, _, _, h => by simp [D.dat] at h
theorem dpL_of {K : PySem.W.Frag} {H : Hp} : ∀ (ds : List D) (vs : List V), RepL K H ds vs → datL ds = true → DpAll K H vs (pdL ds)
  | [], _, r, _ => by cases r; exact .nil
  | d :: ds, _, r, h => by
    cases r with
    | cons r1 r2 =>
      have h' : d.dat = true ∧ datL ds = true := by simpa [datL] using h
      exact .cons (dp_of d _ r1 h'.1) (dpL_of ds _ r2 h'.2)
end
theorem pdL_map {τ : Type} (f : τ → D) : ∀ l : List τ, pdL (l.map f) = l.map fun x => (f x).pd
  | [] => rfl
  | x :: l => by
    show (f x).pd :: pdL (l.map f) = _
    rw [pdL_map f l]
    rfl
theorem datL_map {τ : Type} {f : τ → D} : ∀ {l : List τ}, (∀ x ∈ l, (f x).dat = true) → datL (l.map f) = true
  | [], _ => rfl
  | x :: l, h => by
    show ((f x).dat && datL (l.map f)) = true
    rw [h x List.mem_cons_self, datL_map fun y hy => h y (List.mem_cons_of_mem _ hy)]
    rfl
theorem eqvAll_map {τ : Type} [DecidableEq τ] {f : τ → PyData} (h : ∀ x y, PyData.eqv (f x) (f y) = decide (x = y)) : ∀ l m : List τ, PyData.eqvAll (l.map f) (m.map f) = decide (l = m)
  | [], [] => by simp [PyData.eqvAll]
  | [], y :: m => by simp [PyData.eqvAll]
  | x :: l, [] => by simp [PyData.eqvAll]
  | x :: l, y :: m => by
    rw [List.map_cons, List.map_cons, PyData.eqvAll, h, eqvAll_map h l m]
    by_cases e : x = y
    · subst e
      simp
    · simp [e]
section
variable {X : Cx} {e a b c o : Expr} {ρ : En} {d y z w : D} {pos p' : Pos} {x : Str}
theorem cmp_eqD (hy : y.dat = true) (hz : z.dat = true) (sy : SeqAt.shaped y.pd = true) (sz : SeqAt.shaped z.pd = true) (hu : X.A.units + 64 < cLine) : Cmp X .Eq y z (PyData.eqv y.pd z.pd) := ⟨fun p q _ => wc_op (op_eqD hu) p q (nomark _) fun H u v ru rv _ qq => ⟨_, _, dp_of y u ru hy, dp_of z v rv hz, sy, sz, qq⟩⟩
theorem cmp_neD (hy : y.dat = true) (hz : z.dat = true) (sy : SeqAt.shaped y.pd = true) (sz : SeqAt.shaped z.pd = true) (hu : X.A.units + 64 < cLine) : Cmp X .NotEq y z (!PyData.eqv y.pd z.pd) := ⟨fun p q _ => wc_op (op_neD hu) p q (nomark _) fun H u v ru rv _ qq => ⟨_, _, dp_of y u ru hy, dp_of z v rv hz, sy, sz, qq⟩⟩
/-- a list and the empty one -/
theorem cmp_neNil {ds : List D} (hy : datL ds = true) (sy : SeqAt.shaped (D.lst ds).pd = true) (hu : X.A.units + 64 < cLine) : Cmp X .NotEq (.lst ds) (.lst []) (!ds.isEmpty) := by
  have h := cmp_neD (X := X) (y := .lst ds) (z := .lst []) (by simpa [D.dat] using hy) rfl sy (by decide) hu
  have e : (!PyData.eqv (D.lst ds).pd (D.lst []).pd) = !ds.isEmpty := by
    cases ds with
    | nil => rfl
    | cons d ds => rfl
  rw [← e]
  exact h
theorem cmp_eqNil {ds : List D} (hy : datL ds = true) (sy : SeqAt.shaped (D.lst ds).pd = true) (hu : X.A.units + 64 < cLine) : Cmp X .Eq (.lst ds) (.lst []) ds.isEmpty := by
  have h := cmp_eqD (X := X) (y := .lst ds) (z := .lst []) (by simpa [D.dat] using hy) rfl sy (by decide) hu
  have e : PyData.eqv (D.lst ds).pd (D.lst []).pd = ds.isEmpty := by
    cases ds with
    | nil => rfl
    | cons d ds => rfl
  rw [← e]
  exact h

theorem cmp_neC {τ : Type} {l : List τ} {q : τ} {g : τ → D} (hy : datL ((l ++ [q]).map g) = true) (sy : SeqAt.shaped (D.lst ((l ++ [q]).map g)).pd = true) (hu : X.A.units + 64 < cLine) : Cmp X .NotEq (.lst ((l ++ [q]).map g)) (.lst []) true := by
  have h := cmp_neNil hy sy hu
  have e : (!((l ++ [q]).map g).isEmpty) = true := by simp
  rwa [e] at h
theorem cmp_eqC {τ : Type} {l : List τ} {q : τ} {g : τ → D} (hy : datL ((l ++ [q]).map g) = true) (sy : SeqAt.shaped (D.lst ((l ++ [q]).map g)).pd = true) (hu : X.A.units + 64 < cLine) : Cmp X .Eq (.lst ((l ++ [q]).map g)) (.lst []) false := by
  have h := cmp_eqNil hy sy hu
  have e : ((l ++ [q]).map g).isEmpty = false := by simp
  rwa [e] at h
theorem tru_c {τ : Type} {l : List τ} {q : τ} {g : τ → D} : Tru X (.lst ((l ++ [q]).map g)) true := by
  have h := tru_lst (X := X) (ds := (l ++ [q]).map g)
  have e : (!((l ++ [q]).map g).isEmpty) = true := by simp
  rwa [e] at h
/-! ### fields that hold one's own objects -/
theorem ws_setFldN {C p : Addr} {nb : Bool} {fs : List (Str × D)} {f : Str} {P : Post} (k : Nat) (ho : WE X o ρ (.ref p)) (hk : ρ.o[k]? = some ⟨p, nb, .ins C fs⟩) (he : WN X e ρ d) (h : ∀ q : Addr, P.nx ⟨(ρ.o ++ [Ob.mk q true d]).set k (Ob.mk p nb (D.ins C (putFD f (.ref q) fs))), ρ.s⟩) (cl : Cls X.K C) (n : NoAttr X.K C f) (hl : fs.length < 1000)
    (hs : swapsWith e (some (.Attribute o f p')) pos.line X.env = pure false := by rfl) : WS X (.Assign [.Attribute o f p'] e pos) ρ P := fun M H0 F0 B H F σ c b Dn kk =>
  ps_to (ps_fld pe_s pe_s hs) (he H F σ c _ fun q H1 F1 l1 hn hf o1 => by
    have c1 := c.mono l1
    have ne : ∀ z ∈ ρ.o, z.p ≠ q := fun z hz e => by
      obtain ⟨u, hu⟩ := (c.own z hz).2.there
      rw [e, hn] at hu
      cases hu
    have c2 := c1.addO (b := true) hf o1 ne
    have b2 := (b.mono l1).addO (d := d) (b.free hn)
    refine ho H1 F1 σ c1 _ fun u H2 F2 l2 r2 => ?_
    cases r2
    have c3 := c2.mono l2
    have b3 := b2.mono l2
    have hk2 : (ρ.o ++ [Ob.mk q true d])[k]? = some (Ob.mk p nb (D.ins C fs)) := by
      rw [List.getElem?_append_left (List.getElem?_eq_some_iff.mp hk).1]
      exact hk
    obtain ⟨h1, h2⟩ : F2 p = none ∧ OwnOk X.K H2 F2 (D.ins C fs) p := c3.ownAt (ρ := ⟨ρ.o ++ [Ob.mk q true d], ρ.s⟩) hk2
    cases h2 with
    | ins s r =>
      refine ⟨p, C, _, _, rfl, s, cl, n, by rw [← r.len]; exact hl, ?_⟩
      exact kk.nx _ _ F2 σ (h q) (c3.change (ρ := ⟨ρ.o ++ [Ob.mk q true d], ρ.s⟩) hk2 (.ins upd_same (r.put f (.ref q)))) (b3.change (ρ := ⟨ρ.o ++ [Ob.mk q true d], ρ.s⟩) c3 hk2))
/-- less is told of fields -/
inductive FW : List (Str × D) → List (Str × D) → Prop
  | nil : FW [] []
  | keep {q : Str × D} {r s : List (Str × D)} : FW r s → FW (q :: r) (q :: s)
  | any {f : Str} {d : D} {r s : List (Str × D)} : FW r s → FW ((f, d) :: r) ((f, .any) :: s)
theorem FW.refl : ∀ r, FW r r
  | [] => .nil
  | _ :: r => .keep (FW.refl r)
theorem RepF.fw {K : PySem.W.Frag} {H : Hp} : ∀ {fs gs : List (Str × D)} {xs : List (Str × V)}, FW fs gs → RepF K H fs xs → RepF K H gs xs
  | _, _, _, .nil, r => r
  | _, _, _, .keep w, .cons r t => .cons r (RepF.fw w t)
  | _, _, _, .any w, .cons r t => .cons (.any _) (RepF.fw w t)
theorem cf_fw {K : PySem.W.Frag} {M : List Addr} {H0 F0 B H F : Hp} {σ : L2.St} {ρ : En} {C p : Addr} {nb : Bool} {fs gs : List (Str × D)} (k : Nat) (hk : ρ.o[k]? = some ⟨p, nb, .ins C fs⟩) (w : FW fs gs) (c : Cf K H F ρ σ) (b : Bs M H0 F0 B H F ρ.o) :
    Cf K H F ⟨ρ.o.set k ⟨p, nb, .ins C gs⟩, ρ.s⟩ σ ∧ Bs M H0 F0 B H F (ρ.o.set k ⟨p, nb, .ins C gs⟩) := by
  have mem : ∀ q ∈ ρ.o.set k ⟨p, nb, .ins C gs⟩, q = ⟨p, nb, .ins C gs⟩ ∨ q ∈ ρ.o := fun q hq => by
    rcases set_mem hq with z | ⟨j, _, z⟩
    · exact .inl z
    · exact .inr (List.mem_of_getElem? z)
  have ht := List.mem_of_getElem? hk
  refine ⟨⟨c.ex, c.len, c.sl, fun q hq => ?_, ?_⟩, ⟨b.h, b.f, b.fb, b.ex, b.pr, b.th, fun q hq => ?_⟩⟩
  · rcases mem q hq with z | z
    · subst z
      obtain ⟨h1, h2⟩ := c.own _ ht
      refine ⟨h1, ?_⟩
      cases h2 with
      | ins s r => exact .ins s (r.fw w)
    · exact c.own q z
  · have e1 : ((ρ.o.set k ⟨p, nb, .ins C gs⟩).map Ob.p) = ρ.o.map Ob.p := by
      rw [List.map_set]
      have z : (ρ.o.map Ob.p)[k]? = some p := by rw [List.getElem?_map, hk]; rfl
      obtain ⟨hl, z2⟩ := List.getElem?_eq_some_iff.mp z
      show (ρ.o.map Ob.p).set k p = _
      exact List.ext_getElem? fun i => by
        by_cases hi : k = i
        · subst hi
          rw [List.getElem?_set_self hl, z]
        · rw [List.getElem?_set_ne hi]
    have hp := c.nd
    show (ρ.o.set k ⟨p, nb, .ins C gs⟩).Pairwise _
    rw [← List.pairwise_map (f := Ob.p) (R := fun a b => a ≠ b)] at hp ⊢
    rw [e1]
    exact hp
  · rcases mem q hq with z | z
    · subst z
      have y := b.nw _ ht
      exact y
    · exact b.nw q z
theorem wss_fw {C p : Addr} {nb : Bool} {fs gs : List (Str × D)} {P : Post} {sts : List Stmt} (k : Nat) (hk : ρ.o[k]? = some ⟨p, nb, .ins C fs⟩) (w : FW fs gs) (h : WSs X sts ⟨ρ.o.set k ⟨p, nb, .ins C gs⟩, ρ.s⟩ P) : WSs X sts ρ P := fun M H0 F0 B H F σ c b Dn e =>
  let ⟨c2, b2⟩ := cf_fw k hk w c b
  h M H0 F0 B H F σ c2 b2 Dn e
/-- __init__, by the fields as they are at the end -/
theorem wss_init {C y : Addr} {gs : List (Str × D)} {sts : List Stmt} (h : WSs X sts ρ ⟨fun r => ∃ (j : Nat) (fs : List (Str × D)), r.o[j]? = some (Ob.mk y true (.ins C fs)) ∧ FW fs gs, fun _ _ => False, fun _ => False, fun _ => False⟩) :
    WSs X sts ρ ⟨fun r => ∃ j : Nat, r.o[j]? = some (Ob.mk y true (.ins C gs)), fun _ _ => False, fun _ => False, fun _ => False⟩ := fun M H0 F0 B H F σ c b Dn e =>
  h M H0 F0 B H F σ c b Dn ⟨fun r H F σ n c b => by
    obtain ⟨j, fs, h1, h2⟩ := n
    obtain ⟨c2, b2⟩ := cf_fw j h1 h2 c b
    refine e.nx ⟨r.o.set j (Ob.mk y true (.ins C gs)), r.s⟩ H F σ ⟨j, ?_⟩ c2 b2
    exact List.getElem?_set_self (List.getElem?_eq_some_iff.mp h1).1, e.rt, e.bk, e.ct⟩
/-! ### f-strings -/
def WJ (X : Cx) (es : List Expr) (ρ : En) (out : List Str) : Prop := ∃ ts : List TE, PJ X es ts ∧ ∀ (H F : Hp) (σ : L2.St), Cf X.K H F ρ σ → ∀ (acc : Str) (Q : Str → Hp → Prop), acc.length + (out.map (·.length)).sum ≤ sizeLine → (∀ H' F', Le H F H' F' → Q (out.foldl (· ++ ·) acc) H') → tJs ts acc σ H Q
theorem str_app_len (a b : Str) : (a ++ b).length = a.length + b.length := by
  show (a.cps ++ b.cps).size = _
  rw [Array.size_append]
  rfl
theorem wj_nil : WJ X [] ρ [] := ⟨[], .nil, fun H F σ c acc Q _ q => q H F (Le.refl c.ex)⟩
theorem wj_cons {es : List Expr} {s : Str} {out : List Str} (h : WE X e ρ (.str s)) (t : WJ X es ρ out) : WJ X (e :: es) ρ (s :: out) := by
  obtain ⟨ts, p, k⟩ := t
  refine ⟨_ :: ts, .cons pe_s p, fun H F σ c acc Q hl q => h H F σ c _ fun v H1 F1 l1 r1 => ?_⟩
  cases r1
  rw [List.map_cons, List.sum_cons] at hl
  refine ⟨s, rfl, by rw [str_app_len]; omega, k H1 F1 σ (c.mono l1) _ _ (by rw [str_app_len]; omega) fun H2 F2 l2 => q H2 F2 (l1.trans l2)⟩
theorem we_fmtS {s : Str} (h : WE X e ρ (.str s)) (hl : s.length ≤ sizeLine) : WE X (.FormattedValue e (-1) none pos) ρ (.str s) := fun H F σ c Q q => pe_to (pe_fmt pe_s) (h H F σ c _ fun v H1 F1 l1 r1 => by
  cases r1
  exact .inl ⟨s, rfl, hl, q _ H1 F1 l1 (.str _)⟩)
theorem we_fmtI {i : Int} (h : WE X e ρ (.int i)) (hl : i.natAbs.log2 < 1920) : WE X (.FormattedValue e (-1) none pos) ρ (.str (toString i)) := fun H F σ c Q q => pe_to (pe_fmt pe_s) (h H F σ c _ fun v H1 F1 l1 r1 => by
  cases r1
  exact .inr ⟨i, rfl, hl, q _ H1 F1 l1 (.str _)⟩)
theorem we_joined {v1 v2 : Expr} {rest : List Expr} {out : List Str} (h : WJ X (v1 :: v2 :: rest) ρ out) (hl : (out.map (·.length)).sum ≤ sizeLine) : WE X (.JoinedStr (v1 :: v2 :: rest) pos) ρ (.str (out.foldl (· ++ ·) Str.empty)) := fun H F σ c Q q => by
  obtain ⟨ts, p, k⟩ := h
  refine pe_to (pe_joined p) (k H F σ c Str.empty _ (by
    have : Str.empty.length = 0 := rfl
    omega) fun H' F' l => q _ H' F' l (.str _))
theorem we_joined1 {s : Str} (h : WE X e ρ (.str s)) : WE X (.JoinedStr [e] pos) ρ (.str s) := fun H F σ c Q q => pe_to (pe_joined1 pe_s) (h H F σ c Q q)
end
end DL
/-! DLl: a dict whose keys are whole numbers, texts and None; its values whole numbers; what it holds is not told. -/
namespace DL
open PySem PySem.Spec PyProof.Rows L2
def IntV (u : Value) : Prop := ∃ i t, u = .int i t
/-- at a: a dict of at most n such entries -/
def LfP (P : Program) (w : World) (a : Addr) (n : Nat) (h : Heap) : Prop := (a == sysModules) = false ∧ ∃ vs : List (Leaf × Value), vs.length ≤ n ∧ h.DictOf (leafKind P w) a vs ∧ ∀ q ∈ vs, IntV q.2
abbrev lfD (P : Program) (w : World) (a : Addr) (n : Nat) : D := .ext (LfP P w a n)
theorem lf_stay {P : Program} {w : World} {a : Addr} {n : Nat} (h1 h2 : Heap) (p : LfP P w a n h1) (k : ∀ o, h1.get? a = some o → h2.get? a = some o) : LfP P w a n h2 := by
  obtain ⟨hd, vs, hl, ⟨o, es, ep, ho, r⟩, hv⟩ := p
  exact ⟨hd, vs, hl, ⟨o, es, ep, k _ ho, r⟩, hv⟩
theorem lf_ok {P : Program} {w : World} {H : Hp} {h : Heap} {a : Addr} {n : Nat} (p : LfP P w a n h) : ObjOk P w H h a (.ext (LfP P w a n)) := by
  obtain ⟨hd, vs, hl, ⟨o, es, ep, ho, r⟩, hv⟩ := id p
  exact ⟨p, ⟨o, ho⟩, lf_stay⟩
def leafOf : D → Option Leaf
  | .non => some .none
  | .int i => some (.num i)
  | .str s => some (.text s)
  | _ => none
theorem leaf_is {K : PySem.W.Frag} {H : Hp} {d : D} {v : V} {u : Value} {k : Leaf} (r : Rep K H d v) (ru : RelV v u) (h : leafOf d = some k) : Leaf.isOf k u = true := by
  cases r with
  | non => cases h; cases ru; rfl
  | int i => cases h; obtain ⟨t, rfl⟩ := ru; exact decide_eq_true rfl
  | str s => cases h; obtain ⟨t, rfl⟩ := ru; show Value.isStrOf s (.str s t) = true; simp [Value.isStrOf, Value.isStr]
  | _ => cases h
section
variable {X : Cx} {e a b c o : Expr} {ρ : En} {d y z w : D} {pos p' : Pos} {x : Str}
theorem pe_lfnew : PE X (.Dict [] [] pos) (fun σ H Q => ∀ p, H p = none → Q (.ref p) (upd H p (.ext (LfP X.prog X.w p 0)))) := ⟨fun pins s σ H Q I h =>
  wpAny_Dict_empty ⟨.ref s.heap.objs.size, _, I.laid (a := s.heap.objs.size) (o := .ext (LfP X.prog X.w s.heap.objs.size 0)) (t' := s.toks) (fun _ _ q => Heap.get?_push_of_some _ q) (Nat.le_refl _)
    (lf_ok ⟨beq_eq_false_iff_ne.mpr (Ne.symm (Nat.ne_of_lt I.big)), [], Nat.le_refl _, Heap.DictOf.new s.heap, fun _ h => by cases h⟩), rfl, h _ (I.hok.fresh (Nat.le_refl _))⟩⟩
/-- name = {} -/
theorem ws_asgLf {spos : Pos} {P : Post} (i : Nat) (h : ∀ p, P.nx ⟨ρ.o ++ [⟨p, true, lfD X.prog X.w p 0⟩], ρ.s.set i (some (.ref p))⟩) (hN : X.N.Nodup) (hi : X.N[i]? = some x) (hx : Loc X.env.scope x) (hs : swapsWith (.Dict [] [] pos) (some (.Name x p')) pos.line X.env = pure false := by rfl)
    (hf : X.fn x = true ∨ X.env.scope.names.lookup x = some .local := by first | exact .inl rfl | exact .inr rfl) (hs2 : swapsWith (.Dict [] [] pos) (some (.Name x p')) spos.line X.env = pure false := by rfl) : WS X (.Assign [.Name x p'] (.Dict [] [] pos) spos) ρ P := fun M H0 F0 B H F σ c b Dn k =>
  ps_to (ps_set hN hi hx pe_lfnew hs2 hf) (fun p hn => by
    have hf := c.ex.free hn
    have l := Le.newO (o := .ext (LfP X.prog X.w p 0)) c.ex hn
    have ne : ∀ q ∈ ρ.o, q.p ≠ p := fun q hq z => by
      obtain ⟨u, hu⟩ := (c.own q hq).2.there
      rw [z, hn] at hu
      cases hu
    exact k.nx _ _ F _ (h p) (((c.mono l).addO hf (.ext upd_same) ne).setF i (.ref p)) ((b.mono l).addO (b.free hn)))
theorem stored_len {κ : Type} [DecidableEq κ] (vs : List (κ × Value)) (k : κ) (v : Value) : (stored vs k v).length ≤ vs.length + 1 := by
  unfold stored
  split
  · rw [List.length_map]; omega
  · rw [List.length_append]; simp
theorem stored_mem {κ : Type} [DecidableEq κ] {vs : List (κ × Value)} {k : κ} {v : Value} {q : κ × Value} (h : q ∈ stored vs k v) : q ∈ vs ∨ q.2 = v := by
  unfold stored at h
  split at h
  · obtain ⟨r, hr, rfl⟩ := List.mem_map.mp h
    by_cases e : r.1 = k
    · rw [if_pos e]; exact .inr rfl
    · rw [if_neg e]; exact .inl hr
  · rcases List.mem_append.mp h with h | h
    · exact .inl h
    · have z : q = (k, v) := by simpa using h
      rw [z]; exact .inr rfl
/-- c[k] = i -/
theorem ws_putLf {P : Post} {p : Addr} {nb : Bool} {n : Nat} {i : Int} {k : Leaf} (j : Nat) (ho : WE X o ρ (.ref p)) (hk : ρ.o[j]? = some ⟨p, nb, lfD X.prog X.w p n⟩) (ha : WB X a ρ y) (hy : leafOf y = some k) (he : WE X e ρ (.int i)) (hl : n < sizeLine) (h : P.nx ⟨ρ.o.set j ⟨p, nb, lfD X.prog X.w p (n + 1)⟩, ρ.s⟩)
    (hs : swapsWith e (some (.Subscript o a p')) pos.line X.env = pure false := by rfl) : WS X (.Assign [.Subscript o a p'] e pos) ρ P := fun M H0 F0 B H F σ c b Dn kk => by
  have main : PS X (.Assign [.Subscript o a p'] e pos) (fun D σ H => sE X e σ H fun v H1 => sE X o σ H1 fun x H2 => sE X a σ H2 fun u H3 => x = .ref p ∧ v = .int i ∧ H3 p = some (.ext (LfP X.prog X.w p n)) ∧ (∀ uv, RelV u uv → Leaf.isOf k uv = true) ∧ D.nx σ (upd H3 p (.ext (LfP X.prog X.w p (n + 1))))) := by
    refine ⟨fun pins s σ H D I hh => ?_⟩
    refine wpAny_Assign_Subscript (thn (pe_s.run pins s σ H _ I hh) fun r s1 ⟨v, H1, I1, rv, q1⟩ => thn (pe_s.run pins s1 σ H1 _ I1 q1) fun u s2 ⟨x, H2, I2, rx, q2⟩ => thn (pe_s.run pins s2 σ H2 _ I2 q2) fun iv s3 ⟨y, H3, I3, ry, ex, ev, e3, is3, q3⟩ => ?_) hs
    subst ex ev
    obtain rfl : u = Value.ref p := rx
    obtain ⟨t, rfl⟩ := rv
    obtain ⟨⟨hd, vs, hl2, dd, hv⟩, _, _⟩ := I3.hok p _ e3
    refine wpAny_setItem_pairs (knd := leafKind X.prog X.w) (k := k) (is3 _ ry) dd (fun h' dd' hsb => ?_) (by omega)
    have he : ∃ q, h'.get? p = some q := let ⟨q, _, _, hq, _⟩ := dd'; ⟨q, hq⟩
    refine ⟨σ, _, d_write I3 (by rw [e3]; exact True.intro) hsb he (lf_ok ⟨hd, _, Nat.le_trans (stored_len vs k _) (Nat.succ_le_succ hl2), dd', fun q hq => ?_⟩), q3⟩
    rcases stored_mem hq with z | z
    · exact hv q z
    · exact ⟨i, t, z⟩
  refine ps_to main (he H F σ c _ fun v H1 F1 l1 r1 => ho H1 F1 σ (c.mono l1) _ fun u H2 F2 l2 r2 => ha H2 F2 σ ((c.mono l1).mono l2) _ fun w H3 F3 l3 r3 => ?_)
  cases r1
  cases r2
  have l := (l1.trans l2).trans l3
  have c3 := c.mono l
  obtain ⟨hf1, ho1⟩ := c3.ownAt hk
  cases ho1 with
  | ext hp =>
    refine ⟨rfl, rfl, hp, fun uv ru => leaf_is r3 ru hy, ?_⟩
    exact kk.nx _ _ F3 σ h (c3.change hk (.ext upd_same)) ((b.mono l).change c3 hk)
/-- c.get(k) -/
theorem we_getLf {p : Addr} {nb : Bool} {n : Nat} {k : Leaf} {p1 : Pos} (j : Nat) (ho : WE X o ρ (.ref p)) (hk : ρ.o[j]? = some ⟨p, nb, lfD X.prog X.w p n⟩) (ha : WB X a ρ y) (hy : leafOf y = some k) (m : M1 X o "get" p1 a pos := by exact ⟨rfl, rfl, rfl, rfl⟩) :
    WE X (.Call (.Attribute o "get" p1) [a] [] pos) ρ .any := by
  have main : PE X (.Call (.Attribute o "get" p1) [a] [] pos) (fun σ H Q => sE X o σ H fun x H1 => x = .ref p ∧ H1 p = some (.ext (LfP X.prog X.w p n)) ∧ sE X a σ H1 fun u H2 => H2 p = some (.ext (LfP X.prog X.w p n)) ∧ (∀ uv, RelV u uv → Leaf.isOf k uv = true) ∧ ∀ v, Q v H2) := by
    refine ⟨fun pins s σ H Q I hh => ?_⟩
    refine wpAny_Call_method m.base m.few m.line PySem.F.plainAttrs_dict PySem.F.slot_dict_get PySem.F.type_dict_get (thn (pe_s.run pins s σ H _ I hh) fun u s1 ⟨x, H1, I1, rx, ex, e1, q1⟩ => ?_)
    subst ex
    obtain rfl : u = Value.ref p := rx
    obtain ⟨⟨hd, vs, hl2, dd, hv⟩, _, _⟩ := I1.hok p _ e1
    refine ⟨dd.typeIs, dd.mapOf.noDict, ?_⟩
    rw [m.trees]
    refine Calls.callWith_builtin rfl (Calls.evalArgs_plain (Calls.spliced_cons (thn (pe_s.run pins s1 σ H1 _ I1 q1) fun iv s2 ⟨y, H2, I2, ry, e2, is2, q2⟩ => Calls.spliced_nil ?_)))
    obtain ⟨⟨hd, vs, hl2, dd, hv⟩, _, _⟩ := I2.hok p _ e2
    refine call_meetsIn PySem.F.slot_dict_get dd.typeIs PySem.F.entry_dict_get (PySem.F.args_dict_get_2 _ _) (meets_dict_get (leafKind X.prog X.w) p (k := k) (is2 _ ry) hd) ⟨_, dd.mapOf, ?_⟩
    cases e : valueAt vs k with
    | none => exact ⟨.non, H2, I2.tok _, rfl, q2 _⟩
    | some w =>
      have hm : ∃ q ∈ vs, q.2 = w := by
        unfold valueAt at e
        cases e3 : vs.find? fun kv => decide (kv.1 = k) with
        | none => rw [e3] at e; cases e
        | some q =>
          rw [e3] at e
          cases e
          exact ⟨q, List.mem_of_find?_eq_some e3, rfl⟩
      obtain ⟨q, hq, rfl⟩ := hm
      obtain ⟨i, t, z⟩ := hv q hq
      refine ⟨.int i, H2, I2.tok _, ⟨t, ?_⟩, q2 _⟩
      exact z
  exact fun H F σ c Q q => pe_to main (ho H F σ c _ fun u H1 F1 l1 r1 => by
    cases r1
    obtain ⟨_, ho1⟩ := (c.mono l1).ownAt hk
    cases ho1 with
    | ext hp =>
      refine ⟨rfl, hp, ha H1 F1 σ (c.mono l1) _ fun v H2 F2 l2 r2 => ⟨l2.h _ _ hp, fun uv ru => leaf_is r2 ru hy, fun w => q w H2 F2 (l1.trans l2) (.any w)⟩⟩)
end
end DL
/-! DLm: what the module's names stand for; forms for the engine. -/
namespace DL
open PySem PySem.Spec PyProof.Rows L2
/-- what the module's names stand for -/
structure GF (mg : Str → Option Value) (fr : List Str) (nums : List (Str × Int)) (txts : List (Str × Str)) : Prop where
  free : ∀ x, fr.contains x = true → mg x = none
  int : ∀ x i, nums.lookup x = some i → ∃ t, mg x = some (.int i t)
  str : ∀ x s, txts.lookup x = some s → ∃ t, mg x = some (.str s t)
/-- what the fragment's deciders say of an own class and its fields -/
structure ClsF (K : PySem.W.Frag) (C : Addr) (flds : List Str) : Prop where
  cl : Cls K C
  na : ∀ f, flds.contains f = true → NoAttr K C f
  ty : ClsTy K C
  one : PySem.W.kitOne K (.ref C) (.ref C) = some true
theorem all_int (l : List Int) : (l.map D.int).all D.sc = true := by rw [List.all_map, List.all_eq_true]; intro _ _; rfl
theorem all_str (l : List Str) : (l.map D.str).all D.sc = true := by rw [List.all_map, List.all_eq_true]; intro _ _; rfl
theorem room_u {k : Nat} {A : Around} (r : Room k A) : A.units + 1 < cLine := by have := r.units; omega
section
variable {X : Cx} {e a b c : Expr} {ρ : En} {d y z w : D} {pos p' : Pos} {x : Str} {i j k : Int}
theorem we_gi (h : ∃ t, X.mg x = some (.int i t)) (hg : Gl X x := by rfl) (hd : (x == ("__debug__" : Str)) = false := by decide) : WE X (.Name x pos) ρ (.int i) := let ⟨_, q⟩ := h; we_glI q hg hd
theorem we_gs {s : Str} (h : ∃ t, X.mg x = some (.str s t)) (hg : Gl X x := by rfl) (hd : (x == ("__debug__" : Str)) = false := by decide) : WE X (.Name x pos) ρ (.str s) := let ⟨_, q⟩ := h; we_glS q hg hd
theorem we_isNone {k : Nat} (ha : WB X a ρ y) (hy : y ≠ .any) : WE X (.Compare a [.Is] [.Constant .none k p'] pos) ρ (.bl y.isNon) := (wc_isN ha hy).1
theorem wt_isNone {k : Nat} (ha : WB X a ρ y) (hy : y ≠ .any) : WT X (.Compare a [.Is] [.Constant .none k p'] pos) ρ y.isNon := (wc_isN ha hy).2
theorem we_notNone {k : Nat} (ha : WB X a ρ y) (hy : y ≠ .any) : WE X (.Compare a [.IsNot] [.Constant .none k p'] pos) ρ (.bl (!y.isNon)) := (wc_notN ha hy).1
theorem wt_notNone {k : Nat} (ha : WB X a ρ y) (hy : y ≠ .any) : WT X (.Compare a [.IsNot] [.Constant .none k p'] pos) ρ (!y.isNon) := (wc_notN ha hy).2
theorem we_leLe (ha : WB X a ρ (.int i)) (hb : WB X b ρ (.int j)) (hc : WB X c ρ (.int k)) (hm : lastMarks [.LtE, .LtE] [b, c] = false) : WE X (.Compare a [.LtE, .LtE] [b, c] pos) ρ (.bl (decide (i ≤ j) && decide (j ≤ k))) := (wc_leLe ha hb hc hm).1
theorem wt_leLe (ha : WB X a ρ (.int i)) (hb : WB X b ρ (.int j)) (hc : WB X c ρ (.int k)) (hm : lastMarks [.LtE, .LtE] [b, c] = false) : WT X (.Compare a [.LtE, .LtE] [b, c] pos) ρ (decide (i ≤ j) && decide (j ≤ k)) := (wc_leLe ha hb hc hm).2
end
/-! forms whose arguments are found from the left -/
theorem wss_nil2 {X : Cx} {ρ ρ' : En} {P : Post} (h : P.nx ρ') (w : Wk ρ ρ') : WSs X [] ρ P := wss_nil w h
theorem ws_cont2 {X : Cx} {ρ ρ' : En} {P : Post} {pos : Pos} (h : P.ct ρ') (w : Wk ρ ρ') : WS X (.Continue pos) ρ P := ws_cont w h
theorem small {n : Nat} (h : n ≤ 100000) : n < sizeLine := by rw [sizeLine_eq]; omega
theorem smallE {n : Nat} (h : n ≤ 100000) : n ≤ sizeLine := by rw [sizeLine_eq]; omega
theorem wb_ofC {X : Cx} {e : Expr} {ρ : En} {d d' : D} (h : WE X e ρ d') (q : d' = d) : WB X e ρ d := q ▸ wb_of h
theorem atI_lastA (l : List D) (d : D) : atI (l ++ [d]) (-1) = some d := by
  unfold atI
  rw [List.length_append, List.length_singleton, ixN_last]
  simp
def lastOr (l : List Int) : Int := l.getLast?.getD 0
theorem lastOr_mem {st : List Int} (h : st ≠ []) : lastOr st ∈ st := by
  unfold lastOr
  rw [List.getLast?_eq_getLast h]
  exact List.getLast_mem h
/-- the last item of a list of numbers -/
theorem atI_lastI {l : List Int} (h : l ≠ []) : atI (l.map D.int) (-1) = some (.int (lastOr l)) := by
  rcases List.eq_nil_or_concat l with e | ⟨init, x, e⟩
  · exact absurd e h
  · rw [List.concat_eq_append] at e
    subst e
    rw [atI_lastM]
    simp [lastOr]
theorem we_andFC {X : Cx} {a b : Expr} {ρ : En} {pos : Pos} {p : Bool} {rest : List Expr} (ha : WE X a ρ (.bl p)) (hp : p = false) : WE X (.BoolOp .And (a :: b :: rest) pos) ρ (.bl false) := by subst hp; exact we_andF ha
theorem we_orTC {X : Cx} {a b : Expr} {ρ : En} {pos : Pos} {p : Bool} {rest : List Expr} (ha : WE X a ρ (.bl p)) (hp : p = true) : WE X (.BoolOp .Or (a :: b :: rest) pos) ρ (.bl true) := by subst hp; exact we_orT ha
theorem ww_andFC {X : Cx} {a b : Expr} {ρ : En} {pos : Pos} {p : Bool} {rest : List Expr} (ha : WT X a ρ p) (hp : p = false) : WW X (.BoolOp .And (a :: b :: rest) pos) ρ false := by subst hp; exact ww_andF ha
theorem ww_orTC {X : Cx} {a b : Expr} {ρ : En} {pos : Pos} {p : Bool} {rest : List Expr} (ha : WT X a ρ p) (hp : p = true) : WW X (.BoolOp .Or (a :: b :: rest) pos) ρ true := by subst hp; exact ww_orT ha
theorem atI_some {l : List Int} {i : Int} (h0 : -(l.length : Int) ≤ i) (h1 : i < (l.length : Int)) : atI (l.map D.int) i = some (.int ((atI l i).getD 0)) := by
  unfold atI ixN
  rw [List.length_map]
  by_cases h : 0 ≤ i
  · rw [if_pos h, if_pos h1]
    simp only [Option.bind_some, List.getElem?_map]
    rw [List.getElem?_eq_getElem (by omega)]
    rfl
  · rw [if_neg h, if_pos h0]
    simp only [Option.bind_some, List.getElem?_map]
    rw [List.getElem?_eq_getElem (by omega)]
    rfl
/-- range(len(l)), by the items that are meant -/
def enumI {τ : Type} (q : Int × τ) : D := .int q.1
theorem enumI_rg {τ : Type} (l : List τ) : (enumL 0 l).map enumI = (rgL 0 (l.length : Int)).map D.int := by
  refine List.ext_getElem? fun i => ?_
  rw [List.getElem?_map, List.getElem?_map, enumL_get]
  unfold rgL
  rw [List.getElem?_map]
  by_cases h : i < l.length
  · rw [List.getElem?_eq_getElem h, List.getElem?_range (by omega)]
    rfl
  · rw [List.getElem?_eq_none (by omega), List.getElem?_eq_none (by rw [List.length_range]; omega)]
    rfl
theorem wi_rgE {τ : Type} {X : Cx} {tg a : Expr} {ρ : En} {p pos : Pos} {j : Int} {l : List τ} (ha : WB X a ρ (.int j)) (hj : j = (l.length : Int)) (h2 : j < 2 ^ 62) (hm : X.mg "range" = none) (hg : Gl X "range" := by rfl) (hs : starEach [a] X.env = [(false, eval a X.env)] := by rfl) :
    WI X tg (.Call (.Name "range" p) [a] [] pos) ρ ((enumL 0 l).map enumI) := by
  rw [enumI_rg, ← hj]
  exact wi_rg1 ha (by omega) h2 hm hg hs
/-- an item by its number -/
theorem atI_mid {τ : Type} {l pre post : List τ} {x : τ} {k : Int} (f : τ → D) (h : l = pre ++ x :: post) (hk : k = (pre.length : Int)) : atI (l.map f) k = some (f x) := by
  subst h hk
  unfold atI ixN
  rw [if_pos (by omega), if_pos (by simp; omega)]
  simp
theorem atI_midD {α : Type} {A B : List α} {x : α} {k : Int} (hk : k = (A.length : Int)) : atI (A ++ x :: B) k = some x := by
  subst hk
  unfold atI ixN
  rw [if_pos (by omega), if_pos (by simp; omega)]
  simp
theorem wi_castL {X : Cx} {tg e : Expr} {ρ : En} {xs ys : List D} (h : WI X tg e ρ xs) (q : xs = ys) : WI X tg e ρ ys := q ▸ h
theorem cutD_map {α β : Type} (f : α → β) (l : List α) (lo hi : Option Int) : cutD (l.map f) lo hi = (cutD l lo hi).map f := by
  unfold cutD
  rw [List.length_map, List.map_take, List.map_drop]
theorem app_map {α β : Type} (f : α → β) (l m : List α) : l.map f ++ m.map f = (l ++ m).map f := by rw [List.map_append]
/-- an if whose branches meet -/
theorem ws_ifJ {X : Cx} {c : Expr} {ρ : En} {P : Post} {pos : Pos} {p : Bool} {a b : List Stmt} (ρ' : En) (hc : WT X c ρ p) (ha : p = true → WSs X a ρ (P.to fun r => r = ρ')) (hb : p = false → WSs X b ρ (P.to fun r => r = ρ')) (h : P.nx ρ') : WS X (.If c a b pos) ρ P :=
  ws_if hc (fun e => wss_mono (ha e) (fun r z => z ▸ h) (fun _ _ z => z) (fun _ z => z) (fun _ z => z)) (fun e => wss_mono (hb e) (fun r z => z ▸ h) (fun _ _ z => z) (fun _ z => z) (fun _ z => z))
end DL
/-! DLn: ==, !=, in, len, str of instances by the text's own methods. -/
namespace GQ
open PySem PySem.SeqAt
open AutoSeq1 (wpAny_loadPart')
open MeetsSeq MeetsSeq2 MeetsSeq3 SeqRoads2
section
variable {prog : Program} {w : World} {A : Around} {R : Result → Shared → Prop}
/-- at each turn the list is read anew: the i-th item is equal (Y then holds), or it is not, and it goes on -/
def InI (prog : Program) (w : World) (A : Around) (E : Value → Shared → Prop) (l : Addr) (x : Value) (N : Nat) (I : Nat → Shared → Prop) (Y : Shared → Prop) : Prop :=
  ∀ i s, I i s → ∃ (items : Array Value) (n : Nat), s.heap.get? l = some { cls := .type "list", data := .seq items n } ∧ items.size = N ∧
    ∀ (h1 : i < items.size), wpAny (model prog w) A.in1 (eqBool items[i] x) (fun r s' => (r = true ∧ Y s') ∨ (r = false ∧ I (i + 1) s')) E s
theorem in_loopG (l : Addr) (x : Value) (N : Nat) (I : Nat → Shared → Prop) (Y : Shared → Prop) (hl : InI prog w A (fun e s' => R (.error e) s') l x N I Y)
    (yes : ∀ s, Y s → R (.ok (.ret (.bool true))) s) (fin : ∀ s, I N s → R (.ok (.ret (.bool false))) s) (k : Nat) :
    ∀ i : Nat, N - i = k → i ≤ N → ∀ s, I i s →
      wpAny (model prog w) A.in1 (Builtin.«list.__contains__.loop» ⟨[.ref l, x, rawInt i], []⟩) (FinOf prog w A R) (fun e s' => R (.error e) s') s := by
  induction k with
  | zero =>
    intro i hk hi s h
    obtain ⟨items, n, hl1, hs1, _⟩ := hl _ _ h
    have hi' : i = N := by omega
    have hR : R (.ok (.ret (.bool false))) s := fin s (hi' ▸ h)
    obtain ⟨hp, g, d, tk, os⟩ := s
    wp_walk using wpAny_loadPart' hl1
    have hi1 : items[((i : Nat) : Int).toNat]? = none := by simp; omega
    rw [hi1]
    wp_walk
    exact hR
  | succ k ih =>
    intro i hk hi s h
    obtain ⟨items, n, hl1, hs1, turn⟩ := hl _ _ h
    have hlt : i < items.size := by omega
    have ht := turn hlt
    obtain ⟨hp, g, d, tk, os⟩ := s
    wp_walk using wpAny_loadPart' hl1
    have hi1 : items[((i : Nat) : Int).toNat]? = some items[i] := by simp [hlt]
    have hc : ((i : Int) + 1) = ((i + 1 : Nat) : Int) := by omega
    rw [hi1]
    refine wpAny_bind (wpAny_mono ht (fun r s2 h2 => ?_) fun _ _ x => x)
    rcases h2 with ⟨hr, h2⟩ | ⟨hr, h2⟩
    · subst hr
      have := yes s2 h2
      obtain ⟨hp2, g2, d2, tk2, os2⟩ := s2
      wp_walk
      exact this
    · subst hr
      have hrec := ih (i + 1) (by omega) (by omega) s2 h2
      obtain ⟨hp2, g2, d2, tk2, os2⟩ := s2
      wp_walk
      rw [hc]
      exact ⟨plainId_quiet plain_contains_loop _, codeAny_builtin entry_contains_loop (by
        rw [Around.under_plainId plain_contains_loop _]
        exact hrec)⟩
theorem list_inG (l : Addr) (x : Value) (N : Nat) (I : Nat → Shared → Prop) (Y : Shared → Prop) (hl : InI prog w A (fun e s' => R (.error e) s') l x N I Y)
    (yes : ∀ s, Y s → R (.ok (.ret (.bool true))) s) (fin : ∀ s, I N s → R (.ok (.ret (.bool false))) s) {s : Shared} (h : I 0 s) :
    wpAny (model prog w) A.in1 (Builtin.«list.__contains__» ⟨[.ref l, x], []⟩) (FinOf prog w A R) (fun e s' => R (.error e) s') s := by
  obtain ⟨items, n, hl1, hs1, _⟩ := hl _ _ h
  have hrec := in_loopG (A := A) (R := R) l x N I Y hl yes fin _ 0 rfl (Nat.zero_le _) s h
  obtain ⟨hp, g, d, tk, os⟩ := s
  wp_walk using wpAny_loadPart' hl1
  exact ⟨plainId_quiet plain_contains_loop _, codeAny_builtin entry_contains_loop (by
    rw [Around.under_plainId plain_contains_loop _]
    exact hrec)⟩
theorem in_listG {E : Value → Shared → Prop} {l : Addr} {x : Value} {N : Nat} {Q : Value → Shared → Prop} (I : Nat → Shared → Prop) (Y : Shared → Prop) (hl : InI prog w A E l x N I Y)
    (yes : ∀ s, Y s → Q (.bool true) s) (fin : ∀ s, I N s → Q (.bool false) s) {s : Shared} (h : I 0 s) : wpAny (model prog w) A (compareOp .In x (.ref l)) Q E s := by
  obtain ⟨items, n, hl1, _, _⟩ := hl _ _ h
  show wpAny _ A (do return .bool (← contains (.ref l) x)) Q E s
  refine wpAny_bind (wpAny_contains_slot ⟨_, hl1, rfl⟩ F.slot_list_contains (wpAny_mono (Q := fun v s' => ∃ b, v = .bool b ∧ Q (.bool b) s') (call_here F.slot_list_contains ⟨_, hl1, rfl⟩ F.entry_list_contains (F.args_list_contains_2 _ _) ?_) (fun v s' hv => ?_) fun _ _ e => e))
  · exact list_inG (R := wants (fun v s' => ∃ b, v = .bool b ∧ Q (.bool b) s') E) l x N I Y hl (fun s' q => ⟨_, rfl, yes s' q⟩) (fun s' q => ⟨_, rfl, fin s' q⟩) h
  · obtain ⟨b, rfl, hq⟩ := hv
    exact wpAny_truthy_bool (wpAny_pure hq)
end
end GQ
namespace DL
open PySem PySem.Spec PyProof.Rows L2
/-- a datum's type -/
def D.tyv : D → Option Value
  | .ins C _ => some (.ref C)
  | .non => some (.type "NoneType") | .bl _ => some (.type "bool") | .int _ => some (.type "int") | .str _ => some (.type "str")
  | .lst _ => some (.type "list") | .tup _ => some (.type "tuple") | .dK _ => some (.type "dict") | .dT _ => some (.type "dict")
  | _ => none
theorem tyv_tag {d : D} {t : String} (h : d.tag = some t) : d.tyv = some (.type t) := by cases d <;> first | (cases h; rfl) | cases h
section
variable {X : Cx} {pins : List (Addr × Obj)} {σ : L2.St} {H : Hp} {s : Shared}
theorem looks_obj {M : Model} {h : Heap} {a : Addr} {o : Obj} (e : h.get? a = some o) : PySem.W.Looks M h (typeOf (.ref a)) o.cls := (PySem.W.Looks.ld e).andThen .now
theorem looks_ty (I : Inv X pins σ H s) {d : D} {v : V} {u t : Value} (r : Rep X.K H d v) (rv : RelV v u) (h : d.tyv = some t) : PySem.W.Looks (model X.prog X.w) s.heap (typeOf u) t := by
  have dk : ∀ {a : Addr} {o : Obj}, s.heap.get? a = some o → o.ExactDict → PySem.W.Looks (model X.prog X.w) s.heap (typeOf (.ref a)) (.type "dict") := fun e c => by
    have := looks_obj (M := model X.prog X.w) e
    rw [show (_ : Obj).cls = Value.type "dict" from c.1] at this
    exact this
  cases r with
  | non => cases h; cases rv; exact PySem.W.Looks.of_pure rfl
  | bl b => cases h; cases rv; exact PySem.W.Looks.of_pure rfl
  | int i => cases h; obtain ⟨t, rfl⟩ := rv; exact PySem.W.Looks.of_pure rfl
  | str x => cases h; obtain ⟨t, rfl⟩ := rv; exact PySem.W.Looks.of_pure rfl
  | ty n => cases h
  | ref a => cases h
  | any v => cases h
  | ext _ => cases h
  | ins e _ =>
    cases h; cases rv
    obtain ⟨mA, J, _⟩ := ins_get I.hok e
    obtain ⟨od, J, _⟩ := J.look
    exact J.type
  | lst e _ =>
    cases h; cases rv
    rcases e with e | ⟨o, e⟩
    · obtain ⟨_, _, _, _, e⟩ := I.hok _ _ e
      exact looks_obj e
    · obtain ⟨_, _, _, _, _, e⟩ := I.hok _ _ e
      exact looks_obj e
  | tup e _ =>
    cases h; cases rv
    obtain ⟨_, _, _, ob, e, c, _⟩ := I.hok _ _ e
    have := looks_obj (M := model X.prog X.w) e
    rw [c] at this
    exact this
  | dK e _ =>
    cases h; cases rv
    obtain ⟨_, _, _, _, o, es, ep, e, c, _⟩ := I.hok _ _ e
    exact dk e c
  | dT e _ =>
    cases h; cases rv
    obtain ⟨_, _, _, _, o, es, ep, e, c, _⟩ := I.hok _ _ e
    exact dk e c
variable {A : Around} {n : Nat} {f : Addr} {fd : FuncData} {ps : List Str} {sp : Sp} {E : XK} {vs : List V} {us : List Value}
/-- a def of the text is called from a builtin's body -/
theorem own_call (sb : L2.Sub X n A) (I : Inv X pins σ H s) (F : FnOk X.prog X.w X.K X.mg X.base CX0 n f fd ps sp) (hb : Binds X.K fd ps []) (r : Vals vs us) {Q : VK} (hsp : sp vs H Q E) :
    wpAny (model X.prog X.w) A (call (.ref f) us) (EP X pins σ Q) X.xe s := by
  have e0 : Env0 X.prog X.w X.K X.mg X.base A X.stack s H := by
    have e := I.env0
    exact ⟨by rw [sb.fr]; exact e.frames, e.mod, e.bs, e.bsz, e.funs, e.frf, e.hok, e.bare⟩
  have hl := F.len _ _ _ _ hsp
  refine wpAny_call (codeAny_mono (F.run A X.stack s H ⟨us, []⟩ us vs _ E sb.room e0 (by
    have := hb s us I.kIn (by rw [List.append_nil, ← r.length]; exact hl)
    simpa using this) r hsp) fun r s' hq => ?_)
  cases r with
  | error e => exact pass0 pins σ H s e s' I hq
  | ok fl =>
    cases fl with
    | ret w => exact I.after hq
    | next => exact False.elim hq
    | brk => exact False.elim hq
    | cont => exact False.elim hq

/-- a bool's answer -/
abbrev BAns (X : Cx) (pins : List (Addr × Obj)) (σ : L2.St) (Q : Bool → Hp → Prop) (r : Value) (s' : Shared) : Prop := ∃ k H', r = .bool k ∧ Inv X pins σ H' s' ∧ Q k H'
theorem rc_own {a C dx : Addr} {fs : List (Str × V)} {v : V} {u t : Value} {Q : Bool → Hp → Prop} (sb : L2.Sub X n A) (I : Inv X pins σ H s) (ha : H a = some (.ins C dx fs)) (rv : RelV v u) (ty : PySem.W.Looks (model X.prog X.w) s.heap (typeOf u) t) (hn : PySem.W.notFirst X.K C t = true)
    (M : Meth X.K C "__eq__" f) (hb : Binds X.K fd ps []) (F : FnOk X.prog X.w X.K X.mg X.base CX0 n f fd ps sp) (hsp : sp [.ref a, v] H (fun z H' => ∃ k, z = .bl k ∧ Q k H') E) :
    wpAny (model X.prog X.w) A (richCompare .Eq (.ref a) u) (BAns X pins σ Q) X.xe s := by
  obtain ⟨mA, J, _⟩ := ins_get I.hok ha
  obtain ⟨od, J, _⟩ := J.look
  obtain ⟨m, hF⟩ := I.fr
  refine PySem.W.cmp_K (op := .Eq) (tb := t) sb.room.units0 hF I.ok.mod.kin J ty hn M.at_ M.fn ?_
  refine wpAny_mono (own_call sb I F hb (vs := [.ref a, v]) (us := [.ref a, u]) (.cons rfl (.cons rv .nil)) hsp) (fun r s' hq => ?_) fun _ _ x => x
  obtain ⟨z, H', I', rz, k, ez, q⟩ := hq
  subst ez
  cases rz
  exact ⟨k, H', rfl, I', q⟩
/-- a builtin slot of an own class, if it is bound -/
theorem ifBound_slot {M : Model} {K : PySem.W.Frag} {x C : Addr} {ox : Obj} {od : Option Obj} {name : Str} {id : String} {args : List Value} {Q : Option Value → Shared → Prop} {E : Value → Shared → Prop} (XK : K.In s.heap) (I : PySem.W.InstAt s.heap x ox C od)
    (hs : PySem.W.findIn K (.ref C) name = some (some (.builtin id))) (hb : ∀ self, bindSpecial (.builtin id) self = pure (.builtin id, [self]))
    (h : wpAny M A (call (.builtin id) (.ref x :: args)) (fun v => Q (some v)) E s) : wpAny M A (callSpecialIfBound? (.ref x) name args) Q E s := by
  simp only [callSpecialIfBound?, bindSpecialIfBound?]
  refine wpAny_holding (wpAny_bind (wpAny_bind (wpAny_bind (I.type.here ((PySem.W.looks_findIn XK hs).here ?_)))))
  refine wpAny_bind (wpAny_askSetting (wpAny_ite ?_))
  have fin : wpAny M A (call (.builtin id) ([.ref x] ++ args) >>= fun v => pure (some v)) Q E s := wpAny_bind (wpAny_mono h (fun v s' h' => wpAny_pure h') fun _ _ h' => h')
  simp only [hb]
  split
  · exact wpAny_bind (wpAny_pure (wpAny_pure fin))
  · exact wpAny_tryCatch (wpAny_bind (wpAny_pure (wpAny_pure fin)))
/-- what != asks of the class -/
structure NeTy (K : PySem.W.Frag) (C : Addr) : Prop where
  ne : PySem.W.findIn K (.ref C) "__ne__" = some (some (.builtin "object.__ne__"))
  ob : PySem.W.mroIn K C (.type "object") = some true
theorem objNe_own {a C dx : Addr} {fs : List (Str × V)} {v : V} {u : Value} {Q : Bool → Hp → Prop} (sb : L2.Sub X n A) (I : Inv X pins σ H s) (ha : H a = some (.ins C dx fs)) (rv : RelV v u)
    (M : Meth X.K C "__eq__" f) (hb : Binds X.K fd ps []) (F : FnOk X.prog X.w X.K X.mg X.base CX0 n f fd ps sp) (hsp : sp [.ref a, v] H (fun z H' => ∃ k, z = .bl k ∧ Q (!k) H') E) :
    wpAny (model X.prog X.w) A (Builtin.«object.__ne__» ⟨[.ref a, u], []⟩) (fun fin s' => ∃ r, fin = .done (.ret r) ∧ BAns X pins σ Q r s') X.xe s := by
  obtain ⟨mA, J, _⟩ := ins_get I.hok ha
  obtain ⟨od, J, _⟩ := J.look
  unfold Builtin.«object.__ne__»
  refine wpAny_bind (m := slotArgs "__ne__" 1 _) (wpAny_pure ?_)
  refine wpAny_bind (m := cRoomFor _ _) (wpAny_cRoomFor sb.room.units0 ?_)
  refine wpAny_bind (m := callSpecialIfBound? (.ref a) (Str.ofString "__eq__") _) (PySem.W.ifBound_K I.kIn J M.at_ M.fn (wpAny_mono (own_call sb I F hb (vs := [.ref a, v]) (us := [.ref a, u]) (.cons rfl (.cons rv .nil)) hsp) (fun r s' hq => ?_) fun _ _ x => x))
  obtain ⟨z, H', I', rz, k, ez, q⟩ := hq
  subst ez
  cases rz
  refine wpAny_bind (m := truthy (.bool k)) (wpAny_truthy_bool ?_)
  exact wpAny_pure ⟨_, rfl, !k, H', rfl, I', q⟩

theorem rc_neOwn {a C dx : Addr} {fs : List (Str × V)} {v : V} {u t : Value} {Q : Bool → Hp → Prop} (sb : L2.Sub X (n + 1) A) (I : Inv X pins σ H s) (ha : H a = some (.ins C dx fs)) (rv : RelV v u) (ty : PySem.W.Looks (model X.prog X.w) s.heap (typeOf u) t) (hn : PySem.W.notFirst X.K C t = true)
    (N : NeTy X.K C) (M : Meth X.K C "__eq__" f) (hb : Binds X.K fd ps []) (F : FnOk X.prog X.w X.K X.mg X.base CX0 n f fd ps sp) (hsp : sp [.ref a, v] H (fun z H' => ∃ k, z = .bl k ∧ Q (!k) H') E) :
    wpAny (model X.prog X.w) A (richCompare .NotEq (.ref a) u) (BAns X pins σ Q) X.xe s := by
  obtain ⟨mA, J, _⟩ := ins_get I.hok ha
  obtain ⟨od, J, _⟩ := J.look
  have one : wpAny (model X.prog X.w) A (tryCompare (.ref a) "__ne__" u) (fun r s' => ∃ v, r = some v ∧ BAns X pins σ Q v s') X.xe s := by
    unfold tryCompare
    refine wpAny_bind (ifBound_slot I.kIn J N.ne PySem.F.cmp_object.ne.bind ?_)
    refine wpAny_call (codeAny_call_builtin PySem.F.cmp_object.ne.plain PySem.F.cmpEntry_ne (PySem.W.check_slot (i := "object.__ne__") (owner := "object") (n := "__ne__") PySem.F.cmpKind_ne PySem.F.cmpSplit_ne (J.type.andThen (PySem.W.looks_mroIn I.kIn N.ob)) (PySem.F.cmpArgs_ne _ _) ?_))
    refine wpAny_mono (objNe_own sb.in1 I ha rv M hb F hsp) (fun fin s' hq => ?_) fun _ _ x => x
    obtain ⟨r, rfl, k, H', rfl, I', q⟩ := hq
    exact wpAny_pure ⟨.bool k, rfl, k, H', rfl, I', q⟩
  unfold richCompare
  simp only [oneThing_ref]
  refine wpAny_holding (wpAny_bind (wpAny_cRoomFor sb.room.units0 ?_))
  refine wpAny_bind (J.type.here (wpAny_bind (ty.here ?_)))
  rw [cmpInfo_NotEq]
  dsimp only
  split
  · rename_i q
    have e : PySem.W.subIn X.K t (.ref C) = some false := by
      rcases Bool.or_eq_true_iff.mp hn with e | e
      · rw [beq_iff_eq.mp e] at q; simp at q
      · exact beq_iff_eq.mp e
    refine wpAny_bind ((PySem.W.looks_subIn I.kIn e).here ?_)
    simp only [Bool.false_eq_true, if_false]
    refine wpAny_bind (wpAny_mono one (fun r s' z => ?_) fun _ _ e => e)
    obtain ⟨v, rfl, hq⟩ := z
    exact wpAny_pure hq
  · refine wpAny_bind (wpAny_pure ?_)
    simp only [Bool.false_eq_true, if_false]
    refine wpAny_bind (wpAny_mono one (fun r s' z => ?_) fun _ _ e => e)
    obtain ⟨v, rfl, hq⟩ := z
    exact wpAny_pure hq
/-- None == x: x is asked -/
theorem rc_none {a C dx : Addr} {fs : List (Str × V)} {Q : Bool → Hp → Prop} (sb : L2.Sub X n A) (I : Inv X pins σ H s) (ha : H a = some (.ins C dx fs)) (hn : PySem.W.subIn X.K (.ref C) (.type "NoneType") = some false)
    (M : Meth X.K C "__eq__" f) (hb : Binds X.K fd ps []) (F : FnOk X.prog X.w X.K X.mg X.base CX0 n f fd ps sp) (hsp : sp [.ref a, .non] H (fun z H' => ∃ k, z = .bl k ∧ Q k H') E) :
    wpAny (model X.prog X.w) A (richCompare .Eq .none (.ref a)) (BAns X pins σ Q) X.xe s := by
  obtain ⟨mA, J, _⟩ := ins_get I.hok ha
  obtain ⟨od, J, _⟩ := J.look
  have hT : s.TypeIs .none "NoneType" := rfl
  rcases hi : cmpInfo CmpOp.Eq with ⟨sym, g, r⟩
  have h1 := PySem.F.slot_NoneType_eq
  rw [hi] at h1
  have er : r = "__eq__" := by cases hi; rfl
  simp only [richCompare, hi, hT.oneThing_none]
  refine wpAny_holding (wpAny_bind (wpAny_cRoomFor sb.room.units0 ?_))
  refine wpAny_bind (wpAny_typeOf hT (wpAny_bind (J.type.here ?_)))
  rw [show (Value.type "NoneType" != Value.ref C) = true from rfl]
  simp only [if_true]
  refine wpAny_bind ((PySem.W.looks_subIn I.kIn hn).here ?_)
  simp only [Bool.false_eq_true, if_false, Bool.not_false, if_true]
  refine wpAny_bind (m := tryCompare .none _ _) (wpAny_tryCompare_declines hT h1 (GQ.call_here h1 hT PySem.F.entry_NoneType_eq (PySem.F.args_NoneType_eq_2 _ _) ?_))
  refine wpAny_bind (m := slotArgs "__eq__" 1 _) (wpAny_pure ?_)
  refine wpAny_pure ?_
  refine ⟨rfl, ?_⟩
  refine wpAny_bind (m := tryCompare (.ref a) _ _) ?_
  rw [er]
  unfold tryCompare
  refine wpAny_bind (PySem.W.ifBound_K I.kIn J M.at_ M.fn (wpAny_mono (own_call sb I F hb (vs := [.ref a, .non]) (us := [.ref a, .none]) (.cons rfl (.cons rfl .nil)) hsp) (fun r s' hq => ?_) fun _ _ x => x))
  obtain ⟨z, H', I', rz, k, ez, q⟩ := hq
  subst ez
  cases rz
  exact wpAny_pure (wpAny_pure ⟨k, H', rfl, I', q⟩)

end
/-! ### by data -/
section
variable {X : Cx} {e a b c : Expr} {ρ : En} {d y z w : D} {pos p' : Pos} {n : Nat} {R : List D → D → Prop} {C : Addr} {fs : List (Str × D)} {k : Bool}
theorem wc_op2 {op : CmpOp} {r : R2} (ho : OpR X (compareOp op) r) (ha : WB X a ρ y) (hb : WB X b ρ z) (hm : behindInMarks op b = false)
    (hr : ∀ (H F : Hp) u v, Same F H → Rep X.K H y u → Rep X.K H z v → ∀ Q : VK, (∀ H' F', Le H F H' F' → Q (.bl k) H') → r u v H Q) : WE X (.Compare a [op] [b] pos) ρ (.bl k) ∧ WT X (.Compare a [op] [b] pos) ρ k :=
  ⟨fun H F σ c Q q => pe_to (pe_cmpR ho pe_s pe_s hm) (ha H F σ c _ fun u H1 F1 l1 r1 => hb H1 F1 σ (c.mono l1) _ fun v H2 F2 l2 r2 => hr H2 F2 u v l2.ex (r1.mono l2.h) r2 Q fun H' F' l => q _ H' F' ((l1.trans l2).trans l) (.bl k)),
   fun H F σ c Q q => pt_to (pt_cmpR ho pe_s pe_s hm) (ha H F σ c _ fun u H1 F1 l1 r1 => hb H1 F1 σ (c.mono l1) _ fun v H2 F2 l2 r2 => hr H2 F2 u v l2.ex (r1.mono l2.h) r2 _ fun H' F' l => ⟨k, rfl, q H' F' ((l1.trans l2).trans l)⟩)⟩
/-- both are there, the answer is k -/
def rTwo (K : PySem.W.Frag) (y z : D) (k : Bool) : R2 := fun u v H Q => ∃ F, Same F H ∧ Rep K H y u ∧ Rep K H z v ∧ ∀ H' F', Le H F H' F' → Q (.bl k) H'
theorem le_own {H F H' F' : Hp} (e : Same F H) (l : Le H H H' F') : Le H F H' F := ⟨l.h, Same.refl F, e.trans l.h, fun _ _ _ n => n⟩
theorem op_eqOwn {t : Value} (kn : KnM X.prog X.w X.K X.mg X.base C "__eq__" n [] (spR X.K R)) (hr : Room n X.A) (hz : z.tyv = some t) (hn : PySem.W.notFirst X.K C t = true) (hR : R [.ins C fs, z] (.bl k)) : OpR X (compareOp .Eq) (rTwo X.K (.ins C fs) z k) := by
  obtain ⟨f, fd, ps, dws, hm, hb, hd, F0⟩ := kn.ex
  cases hd
  intro pins s σ H x y v u Q I rx ry h
  obtain ⟨F, e, h1, h2, q⟩ := h
  cases id h1 with
  | ins s1 r1 =>
    cases rx
    show wpAny _ _ (richCompare .Eq _ _) _ _ _
    refine wpAny_mono (rc_own (E := fun _ _ _ => False) (Q := fun k' H' => k' = k ∧ Q (.bl k) H') ⟨hr, rfl⟩ I s1 ry (looks_ty I h2 ry hz) hn hm hb F0 ⟨H, [.ins C fs, z], .bl k, Same.refl H, .cons h1 (.cons h2 .nil), hR, fun v' H' F' l r' => ?_⟩) (fun r s' q' => ?_) fun _ _ x => x
    · cases r'
      exact ⟨k, rfl, rfl, q H' F (le_own e l)⟩
    · obtain ⟨k', H', rfl, I', rfl, q'⟩ := q'
      exact ⟨.bl k', H', I', rfl, q'⟩
theorem op_neOwn {t : Value} (kn : KnM X.prog X.w X.K X.mg X.base C "__eq__" n [] (spR X.K R)) (hr : Room (n + 1) X.A) (hz : z.tyv = some t) (hn : PySem.W.notFirst X.K C t = true) (N : NeTy X.K C) (hR : R [.ins C fs, z] (.bl k)) : OpR X (compareOp .NotEq) (rTwo X.K (.ins C fs) z (!k)) := by
  obtain ⟨f, fd, ps, dws, hm, hb, hd, F0⟩ := kn.ex
  cases hd
  intro pins s σ H x y v u Q I rx ry h
  obtain ⟨F, e, h1, h2, q⟩ := h
  cases id h1 with
  | ins s1 r1 =>
    cases rx
    show wpAny _ _ (richCompare .NotEq _ _) _ _ _
    refine wpAny_mono (rc_neOwn (E := fun _ _ _ => False) (Q := fun k' H' => k' = (!k) ∧ Q (.bl (!k)) H') ⟨hr, rfl⟩ I s1 ry (looks_ty I h2 ry hz) hn N hm hb F0 ⟨H, [.ins C fs, z], .bl k, Same.refl H, .cons h1 (.cons h2 .nil), hR, fun v' H' F' l r' => ?_⟩) (fun r s' q' => ?_) fun _ _ x => x
    · cases r'
      exact ⟨k, rfl, rfl, q H' F (le_own e l)⟩
    · obtain ⟨k', H', rfl, I', ek, q'⟩ := q'
      subst ek
      exact ⟨.bl (!k), H', I', rfl, q'⟩
theorem cmp_eqOwn {t : Value} (kn : KnM X.prog X.w X.K X.mg X.base C "__eq__" n [] (spR X.K R)) (hr : Room n X.A) (hz : z.tyv = some t) (hn : PySem.W.notFirst X.K C t = true) (hR : R [.ins C fs, z] (.bl k)) : Cmp X .Eq (.ins C fs) z k :=
  ⟨fun p q h => wc_op2 (op_eqOwn kn hr hz hn hR) p q h fun H F u v e r1 r2 Q q => ⟨F, e, r1, r2, q⟩⟩
theorem cmp_neOwn {t : Value} (kn : KnM X.prog X.w X.K X.mg X.base C "__eq__" n [] (spR X.K R)) (hr : Room (n + 1) X.A) (hz : z.tyv = some t) (hn : PySem.W.notFirst X.K C t = true) (N : NeTy X.K C) (hR : R [.ins C fs, z] (.bl k)) : Cmp X .NotEq (.ins C fs) z (!k) :=
  ⟨fun p q h => wc_op2 (op_neOwn kn hr hz hn N hR) p q h fun H F u v e r1 r2 Q q => ⟨F, e, r1, r2, q⟩⟩

/-- x in [None, y], x and y of one class -/
theorem op_inOwn {gs : List (Str × D)} (kn : KnM X.prog X.w X.K X.mg X.base C "__eq__" n [] (spR X.K R)) (hr : Room (n + 1) X.A) (hc : PySem.W.notFirst X.K C (.ref C) = true) (hn : PySem.W.subIn X.K (.ref C) (.type "NoneType") = some false)
    (hN : R [.ins C fs, .non] (.bl false)) (hR : R [.ins C gs, .ins C fs] (.bl k)) (hs : ∀ (H : Hp) (a : Addr), Rep X.K H (.ins C fs) (.ref a) → Rep X.K H (.ins C gs) (.ref a) → k = true) :
    OpR X (compareOp .In) (rTwo X.K (.ins C fs) (.lst [.non, .ins C gs]) k) := by
  obtain ⟨f, fd, ps, dws, hm, hb, hd, F0⟩ := kn.ex
  cases hd
  intro pins s σ H x y v u Q I rx ry h
  obtain ⟨F, e, h1, h2, q⟩ := h
  have sb : L2.Sub X n X.A.in1 := ⟨hr.in1, rfl⟩
  cases id h1 with
  | @ins ax _ dx xs _ s1 r1 =>
    cases rx
    cases id h2 with
    | @lst al vl _ sl rl =>
      cases ry
      cases rl with
      | cons rn rl =>
        cases rl with
        | cons rg rl =>
          cases rl
          cases rn
          cases id rg with
          | @ins ay _ dy ys _ s2 r2 =>
            have hlist : ∀ (H' : Hp) (s' : Shared), Inv X pins σ H' s' → Same H H' → ∃ (n : Nat), s'.heap.get? al = some { cls := .type "list", data := .seq #[Value.none, Value.ref ay] n } := fun H' s' I' e' => by
              obtain ⟨z, its, n, r, he⟩ := (same_rd e' sl).ok I'.hok
              cases r with
              | cons ra r =>
                cases r with
                | cons rb r =>
                  cases r
                  cases ra
                  cases rb
                  exact ⟨n, he⟩
            refine GQ.in_listG (N := 2) (fun i s' => ∃ H', Inv X pins σ H' s' ∧ Le H F H' F ∧ (2 ≤ i → k = false)) (fun s' => ∃ H', Inv X pins σ H' s' ∧ Le H F H' F ∧ k = true) ?_ (fun s' ⟨H', I', l, ek⟩ => ?_) (fun s' ⟨H', I', l, ek⟩ => ?_) ⟨H, I, Le.refl e, fun z => absurd z (by decide)⟩
            · intro i s' ⟨H', I', l, ek⟩
              obtain ⟨nn, hl⟩ := hlist H' s' I' l.h
              refine ⟨_, nn, hl, rfl, fun hi => ?_⟩
              have hi2 : i < 2 := hi
              rcases (by omega : i = 0 ∨ i = 1) with z | z
              · subst z
                show wpAny _ _ (eqBool Value.none (Value.ref ax)) _ _ _
                unfold eqBool
                refine wpAny_holding ?_
                refine wpAny_ite_split (fun hab => absurd (eq_of_beq hab) nofun) (fun _ => ?_)
                refine wpAny_bind (wpAny_mono (rc_none (E := fun _ _ _ => False) (Q := fun k' H2 => k' = false ∧ Le H' F H2 F) sb I' (l.h _ _ s1) hn hm hb F0 ⟨H', [.ins C fs, .non], .bl false, Same.refl H', .cons (h1.mono l.h) (.cons .non .nil), hN, fun v' H2 F2 l2 r' => ?_⟩) (fun r s2 q' => ?_) fun _ _ x => x)
                · cases r'
                  exact ⟨false, rfl, rfl, le_own l.ex l2⟩
                · obtain ⟨k', H2, rfl, I2, rfl, l2⟩ := q'
                  exact wpAny_truthy_bool (.inr ⟨rfl, H2, I2, l.trans l2, fun z => absurd z (by decide)⟩)
              · subst z
                show wpAny _ _ (eqBool (Value.ref ay) (Value.ref ax)) _ _ _
                by_cases hab : ay = ax
                · subst hab
                  have hk := hs H' ay (h1.mono l.h) (rg.mono l.h)
                  exact SeqAt.EqAt.same (.ref ay) X.prog X.w X.xe _ (.inl ⟨rfl, H', I', l, hk⟩)
                · refine GQ.eqBool_refG hab (wpAny_mono (rc_own (E := fun _ _ _ => False) (Q := fun k' H2 => k' = k ∧ Le H' F H2 F) (v := .ref ax) sb I' (l.h _ _ s2) rfl (looks_ty I' (h1.mono l.h) rfl rfl) hc hm hb F0 ⟨H', [.ins C gs, .ins C fs], .bl k, Same.refl H', .cons (rg.mono l.h) (.cons (h1.mono l.h) .nil), hR, fun v' H2 F2 l2 r' => ?_⟩) (fun r s2 q' => ?_) fun _ _ x => x)
                  · cases r'
                    exact ⟨k, rfl, rfl, le_own l.ex l2⟩
                  · obtain ⟨k', H2, rfl, I2, ek', l2⟩ := q'
                    subst ek'
                    refine ⟨k', rfl, ?_⟩
                    cases k' with
                    | true => exact .inl ⟨rfl, H2, I2, l.trans l2, rfl⟩
                    | false => exact .inr ⟨rfl, H2, I2, l.trans l2, fun _ => rfl⟩
            · have := q H' F l
              rw [ek] at this
              exact ⟨.bl true, H', I', rfl, this⟩
            · have := q H' F l
              rw [ek (Nat.le_refl _)] at this
              exact ⟨.bl false, H', I', rfl, this⟩
theorem cmp_inOwn {gs : List (Str × D)} (kn : KnM X.prog X.w X.K X.mg X.base C "__eq__" n [] (spR X.K R)) (hr : Room (n + 1) X.A) (hc : PySem.W.notFirst X.K C (.ref C) = true) (hn : PySem.W.subIn X.K (.ref C) (.type "NoneType") = some false)
    (hN : R [.ins C fs, .non] (.bl false)) (hR : R [.ins C gs, .ins C fs] (.bl k)) (hs : ∀ (H : Hp) (a : Addr), Rep X.K H (.ins C fs) (.ref a) → Rep X.K H (.ins C gs) (.ref a) → k = true) : Cmp X .In (.ins C fs) (.lst [.non, .ins C gs]) k :=
  ⟨fun p q h => wc_op2 (op_inOwn kn hr hc hn hN hR hs) p q h fun H F u v e r1 r2 Q q => ⟨F, e, r1, r2, q⟩⟩

/-- what == of a class asks of the fragment -/
structure EqTy (K : PySem.W.Frag) (C : Addr) : Prop where
  ne : NeTy K C
  ty : ∀ t : String, ["NoneType", "bool", "int", "str", "list", "tuple", "dict"].contains t = true → PySem.W.notFirst K C (.type t) = true
  non : PySem.W.subIn K (.ref C) (.type "NoneType") = some false
theorem nf_self {K : PySem.W.Frag} {C : Addr} : PySem.W.notFirst K C (.ref C) = true := by simp [PySem.W.notFirst]
theorem cmp_eqOwnS (kn : KnM X.prog X.w X.K X.mg X.base C "__eq__" n [] (spR X.K R)) (hr : Room n X.A) {gs : List (Str × D)} (hR : R [.ins C fs, .ins C gs] (.bl k)) : Cmp X .Eq (.ins C fs) (.ins C gs) k := cmp_eqOwn kn hr rfl nf_self hR
theorem cmp_neOwnS (kn : KnM X.prog X.w X.K X.mg X.base C "__eq__" n [] (spR X.K R)) (hr : Room (n + 1) X.A) (N : EqTy X.K C) {gs : List (Str × D)} (hR : R [.ins C fs, .ins C gs] (.bl k)) : Cmp X .NotEq (.ins C fs) (.ins C gs) (!k) := cmp_neOwn kn hr rfl nf_self N.ne hR
theorem cmp_eqOwnT {t : String} (kn : KnM X.prog X.w X.K X.mg X.base C "__eq__" n [] (spR X.K R)) (hr : Room n X.A) (N : EqTy X.K C) (hz : z.tag = some t) (ht : ["NoneType", "bool", "int", "str", "list", "tuple", "dict"].contains t = true) (hR : R [.ins C fs, z] (.bl k)) : Cmp X .Eq (.ins C fs) z k := cmp_eqOwn kn hr (tyv_tag hz) (N.ty t ht) hR
theorem cmp_neOwnT {t : String} (kn : KnM X.prog X.w X.K X.mg X.base C "__eq__" n [] (spR X.K R)) (hr : Room (n + 1) X.A) (N : EqTy X.K C) (hz : z.tag = some t) (ht : ["NoneType", "bool", "int", "str", "list", "tuple", "dict"].contains t = true) (hR : R [.ins C fs, z] (.bl k)) : Cmp X .NotEq (.ins C fs) z (!k) := cmp_neOwn kn hr (tyv_tag hz) (N.ty t ht) N.ne hR
theorem cmp_inOwnS {gs : List (Str × D)} (kn : KnM X.prog X.w X.K X.mg X.base C "__eq__" n [] (spR X.K R)) (hr : Room (n + 1) X.A) (N : EqTy X.K C) (hN : R [.ins C fs, .non] (.bl false)) (hR : R [.ins C gs, .ins C fs] (.bl k)) (hs : ∀ (H : Hp) (a : Addr), Rep X.K H (.ins C fs) (.ref a) → Rep X.K H (.ins C gs) (.ref a) → k = true) : Cmp X .In (.ins C fs) (.lst [.non, .ins C gs]) k := cmp_inOwn kn hr nf_self N.non hN hR hs
/-- one argument, an instance, the answer d -/
def rOne (K : PySem.W.Frag) (y d : D) : List V → Hp → VK → Prop := fun vs H Q => ∃ (F : Hp) (u : V), vs = [u] ∧ Same F H ∧ Rep K H y u ∧ ∀ v H' F', Le H F H' F' → Rep K H' d v → Q v H'
theorem call_lenOwn {i : Int} (kn : KnM X.prog X.w X.K X.mg X.base C "__len__" n [] (spR X.K R)) (hr : Room (n + 1) X.A) (h0 : 0 ≤ i) (h1 : i < 2 ^ 63) (hR : R [.ins C fs] (.int i)) : CallR X (.builtin "len") (rOne X.K (.ins C fs) (.int i)) := by
  obtain ⟨f, fd, ps, dws, hm, hb, hd, F0⟩ := kn.ex
  cases hd
  intro pins s σ H xs us Q I r h
  obtain ⟨F, u, rfl, e, h1', q⟩ := h
  obtain ⟨u', rfl, rx⟩ := vals1 r
  cases id h1' with
  | ins s1 r1 =>
    cases rx
    obtain ⟨mA, J, _⟩ := ins_get I.hok s1
    obtain ⟨od, J, _⟩ := J.look
    obtain ⟨m, hF⟩ := I.fr
    refine PySem.W.len_K hF I.ok.mod.kin J hm.at_ hm.fn (wpAny_mono (own_call (E := fun _ _ _ => False) (Q := fun z H' => z = .int i ∧ Q (.int i) H') ⟨hr.in1, rfl⟩ I F0 hb (.cons (a := V.ref _) rfl .nil) ⟨H, [.ins C fs], .int i, Same.refl H, .cons h1' .nil, hR, fun v' H' F' l r' => ?_⟩) (fun w s' q' => ?_) fun _ _ x => x)
    · cases r'
      exact ⟨rfl, q _ H' F (le_own e l) (.int i)⟩
    · obtain ⟨z, H', I', rz, rfl, q'⟩ := q'
      obtain ⟨t, rfl⟩ := rz
      exact ⟨⟨h0, h1⟩, .int i, H', I'.tok _, ⟨_, rfl⟩, q'⟩
theorem call_strOwn {x : Str} (kn : KnM X.prog X.w X.K X.mg X.base C "__str__" n [] (spR X.K R)) (hr : Room (n + 2) X.A) (hR : R [.ins C fs] (.str x)) : CallR X (.type "str") (rOne X.K (.ins C fs) (.str x)) := by
  obtain ⟨f, fd, ps, dws, hm, hb, hd, F0⟩ := kn.ex
  cases hd
  intro pins s σ H xs us Q I r h
  obtain ⟨F, u, rfl, e, h1', q⟩ := h
  obtain ⟨u', rfl, rx⟩ := vals1 r
  cases id h1' with
  | ins s1 r1 =>
    cases rx
    obtain ⟨mA, J, _⟩ := ins_get I.hok s1
    obtain ⟨od, J, _⟩ := J.look
    have hr1 : Room (n + 1) X.A.in1 := Room.in1 hr
    have hr2 : Room n X.A.in1.in1 := hr1.in1
    refine PySem.W.kso_call hr2.units0 I.kIn J hm.at_ hm.fn (wpAny_mono (own_call (E := fun _ _ _ => False) (Q := fun z H' => z = .str x ∧ Q (.str x) H') ⟨hr2, rfl⟩ I F0 hb (.cons (a := V.ref _) rfl .nil) ⟨H, [.ins C fs], .str x, Same.refl H, .cons h1' .nil, hR, fun v' H' F' l r' => ?_⟩) (fun w s' q' => ?_) fun _ _ x => x)
    · cases r'
      exact ⟨rfl, q _ H' F (le_own e l) (.str x)⟩
    · obtain ⟨z, H', I', rz, rfl, q'⟩ := q'
      obtain ⟨t, rfl⟩ := rz
      exact ⟨.str x, H', I', ⟨_, rfl⟩, q'⟩
theorem we_lenOwn {i : Int} (ha : WE X a ρ (.ins C fs)) (kn : KnM X.prog X.w X.K X.mg X.base C "__len__" n [] (spR X.K R)) (hr : Room (n + 1) X.A) (hR : R [.ins C fs] (.int i)) (h0 : 0 ≤ i) (h1 : i < 2 ^ 63) (hm : X.mg "len" = none) (hg : Gl X "len" := by rfl) (he : starEach [a] X.env = [(false, eval a X.env)] := by rfl) : WE X (.Call (.Name "len" p') [a] [] pos) ρ (.int i) :=
  fun H F σ c Q q => pe_to (pe_callB (call_lenOwn kn hr h0 h1 hR) hg hm PySem.boot_len pa_s (he := he) (hpl := rfl)) (wa_cons (ds := []) ha wa_nil he H F σ c _ fun vs H1 F1 l1 r1 => by
    cases r1 with
    | cons r1 r2 =>
      cases r2
      exact ⟨F1, _, rfl, l1.ex, r1.mono l1.ex, fun v H' F' l r => q v H' F' (l1.trans l) (r.sc rfl)⟩)
theorem we_strOwn {x : Str} (ha : WE X a ρ (.ins C fs)) (kn : KnM X.prog X.w X.K X.mg X.base C "__str__" n [] (spR X.K R)) (hr : Room (n + 2) X.A) (hR : R [.ins C fs] (.str x)) (hm : X.mg "str" = none) (hg : Gl X "str" := by rfl) (he : starEach [a] X.env = [(false, eval a X.env)] := by rfl) : WE X (.Call (.Name "str" p') [a] [] pos) ρ (.str x) :=
  fun H F σ c Q q => pe_to (pe_callTy (call_strOwn kn hr hR) hg hm (by decide +kernel) pa_s (he := he) (hpl := rfl)) (wa_cons (ds := []) ha wa_nil he H F σ c _ fun vs H1 F1 l1 r1 => by
    cases r1 with
    | cons r1 r2 =>
      cases r2
      exact ⟨F1, _, rfl, l1.ex, r1.mono l1.ex, fun v H' F' l r => q v H' F' (l1.trans l) (r.sc rfl)⟩)
end
section
variable {X : Cx}
theorem cmp_neB {p q : Bool} (hu : X.A.units + 64 < cLine) : Cmp X .NotEq (.bl p) (.bl q) (p != q) := by
  have h := cmp_neD (X := X) (y := .bl p) (z := .bl q) rfl rfl (by cases p <;> decide) (by cases q <;> decide) hu
  have e : (!PyData.eqv (D.bl p).pd (D.bl q).pd) = (p != q) := by cases p <;> cases q <;> rfl
  rwa [e] at h
end
end DL
/-! DLo: calls with keywords. -/
namespace DL
open PySem PySem.Spec PyProof.Rows L2
/-- a class of the text, called by n values and the keywords ks, which stand behind them -/
structure KnK (P : Program) (w : World) (K : PySem.W.Frag) (mg : Str → Option Value) (base : Heap) (x : Str) (C : Addr) (k n : Nat) (ks : List Str) (sp : Sp) : Prop where
  g : mg x = some (.ref C)
  ex : ∃ (f : Addr) (fd : FuncData) (ps : List Str) (gg : List Value → List Value → List Value), Mk K C f ∧ KBn K fd ps (n + 1) ks gg (fun vs zs => vs ++ zs) ∧ FnOk P w K mg base CX0 k f fd ps sp
section
variable {X : Cx} {e v : Expr} {es : List Expr} {ρ : En} {d z : D} {pos p' kp : Pos} {x kw : Str} {k n : Nat} {R : List D → D → Prop} {ds : List D} {C : Addr}
/-- C(e, .., k = v) -/
theorem we_makeK (kn : KnK X.prog X.w X.K X.mg X.base x C k n [kw] (spI X.K C R)) (hr : Room (k + 1) X.A) (ha : WA X (e :: es) ρ ds) (hv : WE X v ρ z) (hn : ds.length = n) (hR : R (ds ++ [z]) d) (hg : Gl X x := by rfl)
    (hall : (backToKw pos (keywordEach [⟨some kw, v, kp⟩] X.env)).all (·.1.isSome) = true := by rfl) (hks : (backToKw pos (keywordEach [⟨some kw, v, kp⟩] X.env)).filterMap (·.1) = [kw] := by rfl)
    (hdb : (x == ("__debug__" : Str)) = false := by decide) (he : starEach (e :: es) X.env = (false, eval e X.env) :: starEach es X.env := by rfl)
    (hpl : ((backTo pos (starEach (e :: es) X.env)).any (·.1) || (backToKw pos (keywordEach [⟨some kw, v, kp⟩] X.env)).any (·.1.isNone)) = false := by rfl) :
    WE X (.Call (.Name x p') (e :: es) [⟨some kw, v, kp⟩] pos) ρ d := by
  obtain ⟨f, fd, ps, gg, hm, hb, F0⟩ := kn.ex
  exact fun H F σ cf Q q => pe_to (pe_makeN hm F0 hr hg kn.g hb pass0 pa_s (pk_cons pe_s pk_nil) hall hks hdb he hpl) (ha H F σ cf _ fun vs H1 F1 l1 r1 => hv H1 F1 σ (cf.mono l1) _ fun u H2 F2 l2 r2 => by
    refine ⟨by rw [← r1.length]; exact hn, rfl, fun y dy hy hdy hne => ?_⟩
    exact ⟨H2, F2, y, dy, vs ++ [u], ds ++ [z], d, rfl, rfl, hy, hdy, hne, l2.ex, (r1.mono l2.f).append (.one r2), hR, fun H' F' l r => ⟨rfl, q _ H' F' ((l1.trans l2).trans l) r⟩⟩)
end

section
variable {X : Cx} {e o o2 a a2 : Expr} {ρ : En} {P : Post} {d d2 : D} {pos p1 p2 tp : Pos} {p : Addr} {nb : Bool} {ds : List D} {i i2 : Int} {j j2 kk2 : Nat}
/-- xs[i], xs[j] = two values -/
theorem ws_setIx2 (k : Nat) (he : WE X e ρ (.tup [d, d2])) (ho : WE X o ρ (.ref p)) (hk : ρ.o[k]? = some ⟨p, nb, .lst ds⟩) (ha : WB X a ρ (.int i)) (hj : ixN ds.length i = some j)
    (ho2 : WE X o2 ⟨ρ.o.set k ⟨p, nb, .lst (ds.set j d)⟩, ρ.s⟩ (.ref p)) (ha2 : WB X a2 ⟨ρ.o.set k ⟨p, nb, .lst (ds.set j d)⟩, ρ.s⟩ (.int i2)) (hj2 : ixN (ds.set j d).length i2 = some j2)
    (h : P.nx ⟨(ρ.o.set k ⟨p, nb, .lst (ds.set j d)⟩).set k ⟨p, nb, .lst ((ds.set j d).set j2 d2)⟩, ρ.s⟩) (hc : X.calm = true := by rfl)
    (hs : swapsWithSole [.Tuple [.Subscript o a p1, .Subscript o2 a2 p2] kk2 tp] e pos.line X.env = pure false := by rfl) (hw : swappedStores [.Tuple [.Subscript o a p1, .Subscript o2 a2 p2] kk2 tp] e X.env = pure none := by rfl) (h1 : (assignEach [.Tuple [.Subscript o a p1, .Subscript o2 a2 p2] kk2 tp] X.env).map (·.2) = [assign (.Tuple [.Subscript o a p1, .Subscript o2 a2 p2] kk2 tp) X.env] := by rfl)
    (hs1 : (assignEach [.Subscript o a p1, .Subscript o2 a2 p2] X.env).map (·.2) = assign (.Subscript o a p1) X.env :: (assignEach [.Subscript o2 a2 p2] X.env).map (·.2) := by rfl) (hs2 : (assignEach [.Subscript o2 a2 p2] X.env).map (·.2) = assign (.Subscript o2 a2 p2) X.env :: (assignEach [] X.env).map (·.2) := by rfl)
    (hn : (assignEach [.Subscript o a p1, .Subscript o2 a2 p2] X.env).length = 2 := by rfl) (hst : (assignEach [.Subscript o a p1, .Subscript o2 a2 p2] X.env).findIdx? (·.1) = none := by rfl)
    (hg : ∀ v, assign (.Subscript o a p1) X.env v = (do
      let ov ← holding [v] (eval o X.env)
      let iv ← holding [v, ov] (eval a X.env)
      standAt p1
      holding [v, ov, iv] (setItem ov iv v)
      release [v, ov, iv] []) := by intro _; rfl)
    (hg2 : ∀ v, assign (.Subscript o2 a2 p2) X.env v = (do
      let ov ← holding [v] (eval o2 X.env)
      let iv ← holding [v, ov] (eval a2 X.env)
      standAt p2
      holding [v, ov, iv] (setItem ov iv v)
      release [v, ov, iv] []) := by intro _; rfl) : WS X (.Assign [.Tuple [.Subscript o a p1, .Subscript o2 a2 p2] kk2 tp] e pos) ρ P := fun M H0 F0 B H F σ c b Dn kk =>
  ps_to (ps_asg pe_s (pg_tup hc (pgs_cons (pg_sub pe_s pe_s set_list hg) (pgs_cons (pg_sub pe_s pe_s set_list hg2) pgs_nil hs2) hs1) hn hst) hs hw h1) (he H F σ c _ fun v H1 F1 l1 r1 => by
    cases r1 with
    | tup s r =>
      refine ⟨_, _, rfl, .inl (.inl (l1.ex _ _ s)), r.length.symm, ?_⟩
      cases r with
      | @cons _ va _ _ ra r =>
        cases r with
        | cons rb r =>
          cases r
          refine ⟨_, _, rfl, ho H1 F1 σ (c.mono l1) _ fun u H2 F2 l2 r2 => ha H2 F2 σ ((c.mono l1).mono l2) _ fun w H3 F3 l3 r3 => ?_⟩
          cases r2
          cases r3
          have l := (l1.trans l2).trans l3
          have c3 := c.mono l
          obtain ⟨hf1, ho1⟩ := c3.ownAt hk
          cases ho1 with
          | @lst _ xs0 _ hp r =>
            refine ⟨p, _, i, j, rfl, rfl, hp, by rw [← r.length]; exact hj, ?_⟩
            have c4 := c3.change hk (.lst upd_same (r.set ((ra.mono l2.f).mono l3.f) j))
            have b4 := (b.mono l).change (d' := .lst (ds.set j d)) (o := HO.lst (xs0.set j va)) c3 hk
            have hk4 : (ρ.o.set k ⟨p, nb, .lst (ds.set j d)⟩)[k]? = some ⟨p, nb, .lst (ds.set j d)⟩ := List.getElem?_set_self (List.getElem?_eq_some_iff.mp hk).1
            refine ⟨_, _, rfl, ho2 _ F3 σ c4 _ fun u2 H5 F5 l5 r5 => ha2 H5 F5 σ (c4.mono l5) _ fun w2 H6 F6 l6 r6 => ?_⟩
            cases r5
            cases r6
            have l7 := l5.trans l6
            have c7 := c4.mono l7
            obtain ⟨hf7, ho7⟩ := c7.ownAt hk4
            cases ho7 with
            | lst hp7 r7 =>
              refine ⟨p, _, i2, j2, rfl, rfl, hp7, by rw [← r7.length]; exact hj2, ?_⟩
              have rb7 := (((rb.mono l2.f).mono l3.f).mono l5.f).mono l6.f
              refine ⟨rfl, ?_⟩
              exact kk.nx _ _ F6 σ h (c7.change hk4 (.lst upd_same (r7.set rb7 j2))) ((b4.mono l7).change c7 hk4))
end

/-- one's own object, described otherwise -/
theorem cf_own {K : PySem.W.Frag} {M : List Addr} {H0 F0 B H F : Hp} {σ : L2.St} {ρ : En} {p : Addr} {nb : Bool} {d d' : D} (k : Nat) (hk : ρ.o[k]? = some ⟨p, nb, d⟩) (w : OwnOk K H F d p → OwnOk K H F d' p) (c : Cf K H F ρ σ) (b : Bs M H0 F0 B H F ρ.o) :
    Cf K H F ⟨ρ.o.set k ⟨p, nb, d'⟩, ρ.s⟩ σ ∧ Bs M H0 F0 B H F (ρ.o.set k ⟨p, nb, d'⟩) := by
  have mem : ∀ q ∈ ρ.o.set k ⟨p, nb, d'⟩, q = ⟨p, nb, d'⟩ ∨ q ∈ ρ.o := fun q hq => by
    rcases set_mem hq with z | ⟨j, _, z⟩
    · exact .inl z
    · exact .inr (List.mem_of_getElem? z)
  have ht := List.mem_of_getElem? hk
  refine ⟨⟨c.ex, c.len, c.sl, fun q hq => ?_, ?_⟩, ⟨b.h, b.f, b.fb, b.ex, b.pr, b.th, fun q hq => ?_⟩⟩
  · rcases mem q hq with z | z
    · subst z
      obtain ⟨h1, h2⟩ := c.own _ ht
      exact ⟨h1, w h2⟩
    · exact c.own q z
  · have e1 : ((ρ.o.set k ⟨p, nb, d'⟩).map Ob.p) = ρ.o.map Ob.p := by
      rw [List.map_set]
      have z : (ρ.o.map Ob.p)[k]? = some p := by rw [List.getElem?_map, hk]; rfl
      obtain ⟨hl, z2⟩ := List.getElem?_eq_some_iff.mp z
      show (ρ.o.map Ob.p).set k p = _
      exact List.ext_getElem? fun i => by
        by_cases hi : k = i
        · subst hi
          rw [List.getElem?_set_self hl, z]
        · rw [List.getElem?_set_ne hi]
    have hp := c.nd
    show (ρ.o.set k ⟨p, nb, d'⟩).Pairwise _
    rw [← List.pairwise_map (f := Ob.p) (R := fun a b => a ≠ b)] at hp ⊢
    rw [e1]
    exact hp
  · rcases mem q hq with z | z
    · subst z
      have y := b.nw _ ht
      exact y
    · exact b.nw q z
/-- items of a list that are an object, read as what it holds -/
inductive FzL (p : Addr) (d : D) : List D → List D → Prop
  | nil : FzL p d [] []
  | keep {s : D} {r q : List D} : FzL p d r q → FzL p d (s :: r) (s :: q)
  | sub {r q : List D} : FzL p d r q → FzL p d (.ref p :: r) (d :: q)
  | subT {x : D} {r q : List D} : FzL p d r q → FzL p d (.tup [x, .ref p] :: r) (.tup [x, d] :: q)
theorem FzL.refl {p : Addr} {d : D} : ∀ r : List D, FzL p d r r
  | [] => .nil
  | _ :: r => .keep (FzL.refl r)
theorem FzL.last {p : Addr} {d : D} : ∀ r : List D, FzL p d (r ++ [.ref p]) (r ++ [d])
  | [] => .sub .nil
  | _ :: r => .keep (FzL.last r)
theorem FzL.lastM {τ : Type} {p : Addr} (f : τ → D) (x : τ) (l : List τ) : FzL p (f x) (l.map f ++ [.ref p]) ((l ++ [x]).map f) := by
  rw [List.map_append]
  exact FzL.last _
theorem FzL.rep {K : PySem.W.Frag} {F : Hp} {p : Addr} {d : D} (h : Rep K F d (.ref p)) : ∀ {es es' : List D} {vs : List V}, FzL p d es es' → RepL K F es vs → RepL K F es' vs
  | _, _, _, .nil, r => r
  | _, _, _, .keep w, .cons r t => .cons r (FzL.rep h w t)
  | _, _, _, .sub w, .cons r t => by
    cases r
    exact .cons h (FzL.rep h w t)
  | _, _, _, .subT w, .cons r t => by
    cases r with
    | tup s r =>
      cases r with
      | cons ru r =>
        cases r with
        | cons rp r =>
          cases r
          cases rp
          exact .cons (.tup s (.cons ru (.cons h .nil))) (FzL.rep h w t)
theorem FzL.mid {p : Addr} {d : D} : ∀ A B : List D, FzL p d (A ++ .ref p :: B) (A ++ d :: B)
  | [], B => .sub (FzL.refl B)
  | _ :: A, B => .keep (FzL.mid A B)
theorem FzL.midT {p : Addr} {d x : D} : ∀ A B : List D, FzL p d (A ++ .tup [x, .ref p] :: B) (A ++ .tup [x, d] :: B)
  | [], B => .subT (FzL.refl B)
  | _ :: A, B => .keep (FzL.midT A B)
/-- object k stands from now on; it is an item of the list m ahead of it -/
theorem wss_fzL {X : Cx} {ρ : En} {P : Post} {sts : List Stmt} {p q : Addr} {nb : Bool} {d : D} {es es' : List D} (k m : Nat) (hk : ρ.o[k]? = some ⟨p, true, d⟩) (hm : ρ.o[m]? = some ⟨q, nb, .lst es⟩) (hmk : m < k) (w : FzL p d es es')
    (h : WSs X sts ⟨(ρ.o.eraseIdx k).set m ⟨q, nb, .lst es'⟩, ρ.s⟩ P) : WSs X sts ρ P := fun M H0 F0 B H F σ c b Dn e => by
  obtain ⟨hf, ho⟩ := c.ownAt hk
  obtain ⟨u, hu, r⟩ := ho.fz hf
  obtain ⟨c2, b2⟩ := b.fz c hk hu
  have hm2 : (ρ.o.eraseIdx k)[m]? = some ⟨q, nb, .lst es⟩ := by rw [List.getElem?_eraseIdx_of_lt hmk]; exact hm
  obtain ⟨c3, b3⟩ := cf_own (d' := .lst es') m hm2 (fun o => by
    cases o with
    | lst s t => exact .lst s (FzL.rep r w t)) c2 b2
  exact h M H0 F0 B H _ σ c3 b3 Dn e
end DL
/-! DLp: new trees (lists within tuples within lists), taken apart into objects of one's own; slices stored, insert, pop. -/
namespace DL
open PySem PySem.Spec PyProof.Rows L2
def D.leaf : D → Bool
  | .lst _ => false
  | .tup _ => false
  | _ => true
mutual
/-- a value all of whose lists are new, none of them twice; L: their addresses -/
inductive OwnT (K : PySem.W.Frag) (H F : Hp) : D → V → List Addr → Prop
  | st {d : D} {v : V} : d.leaf = true → Rep K F d v → OwnT K H F d v []
  | lst {a : Addr} {xs : List V} {ds : List D} {L : List Addr} : H a = some (.lst xs) → F a = none → OwnTL K H F ds xs L → a ∉ L → OwnT K H F (.lst ds) (.ref a) (a :: L)
  | tup {a : Addr} {xs : List V} {ds : List D} {L : List Addr} : F a = some (.tup xs) → OwnTL K H F ds xs L → OwnT K H F (.tup ds) (.ref a) L
inductive OwnTL (K : PySem.W.Frag) (H F : Hp) : List D → List V → List Addr → Prop
  | nil : OwnTL K H F [] [] []
  | cons {d : D} {v : V} {ds : List D} {vs : List V} {L M : List Addr} : OwnT K H F d v L → OwnTL K H F ds vs M → (∀ a ∈ L, a ∉ M) → OwnTL K H F (d :: ds) (v :: vs) (L ++ M)
end
section
variable {K : PySem.W.Frag} {H F H2 F2 : Hp}
mutual
theorem OwnT.there : ∀ {d : D} {v : V} {L : List Addr}, OwnT K H F d v L → ∀ a ∈ L, (∃ o, H a = some o) ∧ F a = none
  | _, _, _, .st _ _, a, h => by cases h
  | _, _, _, .lst h1 h2 t _, a, h => by
    rcases List.mem_cons.mp h with z | z
    · subst z
      exact ⟨⟨_, h1⟩, h2⟩
    · exact OwnTL.there t a z
  | _, _, _, .tup _ t, a, h => OwnTL.there t a h
theorem OwnTL.there : ∀ {ds : List D} {vs : List V} {L : List Addr}, OwnTL K H F ds vs L → ∀ a ∈ L, (∃ o, H a = some o) ∧ F a = none
  | _, _, _, .nil, a, h => by cases h
  | _, _, _, .cons t r _, a, h => by
    rcases List.mem_append.mp h with z | z
    · exact OwnT.there t a z
    · exact OwnTL.there r a z
end
mutual
theorem OwnT.up (f : Same F F2) : ∀ {d : D} {v : V} {L : List Addr}, OwnT K H F d v L → (∀ a ∈ L, F2 a = none) → (∀ a ∈ L, H2 a = H a) → OwnT K H2 F2 d v L
  | _, _, _, .st h r, _, _ => .st h (r.mono f)
  | _, _, _, .lst h1 h2 t n, g, e => .lst (by rw [e _ List.mem_cons_self]; exact h1) (g _ List.mem_cons_self) (OwnTL.up f t (fun a h => g a (List.mem_cons_of_mem _ h)) fun a h => e a (List.mem_cons_of_mem _ h)) n
  | _, _, _, .tup h t, g, e => .tup (f _ _ h) (OwnTL.up f t g e)
theorem OwnTL.up (f : Same F F2) : ∀ {ds : List D} {vs : List V} {L : List Addr}, OwnTL K H F ds vs L → (∀ a ∈ L, F2 a = none) → (∀ a ∈ L, H2 a = H a) → OwnTL K H2 F2 ds vs L
  | _, _, _, .nil, _, _ => .nil
  | _, _, _, .cons t r n, g, e => .cons (OwnT.up f t (fun a h => g a (List.mem_append_left _ h)) fun a h => e a (List.mem_append_left _ h)) (OwnTL.up f r (fun a h => g a (List.mem_append_right _ h)) fun a h => e a (List.mem_append_right _ h)) n
end
theorem OwnT.le {d : D} {v : V} {L : List Addr} (t : OwnT K H F d v L) (l : Le H F H2 F2) : OwnT K H2 F2 d v L :=
  t.up l.f (fun a h => let ⟨⟨o, e⟩, n⟩ := t.there a h; l.pr a o e n) fun a h => let ⟨⟨o, e⟩, _⟩ := t.there a h; by rw [e, l.h _ _ e]
theorem OwnTL.le {ds : List D} {vs : List V} {L : List Addr} (t : OwnTL K H F ds vs L) (l : Le H F H2 F2) : OwnTL K H2 F2 ds vs L :=
  t.up l.f (fun a h => let ⟨⟨o, e⟩, n⟩ := t.there a h; l.pr a o e n) fun a h => let ⟨⟨o, e⟩, _⟩ := t.there a h; by rw [e, l.h _ _ e]
theorem OwnTL.updH {ds : List D} {vs : List V} {L : List Addr} {p : Addr} {o : HO} (t : OwnTL K H F ds vs L) (h : p ∉ L) : OwnTL K (upd H p o) F ds vs L :=
  t.up (Same.refl F) (fun a q => (t.there a q).2) fun a q => upd_ne fun z => h (z ▸ q)
/-- what stands, more of it: but for L as before -/
structure Fzn (F F2 H : Hp) (L : List Addr) : Prop where
  f : Same F F2
  ex : Same F2 H
  o : ∀ a, a ∉ L → F2 a = F a
theorem Fzn.refl (e : Same F H) (L : List Addr) : Fzn F F H L := ⟨Same.refl F, e, fun _ _ => rfl⟩
theorem Fzn.trans {F3 : Hp} {L M : List Addr} (a : Fzn F F2 H L) (b : Fzn F2 F3 H M) : Fzn F F3 H (L ++ M) :=
  ⟨a.f.trans b.f, b.ex, fun x h => by rw [b.o x fun z => h (List.mem_append_right _ z), a.o x fun z => h (List.mem_append_left _ z)]⟩
theorem Fzn.more {L M : List Addr} (a : Fzn F F2 H L) (h : ∀ x ∈ L, x ∈ M) : Fzn F F2 H M := ⟨a.f, a.ex, fun x n => a.o x fun z => n (h x z)⟩
mutual
theorem OwnT.fz : ∀ {d : D} {v : V} {L : List Addr} {F : Hp}, OwnT K H F d v L → Same F H → ∃ F2, Fzn F F2 H L ∧ Rep K F2 d v
  | _, _, _, F, .st _ r, e => ⟨F, Fzn.refl e _, r⟩
  | _, _, _, F, .lst (a := a) (L := L) h1 h2 t n, e => by
    obtain ⟨F2, g, r⟩ := OwnTL.fz t e
    have n2 : F2 a = none := by rw [g.o a n]; exact h2
    refine ⟨upd F2 a _, ⟨g.f.trans (same_new n2), fun b o q => ?_, fun b hb => ?_⟩, .lst (.inl upd_same) (r.mono (same_new n2))⟩
    · by_cases hb : b = a
      · subst hb
        rw [upd_same] at q
        cases q
        exact h1
      · rw [upd_ne hb] at q
        exact g.ex b o q
    · have hba : b ≠ a := fun z => hb (z ▸ List.mem_cons_self)
      rw [upd_ne hba]
      exact g.o b fun z => hb (List.mem_cons_of_mem _ z)
  | _, _, _, F, .tup h t, e => by
    obtain ⟨F2, g, r⟩ := OwnTL.fz t e
    exact ⟨F2, g, .tup (g.f _ _ h) r⟩
theorem OwnTL.fz : ∀ {ds : List D} {vs : List V} {L : List Addr} {F : Hp}, OwnTL K H F ds vs L → Same F H → ∃ F2, Fzn F F2 H L ∧ RepL K F2 ds vs
  | _, _, _, F, .nil, e => ⟨F, Fzn.refl e _, .nil⟩
  | _, _, _, F, .cons (L := L) (M := M) t r n, e => by
    obtain ⟨F2, g, q⟩ := OwnT.fz t e
    have r2 : OwnTL K H F2 _ _ M := r.up g.f (fun a h => by rw [g.o a fun z => n a z h]; exact (r.there a h).2) fun _ _ => rfl
    obtain ⟨F3, g2, q2⟩ := OwnTL.fz r2 g.ex
    exact ⟨F3, g.trans g2, .cons (q.mono g2.f) q2⟩
end
theorem OwnTL.split : ∀ {A B : List D} {vs : List V} {L : List Addr}, OwnTL K H F (A ++ B) vs L → ∃ va vb La Lb, vs = va ++ vb ∧ L = La ++ Lb ∧ OwnTL K H F A va La ∧ OwnTL K H F B vb Lb ∧ ∀ a ∈ La, a ∉ Lb
  | [], B, vs, L, t => ⟨[], vs, [], L, rfl, rfl, .nil, t, fun _ h => by cases h⟩
  | d :: A, B, _, _, t => by
    cases t with
    | cons t r n =>
      obtain ⟨va, vb, La, Lb, rfl, rfl, h1, h2, h3⟩ := OwnTL.split r
      refine ⟨_ :: va, vb, _ ++ La, Lb, rfl, (List.append_assoc ..).symm, .cons t h1 (fun a h z => n a h (List.mem_append_left _ z)), h2, fun a h => ?_⟩
      rcases List.mem_append.mp h with z | z
      · exact fun y => n a z (List.mem_append_right _ y)
      · exact h3 a z
theorem OwnTL.app : ∀ {A B : List D} {va vb : List V} {La Lb : List Addr}, OwnTL K H F A va La → OwnTL K H F B vb Lb → (∀ a ∈ La, a ∉ Lb) → OwnTL K H F (A ++ B) (va ++ vb) (La ++ Lb)
  | [], B, _, vb, _, Lb, .nil, t, _ => t
  | d :: A, B, _, vb, _, Lb, .cons t r n, t2, h => by
    rw [List.append_assoc]
    refine .cons t (OwnTL.app r t2 fun a z => h a (List.mem_append_right _ z)) fun a z => ?_
    rw [List.mem_append]
    rintro (y | y)
    · exact n a z y
    · exact h a (List.mem_append_left _ z) y
theorem OwnTL.keep {A : List D} {va : List V} {La M : List Addr} (t : OwnTL K H F A va La) (g : Fzn F F2 H M) (h : ∀ a ∈ La, a ∉ M) : OwnTL K H F2 A va La :=
  t.up g.f (fun a q => by rw [g.o a (h a q)]; exact (t.there a q).2) fun _ _ => rfl
theorem OwnT.keep {d : D} {v : V} {La M : List Addr} (t : OwnT K H F d v La) (g : Fzn F F2 H M) (h : ∀ a ∈ La, a ∉ M) : OwnT K H F2 d v La :=
  t.up g.f (fun a q => by rw [g.o a (h a q)]; exact (t.there a q).2) fun _ _ => rfl
/-- one item of a new list is taken out, those ahead of it stand -/
theorem OwnTL.take {A B : List D} {d : D} {vs : List V} {L : List Addr} (t : OwnTL K H F (A ++ d :: B) vs L) (e : Same F H) : ∃ F2 va v vb L1 L2 L3, vs = va ++ v :: vb ∧ L = L1 ++ (L2 ++ L3) ∧ Fzn F F2 H L1 ∧ RepL K F2 A va ∧ OwnT K H F2 d v L2 ∧ OwnTL K H F2 B vb L3 ∧
    (∀ a ∈ L1, a ∉ L2 ++ L3) ∧ ∀ a ∈ L2, a ∉ L3 := by
  obtain ⟨va, vb, La, Lb, rfl, rfl, h1, h2, h3⟩ := OwnTL.split t
  cases h2 with
  | @cons _ v _ vb L2 L3 t2 r n =>
    obtain ⟨F2, g, q⟩ := h1.fz e
    exact ⟨F2, va, v, vb, La, L2, L3, rfl, rfl, g, q, t2.keep g fun a z y => h3 a y (List.mem_append_left _ z), r.keep g fun a z y => h3 a y (List.mem_append_right _ z), h3, n⟩

/-- books: one is taken out; the lists of its second thing are new still -/
theorem thaw0 {As Bs Xs : List D} {d1 : D} {v : V} {L : List Addr} (t : OwnT K H F (.lst (As ++ .tup [d1, .lst Xs] :: Bs)) v L) (e : Same F H) : ∃ p q F4 M Lc zs, v = .ref p ∧ Fzn F F4 H M ∧ (∀ a ∈ M, a ∈ L) ∧ (∀ a ∈ Lc, a ∈ L) ∧ p ∈ L ∧ q ∈ L ∧ p ≠ q ∧ p ∉ M ∧ q ∉ M ∧ p ∉ Lc ∧ q ∉ Lc ∧
    F4 p = none ∧ F4 q = none ∧ OwnOk K H F4 (.lst (As ++ .tup [d1, .ref q] :: Bs)) p ∧ H q = some (.lst zs) ∧ OwnTL K H F4 Xs zs Lc := by
  cases t with
  | st h _ => cases h
  | @lst p xs _ L' hp fp t pn =>
    obtain ⟨F2, va, v1, vb, L1, L2, L3, rfl, rfl, g2, rA, t1, tB, n1, n2⟩ := t.take e
    obtain ⟨F3, g3, rB⟩ := tB.fz g2.ex
    have t1 := t1.keep g3 n2
    cases t1 with
    | st h _ => cases h
    | @tup tt ys _ _ ht t1 =>
      cases t1 with
      | @cons _ u1 _ _ La Lb' ta tb n3 =>
        cases tb with
        | @cons _ u2 _ _ Lb Le tb te n4 =>
          cases te
          obtain ⟨F4, g4, rd⟩ := ta.fz g3.ex
          rw [List.append_nil] at n1 n2 n3 pn
          have tb := tb.keep g4 fun a z y => n3 a y z
          cases tb with
          | st h _ => cases h
          | @lst q zs _ Lc hq fq tq qn =>
            have g := (g2.trans g3).trans g4
            have hM : ∀ a ∈ L1 ++ L3 ++ La, a ∈ L1 ++ (La ++ q :: Lc ++ L3) := fun a h => by
              simp only [List.mem_append, List.mem_cons] at h ⊢
              rcases h with (h | h) | h
              · exact .inl h
              · exact .inr (.inr h)
              · exact .inr (.inl (.inl h))
            have hq' : q ∈ L1 ++ (La ++ q :: Lc ++ L3) := by simp
            have pM : p ∉ L1 ++ L3 ++ La := fun z => pn (hM p z)
            have pq : p ≠ q := fun z => pn (z ▸ hq')
            have qM : q ∉ L1 ++ L3 ++ La := fun z => by
              simp only [List.mem_append] at z
              rcases z with (z | z) | z
              · exact n1 q z (by simp)
              · exact n2 q (by simp) z
              · exact n3 q z (by simp)
            have hLc : ∀ a ∈ Lc, a ∈ L1 ++ (La ++ q :: Lc ++ L3) := fun a h => by
              simp only [List.mem_append, List.mem_cons]
              exact .inr (.inl (.inr (.inr h)))
            refine ⟨p, q, F4, L1 ++ L3 ++ La, Lc, zs, rfl, g, fun a h => List.mem_cons_of_mem _ (by rw [List.append_nil]; exact hM a h), fun a h => List.mem_cons_of_mem _ (by rw [List.append_nil]; exact hLc a h), List.mem_cons_self, List.mem_cons_of_mem _ (by rw [List.append_nil]; exact hq'), pq, pM, qM, fun z => pn (hLc p z), qn, ?_, fq, ?_, hq, tq⟩
            · rw [g.o p pM]; exact fp
            · refine .lst hp (((rA.mono g3.f).mono g4.f).append (.cons (.tup (g4.f _ _ ht) (.cons rd (.cons (.ref q) .nil))) (rB.mono g4.f)))
/-- .. one list of these -/
theorem thaw1 {As Bs Cs Es xs : List D} {d1 : D} {v : V} {L : List Addr} (t : OwnT K H F (.lst (As ++ .tup [d1, .lst (Cs ++ .lst xs :: Es)] :: Bs)) v L) (e : Same F H) : ∃ p q r F2, v = .ref p ∧ Fzn F F2 H L ∧ p ∈ L ∧ q ∈ L ∧ r ∈ L ∧ p ≠ q ∧ p ≠ r ∧ q ≠ r ∧
    F2 p = none ∧ F2 q = none ∧ F2 r = none ∧ OwnOk K H F2 (.lst (As ++ .tup [d1, .ref q] :: Bs)) p ∧ OwnOk K H F2 (.lst (Cs ++ .ref r :: Es)) q ∧ OwnOk K H F2 (.lst xs) r := by
  obtain ⟨p, q, F4, M, Lc, zs, rfl, g4, hM, hLc, hp, hq, pq, pM, qM, pc, qc, f4p, f4q, op, oq, tq⟩ := thaw0 t e
  obtain ⟨F5, vc, w1, ve, L1, L2, L3, rfl, rfl, g5, rC, t1, tE, n1, n2⟩ := tq.take g4.ex
  obtain ⟨F6, g6, rE⟩ := tE.fz g5.ex
  have t1 := t1.keep g6 n2
  cases t1 with
  | st h _ => cases h
  | @lst r is _ Li hr fr ti rn =>
    obtain ⟨F7, g7, ri⟩ := ti.fz g6.ex
    have g57 := (g5.trans g6).trans g7
    have hS : ∀ a ∈ L1 ++ L3 ++ Li, a ∈ L1 ++ (r :: Li ++ L3) := fun a h => by
      simp only [List.mem_append, List.mem_cons] at h ⊢
      rcases h with (h | h) | h
      · exact .inl h
      · exact .inr (.inr h)
      · exact .inr (.inl (.inr h))
    have hr' : r ∈ L1 ++ (r :: Li ++ L3) := by simp
    have rS : r ∉ L1 ++ L3 ++ Li := fun z => by
      simp only [List.mem_append] at z
      rcases z with (z | z) | z
      · exact n1 r z (by simp)
      · exact n2 r (by simp) z
      · exact rn z
    refine ⟨p, q, r, F7, rfl, (g4.trans g57).more (fun a h => ?_), hp, hq, hLc r hr', pq, fun z => pc (z ▸ hr'), fun z => qc (z ▸ hr'), ?_, ?_, ?_, op.mono rfl g57.f, ?_, ?_⟩
    · rcases List.mem_append.mp h with z | z
      · exact hM a z
      · exact hLc a (hS a z)
    · rw [g57.o p fun z => pc (hS p z)]; exact f4p
    · rw [g57.o q fun z => qc (hS q z)]; exact f4q
    · rw [g7.o r rn]; exact fr
    · exact .lst oq (((rC.mono g6.f).mono g7.f).append (.cons (.ref r) (rE.mono g7.f)))
    · exact .lst hr ri
/-- .. two lists of these, side by side -/
theorem thaw2 {As Bs Cs Es xs ys : List D} {d1 : D} {v : V} {L : List Addr} (t : OwnT K H F (.lst (As ++ .tup [d1, .lst (Cs ++ .lst xs :: .lst ys :: Es)] :: Bs)) v L) (e : Same F H) : ∃ p q r r2 F2, v = .ref p ∧ Fzn F F2 H L ∧ p ∈ L ∧ q ∈ L ∧ r ∈ L ∧ r2 ∈ L ∧ p ≠ q ∧ p ≠ r ∧ q ≠ r ∧ p ≠ r2 ∧ q ≠ r2 ∧ r ≠ r2 ∧
    F2 p = none ∧ F2 q = none ∧ F2 r = none ∧ F2 r2 = none ∧ OwnOk K H F2 (.lst (As ++ .tup [d1, .ref q] :: Bs)) p ∧ OwnOk K H F2 (.lst (Cs ++ .ref r :: .ref r2 :: Es)) q ∧ OwnOk K H F2 (.lst xs) r ∧ OwnOk K H F2 (.lst ys) r2 := by
  obtain ⟨p, q, F4, M, Lc, zs, rfl, g4, hM, hLc, hp, hq, pq, pM, qM, pc, qc, f4p, f4q, op, oq, tq⟩ := thaw0 t e
  obtain ⟨F5, vc, w1, ve, L1, L2, L3, rfl, rfl, g5, rC, t1, tE, n1, n2⟩ := tq.take g4.ex
  cases t1 with
  | st h _ => cases h
  | @lst r is _ Li hr fr ti rn =>
    obtain ⟨F6, g6, ri⟩ := ti.fz g5.ex
    have tE := tE.keep g6 fun a z y => n2 a (List.mem_cons_of_mem _ y) z
    cases tE with
    | @cons _ w2 _ ve L4 L5 t2 tE2 n5 =>
      cases t2 with
      | st h _ => cases h
      | @lst r2 is2 _ Lj hr2 fr2 tj rn2 =>
        obtain ⟨F7, g7, rj⟩ := tj.fz g6.ex
        have tE3 := tE2.keep g7 fun a z y => n5 a (List.mem_cons_of_mem _ y) z
        obtain ⟨F8, g8, rE⟩ := tE3.fz g7.ex
        have g58 := ((g5.trans g6).trans g7).trans g8
        have hS : ∀ a ∈ L1 ++ Li ++ Lj ++ L5, a ∈ L1 ++ (r :: Li ++ (r2 :: Lj ++ L5)) := fun a h => by
          simp only [List.mem_append, List.mem_cons] at h ⊢
          rcases h with ((h | h) | h) | h
          · exact .inl h
          · exact .inr (.inl (.inr h))
          · exact .inr (.inr (.inl (.inr h)))
          · exact .inr (.inr (.inr h))
        have hr' : r ∈ L1 ++ (r :: Li ++ (r2 :: Lj ++ L5)) := by simp
        have hr2' : r2 ∈ L1 ++ (r :: Li ++ (r2 :: Lj ++ L5)) := by simp
        have rS : r ∉ L1 ++ Li ++ Lj ++ L5 := fun z => by
          simp only [List.mem_append] at z
          rcases z with ((z | z) | z) | z
          · exact n1 r z (by simp)
          · exact rn z
          · exact n2 r (by simp) (by simp [z])
          · exact n2 r (by simp) (by simp [z])
        have r2S : r2 ∉ L1 ++ Li ++ Lj ++ L5 := fun z => by
          simp only [List.mem_append] at z
          rcases z with ((z | z) | z) | z
          · exact n1 r2 z (by simp)
          · exact n2 r2 (by simp [z]) (by simp)
          · exact rn2 z
          · exact n5 r2 (by simp) z
        have rr : r ≠ r2 := fun z => n2 r (by simp) (by simp [z])
        have n7 : ∀ a ∈ L1 ++ Li ++ Lj ++ L5, a ∉ L1 ++ Li ++ Lj ++ L5 → False := fun a h n => n h
        refine ⟨p, q, r, r2, F8, rfl, (g4.trans g58).more (fun a h => ?_), hp, hq, hLc r hr', hLc r2 hr2', pq, fun z => pc (z ▸ hr'), fun z => qc (z ▸ hr'), fun z => pc (z ▸ hr2'), fun z => qc (z ▸ hr2'), rr, ?_, ?_, ?_, ?_, op.mono rfl g58.f, ?_, ?_, ?_⟩
        · rcases List.mem_append.mp h with z | z
          · exact hM a z
          · exact hLc a (hS a z)
        · rw [g58.o p fun z => pc (hS p z)]; exact f4p
        · rw [g58.o q fun z => qc (hS q z)]; exact f4q
        · rw [g8.o r fun z => rS (by simp [z]), g7.o r fun z => rS (by simp [z]), g6.o r rn]; exact fr
        · rw [g8.o r2 fun z => r2S (by simp [z]), g7.o r2 rn2]; exact fr2
        · exact .lst oq ((((rC.mono g6.f).mono g7.f).mono g8.f).append (.cons (.ref r) (.cons (.ref r2) rE)))
        · exact .lst hr ((ri.mono g7.f).mono g8.f)
        · exact .lst hr2 (rj.mono g8.f)
end
end DL
/-! DLq: new trees as values; slices stored; insert, pop. -/
namespace DL
open PySem PySem.Spec PyProof.Rows L2
/-- a new tree -/
def WU (X : Cx) (e : Expr) (ρ : En) (d : D) : Prop := ∀ (H F : Hp) (σ : L2.St), Cf X.K H F ρ σ → ∀ Q : VK, (∀ v H' F' L, Le H F H' F' → OwnT X.K H' F' d v L → (∀ a ∈ L, H a = none) → Q v H') → sE X e σ H Q
def spT (K : PySem.W.Frag) (R : List D → D → Prop) : Sp := fun vs H Q _ => ∃ (F : Hp) (ds : List D) (d : D), Same F H ∧ RepL K F ds vs ∧ R ds d ∧ ∀ v H' F' L, Le H F H' F' → OwnT K H' F' d v L → (∀ a ∈ L, H a = none) → Q v H'
section
variable {X : Cx} {e a b : Expr} {es : List Expr} {ρ : En} {d d1 d2 : D} {pos p' : Pos} {x : Str} {k : Nat} {R : List D → D → Prop} {ds : List D}
theorem wu_we (h : WE X e ρ d) (hl : d.leaf = true) : WU X e ρ d := fun H F σ c Q q => h H F σ c Q fun v H' F' l r => q v H' F' [] l (.st hl r) fun a z => by cases z
theorem leafs {K : PySem.W.Frag} {H F : Hp} : ∀ {ds : List D} {vs : List V}, RepL K F ds vs → ds.all D.leaf = true → OwnTL K H F ds vs []
  | _, _, .nil, _ => .nil
  | _, _, .cons r t, h => by
    rw [List.all_cons, Bool.and_eq_true] at h
    exact .cons (.st h.1 r) (leafs t h.2) fun a z => by cases z
theorem wu_wn (h : WN X e ρ (.lst ds)) (hl : ds.all D.leaf = true) : WU X e ρ (.lst ds) := fun H F σ c Q q => h H F σ c Q fun p H' F' l hn hf o => by
  cases o with
  | lst hp r => exact q _ H' F' [p] l (.lst hp hf (leafs r hl) (by simp)) fun a z => by rw [List.mem_singleton.mp z]; exact hn
theorem wu_tup2 {kk : Nat} (ha : WE X a ρ d1) (hl : d1.leaf = true) (hb : WU X b ρ d2) (he : starEach [a, b] X.env = (false, eval a X.env) :: starEach [b] X.env := by rfl) (he2 : starEach [b] X.env = (false, eval b X.env) :: starEach [] X.env := by rfl) : WU X (.Tuple [a, b] kk pos) ρ (.tup [d1, d2]) :=
  fun H F σ c Q q => pe_to (pe_tup (pa_cons pe_s (pa_cons pe_s pa_nil he2) he)) (ha H F σ c _ fun u H1 F1 l1 r1 => hb H1 F1 σ (c.mono l1) _ fun v H2 F2 L l2 t hn => by
    refine ⟨by show 2 ≤ sizeLine; decide, fun p hp => ?_⟩
    have l := (l1.trans l2).trans (Le.new l2.ex hp (o := .tup [u, v]))
    have t2 : OwnT X.K (upd H2 p (.tup [u, v])) (upd F2 p (.tup [u, v])) d2 v L := t.le (Le.new l2.ex hp)
    have r2 : Rep X.K (upd F2 p (.tup [u, v])) d1 u := (r1.mono l2.f).mono (same_new (l2.ex.free hp))
    refine q (.ref p) _ _ ([] ++ (L ++ [])) l (.tup upd_same (.cons (.st hl r2) (.cons t2 .nil fun a _ z => by cases z) fun a z => by cases z)) fun a h => ?_
    have : a ∈ L := by simpa using h
    exact l1.h.free (hn a this))
theorem wu_call (kn : Kn X.prog X.w X.K X.mg X.base x k [] (spT X.K R)) (hr : Room k X.A) (ha : WA X (e :: es) ρ ds) (hR : R ds d) (hg : Gl X x := by rfl) (hdb : (x == ("__debug__" : Str)) = false := by decide) (he : starEach (e :: es) X.env = (false, eval e X.env) :: starEach es X.env := by rfl) (hpl : (backTo pos (starEach es X.env)).any (·.1) = false := by rfl) :
    WU X (.Call (.Name x p') (e :: es) [] pos) ρ d := by
  obtain ⟨f, fd, ps, dws, hm, hk, hb, hd, F0⟩ := kn.ex
  exact fun H F σ c Q q => pe_to (pe_call F0 hr hg hm hk hb hd pass0 pa_s hdb he hpl) (ha H F σ c _ fun vs H1 F1 l1 r1 => by
    rw [List.append_nil]
    exact ⟨F1, ds, d, l1.ex, r1, hR, fun v H' F' L l t n => q v H' F' L (l1.trans l) t fun a h => l1.h.free (n a h)⟩)
end
/-- an item's turn that makes a new tree -/
structure EltT (X : Cx) (scope : Scope) (tg elt : Expr) (ρ : En) (vs : List Nat) (d : D) (out : D) : Prop where
  ex : ∃ sets : List (Nat × D), (sets.all fun q => vs.contains q.1) = true ∧ (∀ s H0 C cl fp, WG (bX X scope s H0 C cl fp) tg d sets) ∧ ∀ s H0 C cl fp, WU (bX X scope s H0 C cl fp) elt ⟨ρ.o, putρ (wipeρ ρ.s vs) sets⟩ out
section
variable {X : Cx} {ρ : En} {tg iter elt : Expr} {pos : Pos} {scope : Scope}
theorem wu_lc {τ : Type} {l : List τ} {enc : τ → D} {f : τ → D} {own : List (Str × Nat)} (hw : WIo X tg iter ρ (l.map enc)) (hl : l.length < sizeLine) (ok : blkC X.N X.env.scope scope own = true)
    (hb : ∀ x ∈ l, EltT X scope tg elt ρ (own.map (·.2)) (enc x) (f x)) (hN : X.N.Nodup) (hc : X.calm = true := by rfl) (hs : ∀ x, foldedSetIterable iter X.env x = pure x := by intro _; rfl) :
    WU X (.ListComp elt [⟨tg, iter, [], 0⟩] scope pos) ρ (.lst (l.map f)) := fun H F σ c Q q => by
  obtain ⟨wi, pi, hwi⟩ := hw
  refine pe_to (pe_lc (tt := tYes) (g := bG X scope tg) (te := bE X scope elt) hc hN pi (blkOk_by ok) (fun s H C cl fp => ⟨fun pins s' _ _ _ u _ I r h => h s H C cl fp pins s' u I r⟩) (fun _ _ _ _ _ => pts_nil) (fun s H C cl fp => ⟨fun pins s' _ _ _ I h => h s H C cl fp pins s' I⟩) hs) ?_
  refine hwi H F σ c _ fun J H1 F1 l1 it D0 hD => ?_
  have c1 := c.mono l1
  have hF1 : F1 D0 = none := l1.ex.free hD
  let St := fun (i : Nat) (H : Hp) => ∃ F' acc L, Same H1 H ∧ Le H1 F1 H F' ∧ H D0 = some (.lst acc) ∧ F' D0 = none ∧ OwnTL X.K H F' ((l.take i).map f) acc L ∧ (∀ a ∈ L, H1 a = none ∧ a ≠ D0)
  refine ⟨fun i m H => i + m = l.length ∧ St i H, ⟨l.length, by simp, F1, [], [], same_new hD, Le.newO l1.ex hD, upd_same, hF1, .nil, fun a h => by cases h⟩, ?_⟩
  rintro i m H2 ⟨em, F2, acc, L, s2, l2, d2, f2, r2, hL⟩
  by_cases hi : i < l.length
  · have hx := List.getElem?_eq_getElem hi
    obtain ⟨e1, e2⟩ := take_cons hx
    obtain ⟨sets, hs, hg, he⟩ := (hb _ (List.getElem_mem hi)).ex
    refine .inr ⟨it.go i H2 s2 (by rw [List.length_map]; exact hi), St (i + 1), fun H' n => ⟨m - 1, by omega, by omega, n⟩, fun x H3 y => ?_⟩
    have hd : (l.map enc)[i]? = some (enc l[i]) := by rw [List.getElem?_map, hx]; rfl
    obtain ⟨F3, l3, r3⟩ := it.yld i H2 F2 x H3 _ s2 l2.f l2.ex hd y
    intro s H0 C cl fp
    have l13 := l2.trans l3
    have c3 := (c1.mono l13).wipe (own.map (·.2))
    obtain ⟨ws, rs, qg⟩ := hg s H0 C cl fp H3 F3 (L2.wipe σ (own.map (·.2))) x l3.ex r3
    have c4 := Cf.put _ _ _ _ rs c3
    refine qg _ ⟨?_, ?_⟩
    · rw [wipe_put (rs.keys hs), wipe_wipe]
    · show bE X scope elt _ H3 _
      intro s5 H5 C5 cl5 fp5
      have d3 : H3 D0 = some (.lst acc) := l3.h _ _ d2
      have f3 : F3 D0 = none := l3.pr _ _ d2 f2
      have r3' := r2.le l3
      refine he s5 H5 C5 cl5 fp5 H3 F3 _ c4 _ fun v H6 F6 L6 l6 t6 n6 => ?_
      have d6 : H6 D0 = some (.lst acc) := l6.h _ _ d3
      have f6 : F6 D0 = none := l6.pr _ _ d3 f3
      have r6 := r3'.le l6
      have hlen : acc.length < sizeLine := by
        have : ∀ {ds : List D} {vs : List V} {M : List Addr}, OwnTL X.K H6 F6 ds vs M → ds.length = vs.length := by
          intro ds
          induction ds with
          | nil => intro vs M t; cases t; rfl
          | cons d ds ih =>
            intro vs M t
            cases t with
            | cons _ r _ => rw [List.length_cons, List.length_cons, ih r]
        rw [← this r6, List.length_map, List.length_take]
        omega
      have dis : ∀ a ∈ L6, a ∉ L := fun a h z => by
        obtain ⟨⟨o, ho⟩, _⟩ := r3'.there a z
        rw [n6 a h] at ho
        cases ho
      have l16 := l13.trans l6
      have n0 : ∀ a ∈ L ++ L6, H1 a = none ∧ a ≠ D0 := fun a h => by
        rcases List.mem_append.mp h with z | z
        · exact hL a z
        · refine ⟨l13.h.free (n6 a z), fun y => ?_⟩
          rw [y, ] at z
          have := n6 D0 z
          rw [d3] at this
          cases this
      refine ⟨acc, d6, hlen, F6, acc ++ [v], L ++ L6, same_mut l16.h hD, ⟨same_mut l16.h hD, l16.f, same_mut l16.ex f6, l16.pr⟩, upd_same, f6, ?_, n0⟩
      rw [e2, List.map_append]
      have one : OwnTL X.K H6 F6 [f l[i]] [v] L6 := by
        have := OwnTL.cons t6 .nil fun a _ z => by cases z
        rwa [List.append_nil] at this
      exact (r6.app one fun a h z => dis a z h).updH fun z => (n0 D0 z).2 rfl
  · have e : i = l.length := by omega
    subst e
    rw [List.take_length] at r2
    refine .inl ⟨it.stop _ H2 s2 (by rw [List.length_map]; exact Nat.le_refl _), q (.ref D0) H2 F2 (D0 :: L) (l1.trans l2) (.lst d2 f2 r2 fun z => (hL D0 z).2 rfl) fun a h => ?_⟩
    rcases List.mem_cons.mp h with z | z
    · rw [z]; exact l1.h.free hD
    · exact l1.h.free (hL a z).1
theorem eltT_mk {vs : List Nat} {d out out' : D} (sets : List (Nat × D)) (hg : ∀ s H0 C cl fp, WG (bX X scope s H0 C cl fp) tg d sets) (hs : (sets.all fun q => vs.contains q.1) = true) (he : ∀ s H0 C cl fp, WU (bX X scope s H0 C cl fp) elt ⟨ρ.o, putρ (wipeρ ρ.s vs) sets⟩ out') (e : out' = out) : EltT X scope tg elt ρ vs d out := ⟨⟨sets, hs, hg, e ▸ he⟩⟩
end

section
variable {P : Program} {w : World} {K : PySem.W.Frag} {mg : Str → Option Value} {base : Heap} {x qual : Str} {params : Arguments} {e : Expr} {pos : Pos} {scope : Scope} {dvs : List V} {kws : List (Str × V)} {f : Addr} {fd : FuncData} {N ps : List Str} {k : Nat} {R : List D → D → Prop}
/-- a def whose body is: return a new tree -/
theorem fn_okT {body : List Stmt} (F : FunD K x qual params body scope dvs kws f fd) (S : FnScope N ps scope) (len : ∀ ds d, R ds d → ds.length = ps.length) (hbody : body = [.Return (some e) pos])
    (h : ∀ (cdv : Value) (A : Around) (outer : List Env) (s : Shared) (H : Hp) (E : XK), Room k (A.deeper (envOfC qual scope s.heap.objs.size f cdv)) → ∀ ds d, R ds d →
      WU (cxN P w K mg base N qual scope f cdv A outer s H E) e ⟨[], startρ N ds⟩ d) : FnOk P w K mg base CX0 (k + 1) f fd ps (spT K R) := by
  subst hbody
  refine F.ok S (fun vs H Q E hs => ?_) (fun cdv A outer s H vs Q E hr hs => ⟨sSs _ _, PSs.nox pss_s, ?_⟩)
  · obtain ⟨F, ds, d, _, r, hR, _⟩ := hs
    rw [← r.length]
    exact len ds d hR
  · obtain ⟨F, ds, d, e', r, hR, q⟩ := hs
    exact pss_to (pss_one (ps_ret pe_s)) (h cdv A outer s H E hr ds d hR H F _ (cf_start e' r) _ fun v H1 F1 L l t n => q v H1 F1 L l t n)
end
section
variable {X : Cx} {ρ : En} {P : Post} {e : Expr} {pos p' : Pos} {x : Str} {d d1 : D}
theorem le_fzn {H F H1 F1 F2 : Hp} {L : List Addr} (l : Le H F H1 F1) (g : Fzn F1 F2 H1 L) (n : ∀ a ∈ L, H a = none) : Le H F H1 F2 :=
  ⟨l.h, l.f.trans g.f, g.ex, fun p o q z => by
    rw [g.o p fun y => by rw [n p y] at q; cases q]
    exact l.pr p o q z⟩
theorem own_ne {K : PySem.W.Frag} {H F : Hp} {ρ : En} {σ : L2.St} (c : Cf K H F ρ σ) {p : Addr} (n : H p = none) : ∀ q ∈ ρ.o, q.p ≠ p := fun q hq z => by
  obtain ⟨u, hu⟩ := (c.own q hq).2.there
  rw [z, n] at hu
  cases hu
/-- name = a new tree, one of its lists' lists an object of one's own -/
theorem ws_asgT1 {As Bs Cs Es xs : List D} (i : Nat) (he : WU X e ρ d) (hd : d = .lst (As ++ .tup [d1, .lst (Cs ++ .lst xs :: Es)] :: Bs))
    (h : ∀ p q r : Addr, P.nx ⟨ρ.o ++ [Ob.mk p true (.lst (As ++ .tup [d1, .ref q] :: Bs))] ++ [Ob.mk q true (.lst (Cs ++ .ref r :: Es))] ++ [Ob.mk r true (.lst xs)], ρ.s.set i (some (.ref p))⟩) (hN : X.N.Nodup) (hi : X.N[i]? = some x) (hx : Loc X.env.scope x) (hs : swapsWith e (some (.Name x p')) pos.line X.env = pure false := by rfl)
    (hf : X.fn x = true ∨ X.env.scope.names.lookup x = some .local := by first | exact .inl rfl | exact .inr rfl) : WS X (.Assign [.Name x p'] e pos) ρ P := fun M H0 F0 B H F σ c b Dn k =>
  ps_to (ps_set hN hi hx pe_s hs hf) (he H F σ c _ fun v H1 F1 L l t n => by
    subst hd
    obtain ⟨p, q, r, F2, rfl, g, hp, hq, hr, pq, pr, qr, np, nq, nr, op, oq, or⟩ := thaw1 t l.ex
    have l2 := le_fzn l g n
    have c1 := (c.mono l2).addO (b := true) np op (own_ne c (n p hp))
    have b1 := (b.mono l2).addO (d := .lst (As ++ .tup [d1, .ref q] :: Bs)) (b.free (n p hp))
    have c2 := c1.addO (b := true) nq oq fun y hy => by
      rcases List.mem_append.mp hy with z | z
      · exact own_ne c (n q hq) y z
      · rw [List.mem_singleton.mp z]; exact pq
    have b2 := b1.addO (d := .lst (Cs ++ .ref r :: Es)) (b.free (n q hq))
    have c3 := c2.addO (b := true) nr or fun y hy => by
      rcases List.mem_append.mp hy with z | z
      · rcases List.mem_append.mp z with z | z
        · exact own_ne c (n r hr) y z
        · rw [List.mem_singleton.mp z]; exact pr
      · rw [List.mem_singleton.mp z]; exact qr
    have b3 := b2.addO (d := .lst xs) (b.free (n r hr))
    exact k.nx _ H1 F2 _ (h p q r) (c3.setF i (.ref p)) b3)
/-- .. two of them, side by side -/
theorem ws_asgT2 {As Bs Cs Es xs ys : List D} (i : Nat) (he : WU X e ρ d) (hd : d = .lst (As ++ .tup [d1, .lst (Cs ++ .lst xs :: .lst ys :: Es)] :: Bs))
    (h : ∀ p q r r2 : Addr, P.nx ⟨ρ.o ++ [Ob.mk p true (.lst (As ++ .tup [d1, .ref q] :: Bs))] ++ [Ob.mk q true (.lst (Cs ++ .ref r :: .ref r2 :: Es))] ++ [Ob.mk r true (.lst xs)] ++ [Ob.mk r2 true (.lst ys)], ρ.s.set i (some (.ref p))⟩) (hN : X.N.Nodup) (hi : X.N[i]? = some x) (hx : Loc X.env.scope x) (hs : swapsWith e (some (.Name x p')) pos.line X.env = pure false := by rfl)
    (hf : X.fn x = true ∨ X.env.scope.names.lookup x = some .local := by first | exact .inl rfl | exact .inr rfl) : WS X (.Assign [.Name x p'] e pos) ρ P := fun M H0 F0 B H F σ c b Dn k =>
  ps_to (ps_set hN hi hx pe_s hs hf) (he H F σ c _ fun v H1 F1 L l t n => by
    subst hd
    obtain ⟨p, q, r, r2, F2, rfl, g, hp, hq, hr, hr2, pq, pr, qr, pr2, qr2, rr2, np, nq, nr, nr2, op, oq, or, or2⟩ := thaw2 t l.ex
    have l2 := le_fzn l g n
    have c1 := (c.mono l2).addO (b := true) np op (own_ne c (n p hp))
    have b1 := (b.mono l2).addO (d := .lst (As ++ .tup [d1, .ref q] :: Bs)) (b.free (n p hp))
    have c2 := c1.addO (b := true) nq oq fun y hy => by
      rcases List.mem_append.mp hy with z | z
      · exact own_ne c (n q hq) y z
      · rw [List.mem_singleton.mp z]; exact pq
    have b2 := b1.addO (d := .lst (Cs ++ .ref r :: .ref r2 :: Es)) (b.free (n q hq))
    have c3 := c2.addO (b := true) nr or fun y hy => by
      rcases List.mem_append.mp hy with z | z
      · rcases List.mem_append.mp z with z | z
        · exact own_ne c (n r hr) y z
        · rw [List.mem_singleton.mp z]; exact pr
      · rw [List.mem_singleton.mp z]; exact qr
    have b3 := b2.addO (d := .lst xs) (b.free (n r hr))
    have c4 := c3.addO (b := true) nr2 or2 fun y hy => by
      rcases List.mem_append.mp hy with z | z
      · rcases List.mem_append.mp z with z | z
        · rcases List.mem_append.mp z with z | z
          · exact own_ne c (n r2 hr2) y z
          · rw [List.mem_singleton.mp z]; exact pr2
        · rw [List.mem_singleton.mp z]; exact qr2
      · rw [List.mem_singleton.mp z]; exact rr2
    have b4 := b3.addO (d := .lst ys) (b.free (n r2 hr2))
    exact k.nx _ H1 F2 _ (h p q r r2) (c4.setF i (.ref p)) b4)
end
section
variable {X : Cx} {ρ : En} {P : Post} {e : Expr} {pos p' : Pos} {x : Str} {ds : List D}
theorem wn_wu (h : WU X e ρ (.lst ds)) : WN X e ρ (.lst ds) := fun H F σ c Q q => h H F σ c Q fun v H1 F1 L l t n => by
  cases t with
  | st h _ => cases h
  | @lst p xs _ L' hp fp t pn =>
    obtain ⟨F2, g, r⟩ := t.fz l.ex
    exact q p H1 F2 (le_fzn l g fun a h => n a (List.mem_cons_of_mem _ h)) (n p List.mem_cons_self) (by rw [g.o p pn]; exact fp) (.lst hp r)
/-- name = a new tree, its list an object of one's own -/
theorem ws_asgT0 (i : Nat) (he : WU X e ρ (.lst ds)) (h : ∀ p, P.nx ⟨ρ.o ++ [⟨p, true, .lst ds⟩], ρ.s.set i (some (.ref p))⟩) (hN : X.N.Nodup) (hi : X.N[i]? = some x) (hx : Loc X.env.scope x) (hs : swapsWith e (some (.Name x p')) pos.line X.env = pure false := by rfl)
    (hf : X.fn x = true ∨ X.env.scope.names.lookup x = some .local := by first | exact .inl rfl | exact .inr rfl) : WS X (.Assign [.Name x p'] e pos) ρ P := ws_asgN i (wn_wu he) h hN hi hx hs hf
end
theorem FzL.mid2 {p : Addr} {d s : D} : ∀ A B : List D, FzL p d (A ++ s :: .ref p :: B) (A ++ s :: d :: B)
  | [], B => .keep (.sub (FzL.refl B))
  | _ :: A, B => .keep (FzL.mid2 A B)
/-! ### slices stored -/
section
variable {X : Cx} {o lo hi e : Expr} {to tl th : TE} {pos p2 : Pos}
def gSlS (to tl th : TE) : TG := fun v σ H Q => to σ H fun x H1 => tl σ H1 fun a H2 => ∃ i : Int, a = .int i ∧ th σ H2 fun c H3 => ∃ j : Int, c = .int j ∧ ∃ (l b : Addr) (xs ys : List V), x = .ref l ∧ v = .ref b ∧ H3 l = some (.lst xs) ∧ H3 b = some (.lst ys) ∧ l ≠ b ∧ 0 ≤ i ∧ i ≤ j ∧ j ≤ xs.length ∧ xs.length + ys.length ≤ sizeLine ∧
  Q σ (upd H3 l (.lst (xs.take i.toNat ++ ys ++ xs.drop j.toNat)))
theorem pg_slS (ho : PE X o to) (hl : PE X lo tl) (hh : PE X hi th)
    (ha : ∀ v, assign (.Subscript o (.Slice (some lo) (some hi) none p2) pos) X.env v = (do
      let ov ← holding [v] (eval o X.env)
      let iv ← holding [v, ov] (eval (.Slice (some lo) (some hi) none p2) X.env)
      standAt pos
      holding [v, ov, iv] (setItem ov iv v)
      release [iv, v, ov] []) := by intro _; rfl) : PG X (.Subscript o (.Slice (some lo) (some hi) none p2) pos) (gSlS to tl th) := by
  refine ⟨fun pins s σ H v u Q I r h => ?_⟩
  rw [ha]
  refine wpAny_bind (wpAny_holding (thn (ho.run pins s σ H _ I h) fun ov s1 ⟨x, H1, I1, r1, q1⟩ => ?_))
  refine wpAny_bind (wpAny_holding ?_)
  refine wpAny_Slice ?_
  rw [evalPart_some]
  refine thn (hl.run pins s1 σ H1 _ I1 q1) fun vl s2 ⟨a, H2, I2, ra, i, ea, q2⟩ => ?_
  rw [evalPart_some]
  refine thn (hh.run pins s2 σ H2 _ I2 q2) fun vu s3 ⟨c, H3, I3, rc, j, ec, l, b, xs, ys, ex, ev, hl', hb', hne, h0, h1, h2, hz, q3⟩ => ?_
  subst ea ec ex ev
  rw [evalPart_none]
  refine wpAny_pure ?_
  have I4 : Inv X pins σ H3 { s3 with heap := s3.heap.push { cls := .type "slice", data := .fields #[vl, vu, .none] } } := I3.kept (t' := s3.toks) fun b ob q => Heap.get?_push_of_some _ q
  cases r1
  cases r
  refine wpAny_bind (wpAny_standAt (wpAny_bind (wpAny_holding (set_slice (vl := vl) (vu := vu) (sl := s3.heap.objs.size) I4 hl' hb' hne (Heap.IsSliceOf.new ..) ra rc h0 h1 h2 hz fun s' I5 => ?_))))
  exact wpAny_release ⟨σ, _, I5, q3⟩
end
section
variable {X : Cx} {o o2 lo hi e a : Expr} {ρ : En} {P : Post} {pos p1 p2 tp : Pos} {p q : Addr} {nb nb2 : Bool} {ds es fs : List D} {i j : Int} {d : D}
/-- xs[i:j] = a new list -/
theorem ws_setSl (k : Nat) (he : WN X e ρ (.lst es)) (ho : WE X o ρ (.ref p)) (hk : ρ.o[k]? = some ⟨p, nb, .lst ds⟩) (hl : WB X lo ρ (.int i)) (hh : WB X hi ρ (.int j)) (h0 : 0 ≤ i) (h1 : i ≤ j) (h2 : j ≤ ds.length) (hz : ds.length + es.length ≤ sizeLine)
    (h : P.nx ⟨ρ.o.set k ⟨p, nb, .lst (ds.take i.toNat ++ es ++ ds.drop j.toNat)⟩, ρ.s⟩)
    (hs : swapsWithSole [.Subscript o (.Slice (some lo) (some hi) none p2) p1] e pos.line X.env = pure false := by rfl) (hw : swappedStores [.Subscript o (.Slice (some lo) (some hi) none p2) p1] e X.env = pure none := by rfl) (h3 : (assignEach [.Subscript o (.Slice (some lo) (some hi) none p2) p1] X.env).map (·.2) = [assign (.Subscript o (.Slice (some lo) (some hi) none p2) p1) X.env] := by rfl)
    (hg : ∀ v, assign (.Subscript o (.Slice (some lo) (some hi) none p2) p1) X.env v = (do
      let ov ← holding [v] (eval o X.env)
      let iv ← holding [v, ov] (eval (.Slice (some lo) (some hi) none p2) X.env)
      standAt p1
      holding [v, ov, iv] (setItem ov iv v)
      release [iv, v, ov] []) := by intro _; rfl) : WS X (.Assign [.Subscript o (.Slice (some lo) (some hi) none p2) p1] e pos) ρ P := fun M H0 F0 B H F σ c b Dn kk =>
  ps_to (ps_asg pe_s (pg_slS pe_s pe_s pe_s hg) hs hw h3) (he H F σ c _ fun b1 H1 F1 l1 hn hf o1 => ho H1 F1 σ (c.mono l1) _ fun u H2 F2 l2 r2 => hl H2 F2 σ ((c.mono l1).mono l2) _ fun v3 H3 F3 l3 r3 => by
    cases r3
    refine ⟨i, rfl, hh H3 F3 σ (((c.mono l1).mono l2).mono l3) _ fun v4 H4 F4 l4 r4 => ?_⟩
    cases r4
    cases r2
    have l24 := (l2.trans l3).trans l4
    have l := l1.trans l24
    have c4 := c.mono l
    obtain ⟨hf4, ho4⟩ := c4.ownAt hk
    cases ho4 with
    | @lst _ xs _ hp r =>
      cases o1 with
      | @lst _ ys _ hb1 rb =>
        have hpb : p ≠ b1 := fun z => by
          obtain ⟨w, hw⟩ := (c.ownAt hk).2.there
          rw [z] at hw
          have := hn
          rw [hw] at this
          cases this
        refine ⟨j, rfl, p, b1, xs, ys, rfl, rfl, hp, l24.h _ _ hb1, hpb, h0, h1, by rw [← r.length]; exact h2, by rw [← r.length, ← rb.length]; exact hz, ?_⟩
        exact kk.nx _ _ F4 σ h (c4.change hk (.lst upd_same (((r.take _).append (rb.mono l24.f)).append (r.drop _)))) ((b.mono l).change c4 hk))
theorem getLast_rep {K : PySem.W.Frag} {F : Hp} {ds : List D} {d : D} {vs : List V} (r : RepL K F (ds ++ [d]) vs) : ∃ ws w, vs = ws ++ [w] ∧ RepL K F ds ws ∧ Rep K F d w := by
  induction ds generalizing vs with
  | nil =>
    cases r with
    | cons r t =>
      cases t
      exact ⟨[], _, rfl, .nil, r⟩
  | cons e ds ih =>
    cases r with
    | cons r t =>
      obtain ⟨ws, w, rfl, h1, h2⟩ := ih t
      exact ⟨_ :: ws, w, rfl, .cons r h1, h2⟩
/-- a.insert(i, b.pop()), lists of one's own -/
theorem ws_insPop {ap cp ap2 cp2 : Pos} (k m : Nat) (ho : WE X o ρ (.ref p)) (hk : ρ.o[k]? = some ⟨p, nb, .lst ds⟩) (ha : WB X a ρ (.int i)) (ho2 : WE X o2 ρ (.ref q)) (hm : ρ.o[m]? = some ⟨q, nb2, .lst (es ++ [d])⟩) (hkm : k ≠ m) (hl : ds.length < sizeLine) (h0 : 0 ≤ i) (h1 : i < 2 ^ 63)
    (h : P.nx ⟨(ρ.o.set m ⟨q, nb2, .lst es⟩).set k ⟨p, nb, .lst (ds.take i.toNat ++ [d] ++ ds.drop i.toNat)⟩, ρ.s⟩)
    (hs : swapsWith (.Call (.Attribute o "insert" ap) [a, .Call (.Attribute o2 "pop" ap2) [] [] cp2] [] cp) none pos.line X.env = pure false := by rfl) (hbase : attributeBase o "insert" X.env (eval o X.env) = eval o X.env := by rfl) (hbase2 : attributeBase o2 "pop" X.env (eval o2 X.env) = eval o2 X.env := by rfl) (hline : (ap.endLine == cp.line) = true := by rfl) (hline2 : (ap2.endLine == cp2.line) = true := by rfl)
    (hst : starEach [a, .Call (.Attribute o2 "pop" ap2) [] [] cp2] X.env = (false, eval a X.env) :: starEach [.Call (.Attribute o2 "pop" ap2) [] [] cp2] X.env := by rfl) (hst2 : starEach [.Call (.Attribute o2 "pop" ap2) [] [] cp2] X.env = (false, eval (.Call (.Attribute o2 "pop" ap2) [] [] cp2) X.env) :: starEach [] X.env := by rfl)
    (hfew : ((backTo cp (starEach [a, .Call (.Attribute o2 "pop" ap2) [] [] cp2] X.env)).all (fun x => !x.1) && (backToKw cp (keywordEach [] X.env)).all (fun x => x.1.isSome) && decide ([a, .Call (.Attribute o2 "pop" ap2) [] [] cp2].length + ([] : List Keyword).length + (if ([] : List Keyword).isEmpty then 0 else 1) < 30)) = true := by rfl)
    (hpl : (backTo cp (starEach [.Call (.Attribute o2 "pop" ap2) [] [] cp2] X.env)).any (·.1) = false := by rfl) :
    WS X (.Expr (.Call (.Attribute o "insert" ap) [a, .Call (.Attribute o2 "pop" ap2) [] [] cp2] [] cp) pos) ρ P := fun M H0 F0 B H F σ c b Dn kk =>
  ps_to (ps_expr (pe_bm PySem.F.plainAttrs_list PySem.F.slot_list_insert PySem.F.type_list_insert mt_insert pe_s (pa_cons pe_s (pa_cons (pe_bm0 PySem.F.plainAttrs_list PySem.F.slot_list_pop PySem.F.type_list_pop mt_pop pe_s hbase2 hline2) pa_nil hst2) hst) hbase hfew hline hst hpl) hs) (ho H F σ c _ fun u H1 F1 l1 r1 => by
    cases r1
    obtain ⟨hf1, ho1⟩ := (c.mono l1).ownAt hk
    cases ho1 with
    | @lst _ xs1 _ hp1 rx1 =>
      refine ⟨.inl ⟨rfl, _, .inl (.inl hp1)⟩, ha H1 F1 σ (c.mono l1) _ fun v2 H2 F2 l2 r2 => ?_⟩
      cases r2
      refine ho2 H2 F2 σ ((c.mono l1).mono l2) _ fun v3 H3 F3 l3 r3 => ?_
      cases r3
      have l := (l1.trans l2).trans l3
      have c3 := c.mono l
      obtain ⟨hfq, hoq⟩ := c3.ownAt hm
      cases hoq with
      | @lst _ ys _ hq ry =>
        obtain ⟨ws, y, rfl, rw1, ry1⟩ := getLast_rep ry
        refine ⟨.inl ⟨rfl, _, .inl (.inl hq)⟩, q, _, y, rfl, rfl, hq, by simp, ?_⟩
        have c4 := c3.change hm (d' := .lst es) (o := .lst ws) (.lst upd_same rw1)
        have b4 := (b.mono l).change (d' := .lst es) (o := .lst ws) c3 hm
        have hk4 : (ρ.o.set m ⟨q, nb2, .lst es⟩)[k]? = some ⟨p, nb, .lst ds⟩ := by rw [List.getElem?_set_ne fun z => hkm z.symm]; exact hk
        obtain ⟨hfp, hop⟩ := c4.ownAt hk4
        rw [List.dropLast_concat]
        cases hop with
        | @lst _ xs _ hp rx =>
          refine ⟨p, xs, i, y, rfl, rfl, hp, by rw [← rx.length]; exact hl, h0, h1, ?_⟩
          exact kk.nx _ _ F3 σ h (c4.change hk4 (.lst upd_same (((rx.take _).append (.one ry1)).append (rx.drop _)))) (b4.change c4 hk4))
end
end DL
/-! DLr: the head's facts, more of them; defs, methods, classes from them. -/
namespace DL
open PySem PySem.Spec PyProof.Rows L2
/-! ### one more test at the head -/
/-! ### what an own class is asked for -/
theorem clsX_ty {K : PySem.W.Frag} {x : Str} (cl : Cls K (He.ga K x)) (h : clsX K x = true) : ClsTy K (He.ga K x) := by
  obtain ⟨h1, h⟩ := He.ba h
  obtain ⟨h2, h⟩ := He.ba h
  obtain ⟨h3, h⟩ := He.ba h
  obtain ⟨h4, h⟩ := He.ba h
  exact ⟨cl, He.eqO_ok h1, He.eqO_ok h2, of_decide_eq_true h3, of_decide_eq_true h4⟩
theorem clsX_one {K : PySem.W.Frag} {x : Str} (h : clsX K x = true) : PySem.W.kitOne K (.ref (He.ga K x)) (.ref (He.ga K x)) = some true := by
  obtain ⟨h1, h⟩ := He.ba h
  obtain ⟨h2, h⟩ := He.ba h
  obtain ⟨h3, h⟩ := He.ba h
  obtain ⟨h4, h⟩ := He.ba h
  exact of_decide_eq_true h
theorem eqX_ok {K : PySem.W.Frag} {x : Str} (h : eqX K x = true) : EqTy K (He.ga K x) := by
  obtain ⟨h1, h⟩ := He.ba h
  obtain ⟨h2, h⟩ := He.ba h
  obtain ⟨h3, h4⟩ := He.ba h
  exact ⟨⟨He.eqO_ok h1, of_decide_eq_true h2⟩, fun t ht => List.all_eq_true.mp h3 t (by simpa [tagNames] using ht), of_decide_eq_true h4⟩
theorem notTags_ok {K : PySem.W.Frag} {x : Str} (h : notTags K x = true) (t : String) (ht : tagNames.contains t = true) : PySem.W.kitOne K (.type t) (.ref (He.ga K x)) = some false :=
  of_decide_eq_true (List.all_eq_true.mp h t (by simpa using ht))
theorem clsF_of {K : PySem.W.Frag} {x : Str} {flds : List Str} (cl : Cls K (He.ga K x)) (h : clsX K x = true) (na : ∀ f, flds.contains f = true → NoAttr K (He.ga K x) f) : ClsF K (He.ga K x) flds := ⟨cl, na, clsX_ty cl h, clsX_one h⟩
/-! ### every parameter written, the last of them by name -/
section
variable {K : PySem.W.Frag} {x qual : Str} {params : Arguments} {body : List Stmt} {scope : Scope} {dvs : List V} {kws : List (Str × V)} {f : Addr} {fd : FuncData} {ps : List Str}
theorem kbinds1 (F : FunD K x qual params body scope dvs kws f fd) (n : Nat) (ks : List Str) (hd : dvs ≠ [])
    (h : ∀ (T : Addr) (kV doc pm : Value) (an : Option Addr) (cdv ct : Value) (us its ws : List Value), us.length = n → its.length = dvs.length → ws.length = ks.length →
      ∃ k, bindArgs (PySem.W.fnOf x qual params body scope (.ref T) kV doc pm an cdv ct) ⟨us, ks.zip ws⟩ = seqItems? (.ref T) >>= k ∧ k (some its.toArray) = pure (ps.zip (us ++ ws))) :
    KBn K fd ps n ks (fun us ws => us ++ ws) (fun vs zs => vs ++ zs) := by
  obtain ⟨oc, od, dV, kV, doc, pm, an, cdv, ct, osl, rfl, lk, hcd, hD, hK⟩ := F.ex
  rcases hD with ⟨e, _⟩ | ⟨_, T, o, its, m, rfl, lT, oT, rT⟩
  · exact absurd e hd
  · refine ⟨fun s us ws X l1 l2 => ?_, fun r1 r2 => r1.append r2⟩
    obtain ⟨k, e1, e2⟩ := h T kV doc pm an cdv ct us its ws l1 rT.length.symm l2
    refine BindsTo.of_looks fun M => ?_
    rw [e1]
    exact looks_items X lT oT (.of_pure e2)
end
section
variable {P : Program} {w : World} {K : PySem.W.Frag} {mg : Str → Option Value} {base : Heap} {x qual m : Str} {params : Arguments} {body : List Stmt} {scope : Scope} {f C : Addr} {fd : FuncData} {ps : List Str} {k : Nat} {sp : Sp} {dvs : List V} {dws : List Value}
theorem kn_of (F : FunD K qual qual params body scope [] [] f fd) (g : mg x = some (.ref f)) (b : Binds K fd ps []) (ok : FnOk P w K mg base CX0 k f fd ps sp) : Kn P w K mg base x k [] sp := ⟨f, fd, ps, [], g, F.kp, b, .nil, ok⟩
theorem knM_of (cl : Cls K C) (M : Meth K C m f) (b : Binds K fd ps []) (ok : FnOk P w K mg base CX0 k f fd ps sp) : KnM P w K mg base C m k [] sp := ⟨cl, f, fd, ps, [], M, b, .nil, ok⟩
theorem knC_of (g : mg x = some (.ref C)) (M : Mk K C f) (b : Binds K fd ps dws) (hv : Vals dvs dws) (ok : FnOk P w K mg base CX0 k f fd ps sp) : KnC P w K mg base x C k dvs sp := ⟨g, f, fd, ps, dws, M, b, hv, ok⟩
theorem knK_of {n : Nat} {ks : List Str} (g : mg x = some (.ref C)) (M : Mk K C f) (b : KBn K fd ps (n + 1) ks (fun us ws => us ++ ws) (fun vs zs => vs ++ zs)) (ok : FnOk P w K mg base CX0 k f fd ps sp) : KnK P w K mg base x C k n ks sp := ⟨g, f, fd, ps, _, M, b, ok⟩
end
/-! ### names, constants -/
theorem all_get {α : Type} {p : α → Bool} {l : List α} (h : l.all p = true) (i : Nat) {x : α} (hx : l[i]? = some x := by rfl) : p x = true := List.all_eq_true.mp h x (List.mem_of_getElem? hx)
theorem lookup_mem {β : Type} {x : Str} {v : β} : ∀ {l : List (Str × β)}, l.lookup x = some v → (x, v) ∈ l
  | [], h => by cases h
  | (y, w) :: l, h => by
    rw [List.lookup_cons] at h
    split at h
    · rename_i e
      cases h
      rw [eq_of_beq e]
      exact List.mem_cons_self
    · exact List.mem_cons_of_mem _ (lookup_mem h)
theorem gf_of {K : PySem.W.Frag} {h : Heap} {mg : Str → Option Value} {fr : List Str} {nums : List (Str × Int)} {txts : List (Str × Str)} (X : K.In h) (G : h.Ns mainGlobals mg) (c : namesX K fr nums txts = true) : GF mg fr nums txts := by
  obtain ⟨h1, h⟩ := He.ba c
  obtain ⟨h2, h3⟩ := He.ba h
  exact ⟨fun x hx => He.free_ok X G (List.all_eq_true.mp h1 x (by simpa using hx)), fun x i hx => He.int_ok X G (List.all_eq_true.mp h2 _ (lookup_mem hx)), fun x s hx => He.str_ok X G (List.all_eq_true.mp h3 _ (lookup_mem hx))⟩
theorem flds_of {K : PySem.W.Frag} {x : Str} {flds : List Str} (c : fldsX K x flds = true) (f : Str) (h : flds.contains f = true) : NoAttr K (He.ga K x) f := He.noat_ok (List.all_eq_true.mp c f (by simpa using h))
theorem noList_ok {K : PySem.W.Frag} (c : noList K = true) {a : Addr} {o : Obj} (e : K.lookup a = some o) : o.cls ≠ .type "list" := by
  have key : ∀ (l : List (Addr × Obj)), l.lookup a = some o → ∃ q ∈ l, q.2 = o := by
    intro l
    induction l with
    | nil => intro h; cases h
    | cons q l ih =>
      intro h
      obtain ⟨b, ob⟩ := q
      rw [List.lookup_cons] at h
      split at h
      · cases h
        exact ⟨_, List.mem_cons_self, rfl⟩
      · obtain ⟨q, hq, e⟩ := ih h
        exact ⟨q, List.mem_cons_of_mem _ hq, e⟩
  obtain ⟨q, hq, rfl⟩ := key K e
  have := List.all_eq_true.mp c q hq
  simpa using this
/-- the script, at the head -/
theorem repL_ns {K : PySem.W.Frag} {H : Hp} : ∀ ns : List Int, RepL K H (ns.map D.int) (ns.map V.int)
  | [] => .nil
  | n :: ns => .cons (.int n) (repL_ns ns)
theorem law_sp {K : PySem.W.Frag} {H : Hp} {a : Addr} {ns : List Int} {R : List D → D → Prop} (nl : noList K = true) (h : SqL K H a (ns.map V.int)) (hR : R [.lst (ns.map D.int)] (.bl true)) : spR K R [.ref a] H (fun v _ => v = .bl true) fun _ _ _ => False := by
  rcases h with h | ⟨o, its, n, e, hc, _⟩
  · exact ⟨H, [.lst (ns.map D.int)], .bl true, Same.refl H, .cons (.lst h (repL_ns ns)) .nil, hR, fun v H' F' l r => by cases r; rfl⟩
  · exact absurd hc (noList_ok nl e)
end DL
/-! V66a: the program's defs, each its promise. -/
namespace DL
open PySem PySem.Spec PyProof.Rows L2
abbrev G66 (mg : Str → Option Value) := GF mg frees nums66 txts66
abbrev FD (K : PySem.W.Frag) (x qual : Str) (st : Stmt) (f : Addr) (fd : FuncData) := FunD K x qual (defArgs st) (defBody st) (defScope st) [] [] f fd

/-- signs -/
abbrev signD (c : Nat) : D := .str ⟨#[c]⟩
def letters : Str := "abcdefghijklmnopqrstuvwxyz"
def okName (s : Str) : Prop := 1 ≤ s.length ∧ s.length ≤ 6 ∧ ∀ c ∈ s.cps.toList, c ∈ letters.cps.toList
inductive isWholeR : List D → D → Prop
  | mk (i lo hi : Int) : isWholeR [.int i, .int lo, .int hi] (.bl (decide (lo ≤ i) && decide (i ≤ hi)))
inductive madeOfR : List D → D → Prop
  | mk (t s : Str) (h : t.length ≤ 100000) : madeOfR [.str t, .str s] (.bl (t.cps.toList.all fun c => decide (c ∈ s.cps.toList)))
inductive isNameR : List D → D → Prop
  | mk (t : Str) (h : okName t) : isNameR [.str t] (.bl true)
inductive isRowR : List D → D → Prop
  | lst (ds : List D) (n : Int) : isRowR [.lst ds, .int n] (.bl (decide ((1 : Int) ≤ ds.length) && decide ((ds.length : Int) ≤ n)))
  | tup (ds : List D) (n : Int) : isRowR [.tup ds, .int n] (.bl (decide ((1 : Int) ≤ ds.length) && decide ((ds.length : Int) ≤ n)))
/-- a chapter: parts of each verse -/
def okChapter (ns : List Int) : Prop := 1 ≤ ns.length ∧ ns.length ≤ 30 ∧ ∀ n ∈ ns, 1 ≤ n ∧ n ≤ 4
abbrev chL (ns : List Int) : D := .lst (ns.map D.int)
abbrev chT (ns : List Int) : D := .tup (ns.map D.int)
inductive checkedChapterR : List D → D → Prop
  | mk (ns : List Int) (h : okChapter ns) : checkedChapterR [chL ns] (chT ns)
theorem sc32 : FnScope ["chapter", "parts"] ["chapter"] (defScope (top 32)) := (⟨rfl, rfl, rfl, by decide +kernel, rfl, by decide +kernel, by decide +kernel⟩)
theorem sc19 : FnScope ["thing", "low", "high"] ["thing", "low", "high"] (defScope (top 19)) := (⟨rfl, rfl, rfl, by decide +kernel, rfl, by decide +kernel, by decide +kernel⟩)
theorem sc20 : FnScope ["text", "signs", "sign"] ["text", "signs"] (defScope (top 20)) := (⟨rfl, rfl, rfl, by decide +kernel, rfl, by decide +kernel, by decide +kernel⟩)
theorem sc21 : FnScope ["thing"] ["thing"] (defScope (top 21)) := (⟨rfl, rfl, rfl, by decide +kernel, rfl, by decide +kernel, by decide +kernel⟩)
theorem sc30 : FnScope ["thing", "most"] ["thing", "most"] (defScope (top 30)) := (⟨rfl, rfl, rfl, by decide +kernel, rfl, by decide +kernel, by decide +kernel⟩)
theorem len_le {s : Str} : s.cps.toList.length = s.length := by cases s; rfl
section
variable {P : Program} {w : World} {K : PySem.W.Frag} {mg : Str → Option Value} {base : Heap} {f : Addr} {fd : FuncData} (G : G66 mg)
include G
theorem ok_isWhole (F : FD K "is_whole" "is_whole" (top 19) f fd) : FnOk P w K mg base CX0 1 f fd ["thing", "low", "high"] (spR K isWholeR) := by
  refine fn_okR F sc19 (fun ds d h => by cases h; rfl) fun cdv A outer s H E hr ds d hR => ?_
  obtain ⟨i, lo, hi⟩ := hR
  exact (DL.wss_cons (DL.ws_ret (DL.we_and (DL.we_isi (DL.wb_of (DL.we_var 0 rfl (Or.inl rfl) rfl)) (DL.wb_of (DL.we_glT (n := "int") (G.free _ (by decide +kernel)) (by decide +kernel))) (DL.isi_b (rfl) (rfl)) (G.free _ (by decide +kernel)) (rfl) (rfl) (rfl) (rfl)) (fun _ => (DL.we_and (DL.we_not (DL.we_isi (DL.wb_of (DL.we_var 0 rfl (Or.inl rfl) rfl)) (DL.wb_of (DL.we_glT (n := "bool") (G.free _ (by decide +kernel)) (by decide +kernel))) (DL.isi_b (rfl) (rfl)) (G.free _ (by decide +kernel)) (rfl) (rfl) (rfl) (rfl))) (fun _ => (DL.we_one (DL.we_leLe (DL.wb_of (DL.we_var 1 rfl (Or.inl rfl) rfl)) (DL.wb_of (DL.we_var 0 rfl (Or.inl rfl) rfl)) (DL.wb_of (DL.we_var 2 rfl (Or.inl rfl) rfl)) (rfl))))))) (rfl)))
theorem ok_madeOf (F : FD K "made_of" "made_of" (top 20) f fd) : FnOk P w K mg base CX0 1 f fd ["text", "signs"] (spR K madeOfR) := by
  have hN := sc20.nd
  refine fn_okR F sc20 (fun ds d h => by cases h; rfl) fun cdv A outer s H E hr ds d hR => ?_
  obtain ⟨t, s, h⟩ := hR
  refine (DL.wss_cons (DL.ws_ret (DL.we_all (DL.wb_wn (wn_lcG t.cps.toList signD (fun c => decide (c ∈ s.cps.toList)) D.bl [("sign", 2)] (DL.wio_wi (DL.wi_str (DL.we_var 0 rfl (Or.inl rfl) rfl))) ?_ (rfl) (fun _ _ => (DL.elt_mk _ (fun _ _ _ _ _ => (DL.wg_name 2 hN (rfl) (Or.inl rfl) (Or.inr rfl))) (rfl) (fun _ _ _ _ _ => (DL.we_cmp (DL.wb_of (DL.we_var 2 rfl (Or.inl rfl) rfl)) (DL.wb_of (DL.we_var 1 rfl (Or.inr (Or.inl rfl)) rfl)) (DL.cmp_inSign) (rfl))) (rfl))) hN)) (G.free _ (by decide +kernel)) (rfl) (rfl) (rfl)) ?_))
  · exact small (by rw [len_le]; exact h)
  · rw [List.all_map]; rfl
theorem ok_isName (F : FD K "is_name" "is_name" (top 21) f fd) (k1 : Kn P w K mg base "made_of" 1 [] (spR K madeOfR)) : FnOk P w K mg base CX0 2 f fd ["thing"] (spR K isNameR) := by
  have hN := sc21.nd
  refine fn_okR F sc21 (fun ds d h => by cases h; rfl) fun cdv A outer s H E hr ds d hR => ?_
  obtain ⟨t, h⟩ := hR
  refine (DL.wss_cons (DL.ws_ret (DL.we_and (DL.we_isi (DL.wb_of (DL.we_var 0 rfl (Or.inl rfl) rfl)) (DL.wb_of (DL.we_glT (n := "str") (G.free _ (by decide +kernel)) (by decide +kernel))) (DL.isi_b (rfl) (rfl)) (G.free _ (by decide +kernel)) (rfl) (rfl) (rfl) (rfl)) (fun _ => (DL.we_and (DL.we_leLe (DL.wb_of (DL.we_int)) (DL.wb_of (DL.we_len (DL.wb_of (DL.we_var 0 rfl (Or.inl rfl) rfl)) (DL.len_s ?_) (G.free _ (by decide +kernel)) (rfl) (rfl))) (DL.wb_of (DL.we_gi (G.int _ _ rfl))) (rfl)) (fun _ => (DL.we_one (DL.we_call k1 hr (DL.wa_cons (DL.we_var 0 rfl (Or.inl rfl) rfl) (DL.wa_cons (DL.we_gs (G.str _ _ rfl)) (DL.wa_nil) (rfl)) (rfl)) (DL.madeOfR.mk _ _ ?_) (rfl) (rfl) (rfl) (rfl))))))) ?_))
  · exact smallE (by have := h.2.1; omega)
  · have := h.2.1; omega
  · have h1 := h.1
    have h2 := h.2.1
    have h3 : (t.cps.toList.all fun c => decide (c ∈ (Str.ofString "abcdefghijklmnopqrstuvwxyz").cps.toList)) = true := List.all_eq_true.mpr fun c hc => decide_eq_true (h.2.2 c hc)
    rw [h3, decide_eq_true (by omega : (1 : Int) ≤ (t.length : Int)), decide_eq_true (by omega : (t.length : Int) ≤ 6)]
    rfl
theorem ok_isRow (F : FD K "is_row" "is_row" (top 30) f fd) : FnOk P w K mg base CX0 1 f fd ["thing", "most"] (spR K isRowR) := by
  have hN := sc30.nd
  refine fn_okR F sc30 (fun ds d h => by cases h <;> rfl) fun cdv A outer s H E hr ds d hR => ?_
  rcases hR with ⟨ds, n⟩ | ⟨ds, n⟩
  · exact (DL.wss_cons (DL.ws_ret (DL.we_and (DL.we_isT (ts := ["list", "tuple"]) (DL.wb_of (DL.we_var 0 rfl (Or.inl rfl) rfl)) (DL.wab_cons (DL.wb_of (DL.we_glT (n := "list") (G.free _ (by decide +kernel)) (by decide +kernel))) (DL.wab_cons (DL.wb_of (DL.we_glT (n := "tuple") (G.free _ (by decide +kernel)) (by decide +kernel))) (DL.wab_nil) (rfl)) (rfl)) (rfl) (rfl) (G.free _ (by decide +kernel)) (by decide +kernel) (rfl) (rfl) (rfl) (rfl)) (fun _ => (DL.we_one (DL.we_leLe (DL.wb_of (DL.we_int)) (DL.wb_of (DL.we_len (DL.wb_of (DL.we_var 0 rfl (Or.inl rfl) rfl)) (DL.len_l) (G.free _ (by decide +kernel)) (rfl) (rfl))) (DL.wb_of (DL.we_var 1 rfl (Or.inl rfl) rfl)) (rfl))))) (rfl)))
  · exact (DL.wss_cons (DL.ws_ret (DL.we_and (DL.we_isT (ts := ["list", "tuple"]) (DL.wb_of (DL.we_var 0 rfl (Or.inl rfl) rfl)) (DL.wab_cons (DL.wb_of (DL.we_glT (n := "list") (G.free _ (by decide +kernel)) (by decide +kernel))) (DL.wab_cons (DL.wb_of (DL.we_glT (n := "tuple") (G.free _ (by decide +kernel)) (by decide +kernel))) (DL.wab_nil) (rfl)) (rfl)) (rfl) (rfl) (G.free _ (by decide +kernel)) (by decide +kernel) (rfl) (rfl) (rfl) (rfl)) (fun _ => (DL.we_one (DL.we_leLe (DL.wb_of (DL.we_int)) (DL.wb_of (DL.we_len (DL.wb_of (DL.we_var 0 rfl (Or.inl rfl) rfl)) (DL.len_t) (G.free _ (by decide +kernel)) (rfl) (rfl))) (DL.wb_of (DL.we_var 1 rfl (Or.inl rfl) rfl)) (rfl))))) (rfl)))
theorem ok_checkedChapter (F : FD K "checked_chapter" "checked_chapter" (top 32) f fd) (k1 : Kn P w K mg base "is_row_editions" 1 [] (spR K isRowR)) (k2 : Kn P w K mg base "is_whole" 1 [] (spR K isWholeR)) : FnOk P w K mg base CX0 2 f fd ["chapter"] (spR K checkedChapterR) := by
  have hN := sc32.nd
  refine fn_okR F sc32 (fun ds d h => by cases h <;> rfl) fun cdv A outer s H E hr ds d hR => ?_
  obtain ⟨ns, h1, h2, h3⟩ := hR
  refine (DL.wss_cons (DL.ws_ifN (DL.wt_not (DL.wt_tru (DL.wb_of (DL.we_call k1 hr (DL.wa_cons (DL.we_var 0 rfl (Or.inl rfl) rfl) (DL.wa_cons (DL.we_gi (G.int _ _ rfl)) (DL.wa_nil) (rfl)) (rfl)) (DL.isRowR.lst _ _) (rfl) (rfl) (rfl) (rfl))) (DL.tru_bl) (by intros; first | rfl | exact DL.RepL.nil | exact DL.RepL.cons DL.Rep.non DL.RepL.nil))) ?_ (DL.wss_nil (DL.Wk.refl _) (DL.wss_cons (ws_for (l := ns) (enc := D.int) (fun _ => ⟨[], [some (chL ns), none]⟩) (DL.wi_list (DL.we_var 0 rfl (Or.inl rfl) rfl)) (DL.Wk.mk (DL.WkO.nil) (DL.WkS.keep (rfl) (DL.WkS.drop (DL.WkS.nil)))) ?_ (DL.wss_cons (DL.ws_ret (DL.we_tuple (DL.we_var 0 rfl (Or.inl rfl) rfl) (DL.tup_l) (G.free _ (by decide +kernel)) (rfl) (rfl)) (rfl))))))))
  · simp; omega
  · intro pre x post hl
    refine (Exists.intro _ (And.intro (DL.wg_name 1 hN (rfl) (Or.inl rfl) (Or.inl rfl)) (DL.wss_cons (DL.ws_ifN (DL.wt_not (DL.wt_tru (DL.wb_of (DL.we_call k2 hr (DL.wa_cons (DL.we_var 1 rfl (Or.inl rfl) rfl) (DL.wa_cons (DL.we_int) (DL.wa_cons (DL.we_gi (G.int _ _ rfl)) (DL.wa_nil) (rfl)) (rfl)) (rfl)) (DL.isWholeR.mk _ _ _) (rfl) (rfl) (rfl) (rfl))) (DL.tru_bl) (by intros; first | rfl | exact DL.RepL.nil | exact DL.RepL.cons DL.Rep.non DL.RepL.nil))) ?_ (DL.wss_nil (DL.Wk.refl _) (DL.wss_nil2 rfl (DL.Wk.mk (DL.WkO.nil) (DL.WkS.keep (rfl) (DL.WkS.drop (DL.WkS.nil))))))))))
    have := h3 x (by rw [hl]; simp)
    simp; omega
end
end DL
/-! V66b: books, lines. -/
namespace DL
open PySem PySem.Spec PyProof.Rows L2
abbrev Bk := Str × List (List Int)
abbrev bkL (b : Bk) : D := .tup [.str b.1, .lst (b.2.map chL)]
abbrev bkT (b : Bk) : D := .tup [.str b.1, .tup (b.2.map chT)]
def okBook (b : Bk) : Prop := okName b.1 ∧ 1 ≤ b.2.length ∧ b.2.length ≤ 12 ∧ ∀ c ∈ b.2, okChapter c
def chSize (c : List Int) : Int := c.sum
def bkSize (b : Bk) : Int := (b.2.map chSize).sum
def bkMany (b : Bk) : Int := (b.2.length : Int)
structure OkBooks (bs : List Bk) : Prop where
  lo : 1 ≤ bs.length
  hi : bs.length ≤ 6
  nd : (bs.map (·.1)).Nodup
  ok : ∀ b ∈ bs, okBook b
  many : (bs.map bkMany).sum ≤ 40
  size : (bs.map bkSize).sum ≤ 400
inductive checkedBookR : List D → D → Prop
  | mk (b : Bk) (names : List Str) (h : okBook b) (hn : b.1 ∉ names) : checkedBookR [bkL b, .lst (names.map D.str)] (bkT b)
inductive checkedBooksR : List D → D → Prop
  | lst (bs : List Bk) (h : OkBooks bs) : checkedBooksR [.lst (bs.map bkL)] (.tup (bs.map bkT))
  | tup (bs : List Bk) (h : OkBooks bs) : checkedBooksR [.tup (bs.map bkL)] (.tup (bs.map bkT))
theorem sc33 : FnScope ["book", "names", "name", "chapters", "chapter"] ["book", "names"] (defScope (top 33)) := (⟨rfl, rfl, rfl, by decide +kernel, rfl, by decide +kernel, by decide +kernel⟩)
theorem sc34 : FnScope ["books", "told", "book", "many", "size", "name", "chapters", "chapter"] ["books"] (defScope (top 34)) := (⟨rfl, rfl, rfl, by decide +kernel, rfl, by decide +kernel, by decide +kernel⟩)
section
variable {P : Program} {w : World} {K : PySem.W.Frag} {mg : Str → Option Value} {base : Heap} {f : Addr} {fd : FuncData} (G : G66 mg)
include G
theorem ok_checkedBook (F : FD K "checked_book" "checked_book" (top 33) f fd) (k1 : Kn P w K mg base "is_row_editions" 1 [] (spR K isRowR)) (k2 : Kn P w K mg base "is_name" 2 [] (spR K isNameR)) (k3 : Kn P w K mg base "checked_chapter" 2 [] (spR K checkedChapterR)) : FnOk P w K mg base CX0 3 f fd ["book", "names"] (spR K checkedBookR) := by
  have hN := sc33.nd
  refine fn_okR F sc33 (fun ds d h => by cases h <;> rfl) fun cdv A outer s H E hr ds d hR => ?_
  obtain ⟨b, names, ⟨h1, h2, h3, h4⟩, hn⟩ := hR
  refine (DL.wss_cons (DL.ws_ifN (DL.wt_w (DL.ww_or (DL.wt_not (DL.wt_tru (DL.wb_of (DL.we_isi (DL.wb_of (DL.we_var 0 rfl (Or.inl rfl) rfl)) (DL.wb_of (DL.we_glT (n := "tuple") (G.free _ (by decide +kernel)) (by decide +kernel))) (DL.isi_b (rfl) (rfl)) (G.free _ (by decide +kernel)) (rfl) (rfl) (rfl) (rfl))) (DL.tru_bl) (by intros; first | rfl | exact DL.RepL.nil | exact DL.RepL.cons DL.Rep.non DL.RepL.nil))) (fun _ => (DL.ww_or1 (DL.wt_cmp (DL.wb_of (DL.we_len (DL.wb_of (DL.we_var 0 rfl (Or.inl rfl) rfl)) (DL.len_t) (G.free _ (by decide +kernel)) (rfl) (rfl))) (DL.wb_of (DL.we_int)) (DL.cmp_neI) (rfl)))))) (rfl) (DL.wss_nil (DL.Wk.refl _) (DL.wss_cons (DL.ws_asg (DL.we_var 0 rfl (Or.inl rfl) rfl) (DL.wg_tup (DL.wgs_cons (DL.wg_name 2 hN (rfl) (Or.inl rfl) (Or.inl rfl)) (DL.wgs_cons (DL.wg_name 3 hN (rfl) (Or.inl rfl) (Or.inl rfl)) (DL.wgs_nil) (rfl)) (rfl)) (rfl) (rfl) (rfl)) (DL.wss_cons (DL.ws_ifN (DL.wt_not (DL.wt_tru (DL.wb_of (DL.we_call k2 hr (DL.wa_cons (DL.we_var 2 rfl (Or.inl rfl) rfl) (DL.wa_nil) (rfl)) (DL.isNameR.mk _ h1) (rfl) (rfl) (rfl) (rfl))) (DL.tru_bl) (by intros; first | rfl | exact DL.RepL.nil | exact DL.RepL.cons DL.Rep.non DL.RepL.nil))) (rfl) (DL.wss_nil (DL.Wk.refl _) (DL.wss_cons (DL.ws_ifN (DL.wt_cmp (DL.wb_of (DL.we_var 2 rfl (Or.inl rfl) rfl)) (DL.wb_of (DL.we_var 1 rfl (Or.inl rfl) rfl)) (DL.cmp_inLS) (rfl)) ?_ (DL.wss_nil (DL.Wk.refl _) (DL.wss_cons (DL.ws_ifN (DL.wt_not (DL.wt_tru (DL.wb_of (DL.we_call k1 (L2.Room.mono hr (by omega)) (DL.wa_cons (DL.we_var 3 rfl (Or.inl rfl) rfl) (DL.wa_cons (DL.we_gi (G.int _ _ rfl)) (DL.wa_nil) (rfl)) (rfl)) (DL.isRowR.lst _ _) (rfl) (rfl) (rfl) (rfl))) (DL.tru_bl) (by intros; first | rfl | exact DL.RepL.nil | exact DL.RepL.cons DL.Rep.non DL.RepL.nil))) ?_ (DL.wss_nil (DL.Wk.refl _) (DL.wss_cons (DL.ws_ret (DL.we_tup (DL.wa_cons (DL.we_var 2 rfl (Or.inl rfl) rfl) (DL.wa_cons (DL.we_tuple (DL.we_wn (wn_lc (l := b.2) (enc := chL) (f := chT) (own := [("chapter", 4)]) (DL.wio_wi (DL.wi_list (DL.we_var 3 rfl (Or.inl rfl) rfl))) ?_ (rfl) (fun _ _ => (DL.elt_mk _ (fun _ _ _ _ _ => (DL.wg_name 4 hN (rfl) (Or.inl rfl) (Or.inr rfl))) (rfl) (fun _ _ _ _ _ => (DL.we_call k3 hr (DL.wa_cons (DL.we_var 4 rfl (Or.inl rfl) rfl) (DL.wa_nil) (rfl)) (DL.checkedChapterR.mk _ ?_) (rfl) (rfl) (rfl) (rfl))) (rfl))) hN)) (DL.tup_l) (G.free _ (by decide +kernel)) (rfl) (rfl)) (DL.wa_nil) (rfl)) (rfl)) (Nat.le_of_ble_eq_true rfl)) (rfl)))))))))))) (rfl) (rfl) (rfl))))))
  · exact decide_eq_false hn
  · simp; omega
  · exact small (by omega)
  · exact h4 _ (by assumption)
theorem ok_checkedBooks (F : FD K "checked_books" "checked_books" (top 34) f fd) (k1 : Kn P w K mg base "is_row_editions" 1 [] (spR K isRowR)) (k2 : Kn P w K mg base "checked_book" 3 [] (spR K checkedBookR)) : FnOk P w K mg base CX0 4 f fd ["books"] (spR K checkedBooksR) := by
  have hN := sc34.nd
  refine fn_okR F sc34 (fun ds d h => by cases h <;> rfl) fun cdv A outer s H E hr ds d hR => ?_
  rcases hR with ⟨bs, h⟩ | ⟨bs, h⟩
  · obtain ⟨h1, h2, h3, h4, h5, h6⟩ := h
    refine (DL.wss_cons (DL.ws_ifN (DL.wt_not (DL.wt_tru (DL.wb_of (DL.we_call k1 (L2.Room.mono hr (by omega)) (DL.wa_cons (DL.we_var 0 rfl (Or.inl rfl) rfl) (DL.wa_cons (DL.we_gi (G.int _ _ rfl)) (DL.wa_nil) (rfl)) (rfl)) (DL.isRowR.lst _ _) (rfl) (rfl) (rfl) (rfl))) (DL.tru_bl) (by intros; first | rfl | exact DL.RepL.nil | exact DL.RepL.cons DL.Rep.non DL.RepL.nil))) ?_ (DL.wss_nil (DL.Wk.refl _) (DL.wss_cons (DL.ws_asgN 1 (DL.wn_lst (DL.wa_nil) (by decide +kernel)) (fun p0 => (DL.wss_cons (ws_for (l := bs) (enc := bkL) (fun pre => ⟨[⟨p0, true, .lst (pre.map bkT)⟩], [some (.lst (bs.map bkL)), some (.ref p0), none, none, none, none, none, none]⟩) (DL.wi_list (DL.we_var 0 rfl (Or.inl rfl) rfl)) (DL.Wk.mk (DL.WkO.keep (rfl) (DL.WkO.nil)) (DL.WkS.keep (rfl) (DL.WkS.keep (rfl) (DL.WkS.drop (DL.WkS.drop (DL.WkS.drop (DL.WkS.drop (DL.WkS.drop (DL.WkS.drop (DL.WkS.nil)))))))))) ?_ (DL.wss_cons (DL.ws_asg (DL.we_sum' (DL.wb_wn (wn_lcG bs bkT bkMany D.int [("name", 5), ("chapters", 6)] (DL.wio_own 0 (DL.we_var 1 rfl (Or.inl rfl) rfl) (rfl)) ?_ (rfl) (fun _ _ => (DL.elt_mk _ (fun _ _ _ _ _ => (DL.wg_tup (DL.wgs_cons (DL.wg_name 5 hN (rfl) (Or.inl rfl) (Or.inr rfl)) (DL.wgs_cons (DL.wg_name 6 hN (rfl) (Or.inl rfl) (Or.inr rfl)) (DL.wgs_nil) (rfl)) (rfl)) (rfl) (rfl) (rfl))) (rfl) (fun _ _ _ _ _ => (DL.we_len (DL.wb_of (DL.we_var 6 rfl (Or.inl rfl) rfl)) (DL.len_t) (G.free _ (by decide +kernel)) (rfl) (rfl))) ?_)) hN)) (DL.sum_l) (G.free _ (by decide +kernel)) (rfl) (rfl) (rfl)) (DL.wg_name 3 hN (rfl) (Or.inl rfl) (Or.inl rfl)) (DL.wss_cons (DL.ws_ifN (DL.wt_cmp (DL.wb_of (DL.we_var 3 rfl (Or.inl rfl) rfl)) (DL.wb_of (DL.we_gi (G.int _ _ rfl))) (DL.cmp_gt) (rfl)) ?_ (DL.wss_nil (DL.Wk.refl _) (DL.wss_cons (DL.ws_asg (DL.we_sum' (DL.wb_wn (wn_lcG bs bkT bkSize D.int [("name", 5), ("chapters", 6)] (DL.wio_own 0 (DL.we_var 1 rfl (Or.inl rfl) rfl) (rfl)) ?_ (rfl) (fun _ _ => (DL.elt_mk _ (fun _ _ _ _ _ => (DL.wg_tup (DL.wgs_cons (DL.wg_name 5 hN (rfl) (Or.inl rfl) (Or.inr rfl)) (DL.wgs_cons (DL.wg_name 6 hN (rfl) (Or.inl rfl) (Or.inr rfl)) (DL.wgs_nil) (rfl)) (rfl)) (rfl) (rfl) (rfl))) (rfl) (fun _ _ _ _ _ => (DL.we_sum' (DL.wb_wn ?_) (DL.sum_l) (G.free _ (by decide +kernel)) (rfl) (rfl) (rfl))) (rfl))) hN)) (DL.sum_l) (G.free _ (by decide +kernel)) (rfl) (rfl) (rfl)) (DL.wg_name 4 hN (rfl) (Or.inl rfl) (Or.inl rfl)) (DL.wss_cons (DL.ws_ifN (DL.wt_cmp (DL.wb_of (DL.we_var 4 rfl (Or.inl rfl) rfl)) (DL.wb_of (DL.we_gi (G.int _ _ rfl))) (DL.cmp_gt) (rfl)) ?_ (DL.wss_nil (DL.Wk.refl _) (DL.wss_cons (DL.ws_ret (DL.we_tupleO 0 (DL.we_var 1 rfl (Or.inl rfl) rfl) (rfl) (G.free _ (by decide +kernel)) (rfl) (rfl)) (rfl)))))) (rfl) (rfl) (rfl)))))) (rfl) (rfl) (rfl)))))) hN (rfl) (Or.inl rfl) (rfl) (Or.inl rfl))))))
    · simp; omega
    · intro pre x post hl
      have hx : x ∈ bs := by rw [hl]; simp
      refine (Exists.intro _ (And.intro (DL.wg_name 2 hN (rfl) (Or.inl rfl) (Or.inl rfl)) (DL.wss_cons (DL.ws_append 0 (DL.we_var 1 rfl (Or.inl rfl) rfl) (rfl) (DL.we_call k2 hr (DL.wa_cons (DL.we_var 2 rfl (Or.inl rfl) rfl) (DL.wa_cons (DL.we_wn (wn_lcG pre bkT (fun b : Bk => b.1) D.str [("name", 5), ("chapters", 6)] (DL.wio_own 0 (DL.we_var 1 rfl (Or.inl rfl) rfl) (rfl)) ?_ (rfl) (fun _ _ => (DL.elt_mk _ (fun _ _ _ _ _ => (DL.wg_tup (DL.wgs_cons (DL.wg_name 5 hN (rfl) (Or.inl rfl) (Or.inr rfl)) (DL.wgs_cons (DL.wg_name 6 hN (rfl) (Or.inl rfl) (Or.inr rfl)) (DL.wgs_nil) (rfl)) (rfl)) (rfl) (rfl) (rfl))) (rfl) (fun _ _ _ _ _ => (DL.we_var 5 rfl (Or.inl rfl) rfl)) (rfl))) hN)) (DL.wa_nil) (rfl)) (rfl)) (DL.checkedBookR.mk _ _ ?_ ?_) (rfl) (rfl) (rfl) (rfl)) ?_ (DL.wss_nil2 rfl (DL.Wk.mk (DL.WkO.keep ?_ (DL.WkO.nil)) (DL.WkS.keep (rfl) (DL.WkS.keep (rfl) (DL.WkS.drop (DL.WkS.drop (DL.WkS.drop (DL.WkS.drop (DL.WkS.drop (DL.WkS.drop (DL.WkS.nil))))))))))) (rfl) (rfl) (rfl) (rfl) (rfl)))))
      · exact small (by rw [hl] at h2; simp at h2; omega)
      · exact h4 x hx
      · rw [hl, List.map_append, List.map_cons] at h3
        exact fun z => (List.nodup_append.mp h3).2.2 _ z _ List.mem_cons_self rfl
      · exact small (by rw [hl] at h2; simp at h2 ⊢; omega)
      · simp
    · exact small (by omega)
    · simp [bkMany]
    · simp; omega
    · exact small (by omega)
    · refine (wn_lcG _ chT chSize D.int [("chapter", 7)] (DL.wio_wi (DL.wi_tup (DL.we_var 6 rfl (Or.inl rfl) rfl))) ?_ (rfl) (fun _ _ => (DL.elt_mk _ (fun _ _ _ _ _ => (DL.wg_name 7 hN (rfl) (Or.inl rfl) (Or.inr rfl))) (rfl) (fun _ _ _ _ _ => (DL.we_sum' (DL.wb_of (DL.we_var 7 rfl (Or.inl rfl) rfl)) (DL.sum_t) (G.free _ (by decide +kernel)) (rfl) (rfl) (rfl))) (rfl))) hN)
      exact small (by have := (h4 _ (by assumption)).2.2.1; omega)
    · simp; omega
  · obtain ⟨h1, h2, h3, h4, h5, h6⟩ := h
    refine (DL.wss_cons (DL.ws_ifN (DL.wt_not (DL.wt_tru (DL.wb_of (DL.we_call k1 (L2.Room.mono hr (by omega)) (DL.wa_cons (DL.we_var 0 rfl (Or.inl rfl) rfl) (DL.wa_cons (DL.we_gi (G.int _ _ rfl)) (DL.wa_nil) (rfl)) (rfl)) (DL.isRowR.tup _ _) (rfl) (rfl) (rfl) (rfl))) (DL.tru_bl) (by intros; first | rfl | exact DL.RepL.nil | exact DL.RepL.cons DL.Rep.non DL.RepL.nil))) ?_ (DL.wss_nil (DL.Wk.refl _) (DL.wss_cons (DL.ws_asgN 1 (DL.wn_lst (DL.wa_nil) (by decide +kernel)) (fun p0 => (DL.wss_cons (ws_for (l := bs) (enc := bkL) (fun pre => ⟨[⟨p0, true, .lst (pre.map bkT)⟩], [some (.tup (bs.map bkL)), some (.ref p0), none, none, none, none, none, none]⟩) (DL.wi_tup (DL.we_var 0 rfl (Or.inl rfl) rfl)) (DL.Wk.mk (DL.WkO.keep (rfl) (DL.WkO.nil)) (DL.WkS.keep (rfl) (DL.WkS.keep (rfl) (DL.WkS.drop (DL.WkS.drop (DL.WkS.drop (DL.WkS.drop (DL.WkS.drop (DL.WkS.drop (DL.WkS.nil)))))))))) ?_ (DL.wss_cons (DL.ws_asg (DL.we_sum' (DL.wb_wn (wn_lcG bs bkT bkMany D.int [("name", 5), ("chapters", 6)] (DL.wio_own 0 (DL.we_var 1 rfl (Or.inl rfl) rfl) (rfl)) ?_ (rfl) (fun _ _ => (DL.elt_mk _ (fun _ _ _ _ _ => (DL.wg_tup (DL.wgs_cons (DL.wg_name 5 hN (rfl) (Or.inl rfl) (Or.inr rfl)) (DL.wgs_cons (DL.wg_name 6 hN (rfl) (Or.inl rfl) (Or.inr rfl)) (DL.wgs_nil) (rfl)) (rfl)) (rfl) (rfl) (rfl))) (rfl) (fun _ _ _ _ _ => (DL.we_len (DL.wb_of (DL.we_var 6 rfl (Or.inl rfl) rfl)) (DL.len_t) (G.free _ (by decide +kernel)) (rfl) (rfl))) ?_)) hN)) (DL.sum_l) (G.free _ (by decide +kernel)) (rfl) (rfl) (rfl)) (DL.wg_name 3 hN (rfl) (Or.inl rfl) (Or.inl rfl)) (DL.wss_cons (DL.ws_ifN (DL.wt_cmp (DL.wb_of (DL.we_var 3 rfl (Or.inl rfl) rfl)) (DL.wb_of (DL.we_gi (G.int _ _ rfl))) (DL.cmp_gt) (rfl)) ?_ (DL.wss_nil (DL.Wk.refl _) (DL.wss_cons (DL.ws_asg (DL.we_sum' (DL.wb_wn (wn_lcG bs bkT bkSize D.int [("name", 5), ("chapters", 6)] (DL.wio_own 0 (DL.we_var 1 rfl (Or.inl rfl) rfl) (rfl)) ?_ (rfl) (fun _ _ => (DL.elt_mk _ (fun _ _ _ _ _ => (DL.wg_tup (DL.wgs_cons (DL.wg_name 5 hN (rfl) (Or.inl rfl) (Or.inr rfl)) (DL.wgs_cons (DL.wg_name 6 hN (rfl) (Or.inl rfl) (Or.inr rfl)) (DL.wgs_nil) (rfl)) (rfl)) (rfl) (rfl) (rfl))) (rfl) (fun _ _ _ _ _ => (DL.we_sum' (DL.wb_wn ?_) (DL.sum_l) (G.free _ (by decide +kernel)) (rfl) (rfl) (rfl))) (rfl))) hN)) (DL.sum_l) (G.free _ (by decide +kernel)) (rfl) (rfl) (rfl)) (DL.wg_name 4 hN (rfl) (Or.inl rfl) (Or.inl rfl)) (DL.wss_cons (DL.ws_ifN (DL.wt_cmp (DL.wb_of (DL.we_var 4 rfl (Or.inl rfl) rfl)) (DL.wb_of (DL.we_gi (G.int _ _ rfl))) (DL.cmp_gt) (rfl)) ?_ (DL.wss_nil (DL.Wk.refl _) (DL.wss_cons (DL.ws_ret (DL.we_tupleO 0 (DL.we_var 1 rfl (Or.inl rfl) rfl) (rfl) (G.free _ (by decide +kernel)) (rfl) (rfl)) (rfl)))))) (rfl) (rfl) (rfl)))))) (rfl) (rfl) (rfl)))))) hN (rfl) (Or.inl rfl) (rfl) (Or.inl rfl))))))
    · simp; omega
    · intro pre x post hl
      have hx : x ∈ bs := by rw [hl]; simp
      refine (Exists.intro _ (And.intro (DL.wg_name 2 hN (rfl) (Or.inl rfl) (Or.inl rfl)) (DL.wss_cons (DL.ws_append 0 (DL.we_var 1 rfl (Or.inl rfl) rfl) (rfl) (DL.we_call k2 hr (DL.wa_cons (DL.we_var 2 rfl (Or.inl rfl) rfl) (DL.wa_cons (DL.we_wn (wn_lcG pre bkT (fun b : Bk => b.1) D.str [("name", 5), ("chapters", 6)] (DL.wio_own 0 (DL.we_var 1 rfl (Or.inl rfl) rfl) (rfl)) ?_ (rfl) (fun _ _ => (DL.elt_mk _ (fun _ _ _ _ _ => (DL.wg_tup (DL.wgs_cons (DL.wg_name 5 hN (rfl) (Or.inl rfl) (Or.inr rfl)) (DL.wgs_cons (DL.wg_name 6 hN (rfl) (Or.inl rfl) (Or.inr rfl)) (DL.wgs_nil) (rfl)) (rfl)) (rfl) (rfl) (rfl))) (rfl) (fun _ _ _ _ _ => (DL.we_var 5 rfl (Or.inl rfl) rfl)) (rfl))) hN)) (DL.wa_nil) (rfl)) (rfl)) (DL.checkedBookR.mk _ _ ?_ ?_) (rfl) (rfl) (rfl) (rfl)) ?_ (DL.wss_nil2 rfl (DL.Wk.mk (DL.WkO.keep ?_ (DL.WkO.nil)) (DL.WkS.keep (rfl) (DL.WkS.keep (rfl) (DL.WkS.drop (DL.WkS.drop (DL.WkS.drop (DL.WkS.drop (DL.WkS.drop (DL.WkS.drop (DL.WkS.nil))))))))))) (rfl) (rfl) (rfl) (rfl) (rfl)))))
      · exact small (by rw [hl] at h2; simp at h2; omega)
      · exact h4 x hx
      · rw [hl, List.map_append, List.map_cons] at h3
        exact fun z => (List.nodup_append.mp h3).2.2 _ z _ List.mem_cons_self rfl
      · exact small (by rw [hl] at h2; simp at h2 ⊢; omega)
      · simp
    · exact small (by omega)
    · simp [bkMany]
    · simp; omega
    · exact small (by omega)
    · refine (wn_lcG _ chT chSize D.int [("chapter", 7)] (DL.wio_wi (DL.wi_tup (DL.we_var 6 rfl (Or.inl rfl) rfl))) ?_ (rfl) (fun _ _ => (DL.elt_mk _ (fun _ _ _ _ _ => (DL.wg_name 7 hN (rfl) (Or.inl rfl) (Or.inr rfl))) (rfl) (fun _ _ _ _ _ => (DL.we_sum' (DL.wb_of (DL.we_var 7 rfl (Or.inl rfl) rfl)) (DL.sum_t) (G.free _ (by decide +kernel)) (rfl) (rfl) (rfl))) (rfl))) hN)
      exact small (by have := (h4 _ (by assumption)).2.2.1; omega)
    · simp; omega
end
end DL
/-! V66c: lines. -/
namespace DL
open PySem PySem.Spec PyProof.Rows L2
/-! ### lines -/
def takenD (ls : List Int) : List (Key × D) := ls.map fun l => (.inl l, .bl true)
theorem taken_get (i : Int) : ∀ ls : List Int, (getD' (takenD ls) (.inl i)).isSome = decide (i ∈ ls)
  | [] => rfl
  | l :: ls => by
    have ih := taken_get i ls
    unfold getD' takenD at ih ⊢
    rw [List.map_cons, List.find?_cons]
    by_cases h : l = i
    · subst h
      simp
    · have h1 : decide ((Sum.inl l : Key) = .inl i) = false := decide_eq_false fun z => h (Sum.inl.inj z)
      simp only [h1]
      rw [ih]
      have h2 : i ≠ l := fun z => h z.symm
      simp [h2]
theorem taken_put {i : Int} {ls : List Int} (h : i ∉ ls) : putD (takenD ls) (.inl i) (.bl true) = takenD (ls ++ [i]) := by
  unfold putD
  have e : ((takenD ls).any fun kv => decide (kv.1 = .inl i)) = false := by
    rw [List.any_eq_false]
    intro q hq
    obtain ⟨l, hl, rfl⟩ := List.mem_map.mp hq
    simp only [decide_eq_true_eq]
    intro z
    exact h (Sum.inl.inj z ▸ hl)
  rw [if_neg (by rw [e]; exact Bool.false_ne_true)]
  simp [takenD]
theorem taken_len (ls : List Int) : (takenD ls).length = ls.length := by simp [takenD]
abbrev spanD (q : Int × Int) : D := .tup [.int q.1, .int q.2]
def spanOk (q : Int × Int) : Prop := 0 ≤ q.1 ∧ 1 ≤ q.2 ∧ q.2 ≤ 400 ∧ q.1 + q.2 - 1 ≤ 9999
def spanL (q : Int × Int) : List Int := rgL q.1 (q.1 + q.2)
def spread (sp : List (Int × Int)) : List Int := sp.flatMap spanL
theorem spread_app (a b : List (Int × Int)) : spread (a ++ b) = spread a ++ spread b := by simp [spread]
theorem spread_cons (q : Int × Int) (b : List (Int × Int)) : spread (q :: b) = spanL q ++ spread b := by simp [spread]
inductive checkedPairR : List D → D → Prop
  | mk (q : Int × Int) (ls : List Int) (h : spanOk q) (hn : ∀ k ∈ spanL q, k ∉ ls) : checkedPairR [spanD q, .dK (takenD ls)] (.lst ((spanL q).map D.int))
structure OkSpans (sp : List (Int × Int)) : Prop where
  le : sp.length ≤ 400
  ok : ∀ q ∈ sp, spanOk q
  nd : (spread sp).Nodup
  sz : (spread sp).length ≤ 400
inductive checkedLinesR : List D → D → Prop
  | non (n : Int) (h0 : 0 ≤ n) (h1 : n ≤ 400) : checkedLinesR [.non, .int n] (.lst ((rgL 0 n).map D.int))
  | lst (sp : List (Int × Int)) (n : Int) (h : OkSpans sp) (hn : ((spread sp).length : Int) = n) : checkedLinesR [.lst (sp.map spanD), .int n] (.lst ((spread sp).map D.int))
  | tup (sp : List (Int × Int)) (n : Int) (h : OkSpans sp) (hn : ((spread sp).length : Int) = n) : checkedLinesR [.tup (sp.map spanD), .int n] (.lst ((spread sp).map D.int))
theorem sc36 : FnScope ["lines", "size", "told", "taken", "pair", "line"] ["lines", "size"] (defScope (top 36)) := (⟨rfl, rfl, rfl, by decide +kernel, rfl, by decide +kernel, by decide +kernel⟩)
theorem sc35 : FnScope ["pair", "taken", "first", "many", "lines", "line"] ["pair", "taken"] (defScope (top 35)) := (⟨rfl, rfl, rfl, by decide +kernel, rfl, by decide +kernel, by decide +kernel⟩)
section
variable {P : Program} {w : World} {K : PySem.W.Frag} {mg : Str → Option Value} {base : Heap} {f : Addr} {fd : FuncData} (G : G66 mg)
include G
theorem ok_checkedPair (F : FD K "checked_pair" "checked_pair" (top 35) f fd) (k1 : Kn P w K mg base "is_whole" 1 [] (spR K isWholeR)) : FnOk P w K mg base CX0 2 f fd ["pair", "taken"] (spN K checkedPairR) := by
  have hN := sc35.nd
  refine fn_okN F sc35 (fun ds d h => by cases h <;> rfl) fun cdv A outer s H E hr ds d hR => ?_
  obtain ⟨q, ls, ⟨h1, h2, h3, h4⟩, hn⟩ := hR
  refine (DL.wss_cons (DL.ws_ifN (DL.wt_w (DL.ww_or (DL.wt_not (DL.wt_tru (DL.wb_of (DL.we_isi (DL.wb_of (DL.we_var 0 rfl (Or.inl rfl) rfl)) (DL.wb_of (DL.we_glT (n := "tuple") (G.free _ (by decide +kernel)) (by decide +kernel))) (DL.isi_b (rfl) (rfl)) (G.free _ (by decide +kernel)) (rfl) (rfl) (rfl) (rfl))) (DL.tru_bl) (by intros; first | rfl | exact DL.RepL.nil | exact DL.RepL.cons DL.Rep.non DL.RepL.nil))) (fun _ => (DL.ww_or1 (DL.wt_cmp (DL.wb_of (DL.we_len (DL.wb_of (DL.we_var 0 rfl (Or.inl rfl) rfl)) (DL.len_t) (G.free _ (by decide +kernel)) (rfl) (rfl))) (DL.wb_of (DL.we_int)) (DL.cmp_neI) (rfl)))))) (rfl) (DL.wss_nil (DL.Wk.refl _) (DL.wss_cons (DL.ws_asg (DL.we_var 0 rfl (Or.inl rfl) rfl) (DL.wg_tup (DL.wgs_cons (DL.wg_name 2 hN (rfl) (Or.inl rfl) (Or.inl rfl)) (DL.wgs_cons (DL.wg_name 3 hN (rfl) (Or.inl rfl) (Or.inl rfl)) (DL.wgs_nil) (rfl)) (rfl)) (rfl) (rfl) (rfl)) (DL.wss_cons (DL.ws_ifN (DL.wt_w (DL.ww_or (DL.wt_not (DL.wt_tru (DL.wb_of (DL.we_call k1 hr (DL.wa_cons (DL.we_var 2 rfl (Or.inl rfl) rfl) (DL.wa_cons (DL.we_int) (DL.wa_cons (DL.we_gi (G.int _ _ rfl)) (DL.wa_nil) (rfl)) (rfl)) (rfl)) (DL.isWholeR.mk _ _ _) (rfl) (rfl) (rfl) (rfl))) (DL.tru_bl) (by intros; first | rfl | exact DL.RepL.nil | exact DL.RepL.cons DL.Rep.non DL.RepL.nil))) (fun _ => (DL.ww_or1 (DL.wt_not (DL.wt_tru (DL.wb_of (DL.we_call k1 hr (DL.wa_cons (DL.we_var 3 rfl (Or.inl rfl) rfl) (DL.wa_cons (DL.we_int) (DL.wa_cons (DL.we_gi (G.int _ _ rfl)) (DL.wa_nil) (rfl)) (rfl)) (rfl)) (DL.isWholeR.mk _ _ _) (rfl) (rfl) (rfl) (rfl))) (DL.tru_bl) (by intros; first | rfl | exact DL.RepL.nil | exact DL.RepL.cons DL.Rep.non DL.RepL.nil))))))) ?_ (DL.wss_nil (DL.Wk.refl _) (DL.wss_cons (DL.ws_ifN (DL.wt_cmp (DL.wb_of (DL.we_bin (DL.wb_of (DL.we_bin (DL.wb_of (DL.we_var 2 rfl (Or.inl rfl) rfl)) (DL.wb_of (DL.we_var 3 rfl (Or.inl rfl) rfl)) (DL.bin_add))) (DL.wb_of (DL.we_int)) (DL.bin_sub))) (DL.wb_of (DL.we_gi (G.int _ _ rfl))) (DL.cmp_gt) (rfl)) ?_ (DL.wss_nil (DL.Wk.refl _) (DL.wss_cons (DL.ws_asgN 4 (DL.wn_listRg (DL.wr_2 (DL.wb_of (DL.we_var 2 rfl (Or.inl rfl) rfl)) (DL.wb_of (DL.we_bin (DL.wb_of (DL.we_var 2 rfl (Or.inl rfl) rfl)) (DL.wb_of (DL.we_var 3 rfl (Or.inl rfl) rfl)) (DL.bin_add))) (G.free _ (by decide +kernel)) (rfl) (rfl) (rfl) (rfl)) ?_ (G.free _ (by decide +kernel)) (rfl) (rfl) (rfl)) (fun p0 => (DL.wss_cons (ws_forO (l := spanL q) (enc := D.int) (a := p0) (nb := true) 0 (fun _ => ⟨[⟨p0, true, .lst ((spanL q).map D.int)⟩], [some (spanD q), some (.dK (takenD ls)), some (.int q.1), some (.int q.2), some (.ref p0), none]⟩) (DL.we_var 4 rfl (Or.inl rfl) rfl) (by intros; first | rfl | exact DL.RepL.nil | exact DL.RepL.cons DL.Rep.non DL.RepL.nil) (DL.Wk.mk (DL.WkO.keep (rfl) (DL.WkO.nil)) (DL.WkS.keep (rfl) (DL.WkS.keep (rfl) (DL.WkS.keep (rfl) (DL.WkS.keep (rfl) (DL.WkS.keep (rfl) (DL.WkS.drop (DL.WkS.nil)))))))) ?_ (DL.wss_cons (DL.ws_ret (DL.we_var 4 rfl (Or.inl rfl) rfl) (⟨_, 0, rfl, rfl⟩)))))) hN (rfl) (Or.inl rfl) (rfl) (Or.inl rfl))))))))) (rfl) (rfl) (rfl))))))
  · simp; omega
  · simp; omega
  · exact .of_le (by omega) (by omega) (by omega) (by omega)
  · intro pre x post hl
    refine (Exists.intro _ (And.intro (DL.wg_name 5 hN (rfl) (Or.inl rfl) (Or.inl rfl)) (DL.wss_cons (DL.ws_ifN (DL.wt_cmp (DL.wb_of (DL.we_var 5 rfl (Or.inl rfl) rfl)) (DL.wb_of (DL.we_var 1 rfl (Or.inl rfl) rfl)) (DL.cmp_inI (DL.room_u hr)) (rfl)) ?_ (DL.wss_nil (DL.Wk.refl _) (DL.wss_nil2 rfl (DL.Wk.mk (DL.WkO.keep (rfl) (DL.WkO.nil)) (DL.WkS.keep (rfl) (DL.WkS.keep (rfl) (DL.WkS.keep (rfl) (DL.WkS.keep (rfl) (DL.WkS.keep (rfl) (DL.WkS.drop (DL.WkS.nil))))))))))))))
    rw [taken_get]
    exact decide_eq_false (hn x (by rw [hl]; simp))
theorem ok_checkedLines (F : FD K "checked_lines" "checked_lines" (top 36) f fd) (k1 : Kn P w K mg base "checked_pair" 2 [] (spN K checkedPairR)) : FnOk P w K mg base CX0 3 f fd ["lines", "size"] (spR K checkedLinesR) := by
  have hN := sc36.nd
  refine fn_okR F sc36 (fun ds d h => by cases h <;> rfl) fun cdv A outer s H E hr ds d hR => ?_
  rcases hR with ⟨n, h0, h1⟩ | ⟨sp, n, h, hn⟩ | ⟨sp, n, h, hn⟩
  · refine (DL.wss_cons (DL.ws_if (DL.wt_isNone (DL.wb_of (DL.we_var 0 rfl (Or.inl rfl) rfl)) (by first | (intro z; cases z; done) | fail)) (fun _ => (DL.wss_cons (DL.ws_ret (DL.we_wn (DL.wn_listRg (DL.wr_1 (DL.wb_of (DL.we_var 1 rfl (Or.inl rfl) rfl)) (G.free _ (by decide +kernel)) (rfl) (rfl)) ?_ (G.free _ (by decide +kernel)) (rfl) (rfl) (rfl))) (rfl)))) (fun z => nomatch z)))
    exact .of_le (by omega) (by omega) (by omega) (by omega)
  · obtain ⟨l1, l2, l3, l4⟩ := h
    refine (DL.wss_cons (DL.ws_if (DL.wt_isNone (DL.wb_of (DL.we_var 0 rfl (Or.inl rfl) rfl)) (by first | (intro z; cases z; done) | fail)) (fun z => nomatch z) (fun _ => (DL.wss_nil (DL.Wk.refl _) (DL.wss_cons (DL.ws_ifN (DL.wt_w (DL.ww_or (DL.wt_not (DL.wt_tru (DL.wb_of (DL.we_isT (ts := ["list", "tuple"]) (DL.wb_of (DL.we_var 0 rfl (Or.inl rfl) rfl)) (DL.wab_cons (DL.wb_of (DL.we_glT (n := "list") (G.free _ (by decide +kernel)) (by decide +kernel))) (DL.wab_cons (DL.wb_of (DL.we_glT (n := "tuple") (G.free _ (by decide +kernel)) (by decide +kernel))) (DL.wab_nil) (rfl)) (rfl)) (rfl) (rfl) (G.free _ (by decide +kernel)) (by decide +kernel) (rfl) (rfl) (rfl) (rfl))) (DL.tru_bl) (by intros; first | rfl | exact DL.RepL.nil | exact DL.RepL.cons DL.Rep.non DL.RepL.nil))) (fun _ => (DL.ww_or1 (DL.wt_cmp (DL.wb_of (DL.we_len (DL.wb_of (DL.we_var 0 rfl (Or.inl rfl) rfl)) (DL.len_l) (G.free _ (by decide +kernel)) (rfl) (rfl))) (DL.wb_of (DL.we_gi (G.int _ _ rfl))) (DL.cmp_gt) (rfl)))))) ?_ (DL.wss_nil (DL.Wk.refl _) (DL.wss_cons (DL.ws_asgN 2 (DL.wn_lst (DL.wa_nil) (by decide +kernel)) (fun p0 => (DL.wss_cons (DL.ws_asgN 3 (DL.wn_dK) (fun p1 => (DL.wss_cons (ws_for (l := sp) (enc := spanD) (fun pre => ⟨[⟨p0, true, .lst ((spread pre).map D.int)⟩, ⟨p1, true, .dK (takenD (spread pre))⟩], [some (.lst (sp.map spanD)), some (.int n), some (.ref p0), some (.ref p1), none, none]⟩) (DL.wi_list (DL.we_var 0 rfl (Or.inl rfl) rfl)) (DL.Wk.mk (DL.WkO.keep (rfl) (DL.WkO.keep (rfl) (DL.WkO.nil))) (DL.WkS.keep (rfl) (DL.WkS.keep (rfl) (DL.WkS.keep (rfl) (DL.WkS.keep (rfl) (DL.WkS.drop (DL.WkS.drop (DL.WkS.nil)))))))) ?_ (DL.wss_cons (DL.ws_ifN (DL.wt_cmp (DL.wb_of (DL.we_len (DL.wb_own 0 (DL.we_var 2 rfl (Or.inl rfl) rfl) (rfl)) (DL.len_l) (G.free _ (by decide +kernel)) (rfl) (rfl))) (DL.wb_of (DL.we_var 1 rfl (Or.inl rfl) rfl)) (DL.cmp_neI) (rfl)) ?_ (DL.wss_nil (DL.Wk.refl _) (DL.wss_cons (DL.ws_retF 0 (DL.we_var 2 rfl (Or.inl rfl) rfl) (rfl) (rfl))))))))) hN (rfl) (Or.inl rfl) (rfl) (Or.inl rfl)))) hN (rfl) (Or.inl rfl) (rfl) (Or.inl rfl))))))))))
    · simp; omega
    · intro pre q post hl
      have hs : spread sp = spread pre ++ (spanL q ++ spread post) := by rw [hl, spread_app, spread_cons]
      have hq := l2 q (by rw [hl]; simp)
      have hd := l3
      rw [hs] at hd l4
      rw [List.length_append, List.length_append] at l4
      have hdis : ∀ k ∈ spanL q, k ∉ spread pre := fun k hk z => (List.nodup_append.mp hd).2.2 k z k (List.mem_append_left _ hk) rfl
      refine (Exists.intro _ (And.intro (DL.wg_name 4 hN (rfl) (Or.inl rfl) (Or.inl rfl)) (DL.wss_cons (ws_for (l := spanL q) (enc := D.int) (fun pre2 => ⟨[⟨p0, true, .lst ((spread pre ++ pre2).map D.int)⟩, ⟨p1, true, .dK (takenD (spread pre ++ pre2))⟩], [some (.lst (sp.map spanD)), some (.int n), some (.ref p0), some (.ref p1), some (spanD q), none]⟩) (DL.wi_list (DL.we_wn (DL.wn_callB k1 hr (DL.wab_cons (DL.wb_of (DL.we_var 4 rfl (Or.inl rfl) rfl)) (DL.wab_cons (DL.wb_own 1 (DL.we_var 3 rfl (Or.inl rfl) rfl) (rfl)) (DL.wab_nil) (rfl)) (rfl)) (DL.checkedPairR.mk _ _ hq hdis) (DL.all_int _) (rfl) (rfl) (rfl) (rfl)))) (DL.Wk.mk (DL.WkO.keep ?_ (DL.WkO.keep ?_ (DL.WkO.nil))) (DL.WkS.keep (rfl) (DL.WkS.keep (rfl) (DL.WkS.keep (rfl) (DL.WkS.keep (rfl) (DL.WkS.keep (rfl) (DL.WkS.drop (DL.WkS.nil)))))))) ?_ (DL.wss_nil2 rfl (DL.Wk.mk (DL.WkO.keep ?_ (DL.WkO.keep ?_ (DL.WkO.nil))) (DL.WkS.keep (rfl) (DL.WkS.keep (rfl) (DL.WkS.keep (rfl) (DL.WkS.keep (rfl) (DL.WkS.drop (DL.WkS.drop (DL.WkS.nil)))))))))))))
      · rw [List.append_nil]
      · rw [List.append_nil]
      · intro pre2 x post2 hl2
        have hx : x ∈ spanL q := by rw [hl2]; simp
        have hx1 : x ∉ spread pre ++ pre2 := by
          rw [List.mem_append]
          rintro (z | z)
          · exact hdis x hx z
          · have hd2 := (List.nodup_append.mp (List.nodup_append.mp hd).2.1).1
            rw [hl2] at hd2
            exact (List.nodup_append.mp hd2).2.2 _ z _ List.mem_cons_self rfl
        have hlen : (spread pre).length + pre2.length ≤ 400 := by rw [hl2] at l4; simp at l4; omega
        refine (Exists.intro _ (And.intro (DL.wg_name 5 hN (rfl) (Or.inl rfl) (Or.inl rfl)) (DL.wss_cons (DL.ws_putK' 1 (DL.we_var 3 rfl (Or.inl rfl) rfl) (rfl) (DL.wb_of (DL.we_var 5 rfl (Or.inl rfl) rfl)) (rfl) (DL.we_bl) ?_ (DL.room_u hr) (DL.wss_cons (DL.ws_append 0 (DL.we_var 2 rfl (Or.inl rfl) rfl) (rfl) (DL.we_var 5 rfl (Or.inl rfl) rfl) ?_ (DL.wss_nil2 rfl (DL.Wk.mk (DL.WkO.keep ?_ (DL.WkO.keep ?_ (DL.WkO.nil))) (DL.WkS.keep (rfl) (DL.WkS.keep (rfl) (DL.WkS.keep (rfl) (DL.WkS.keep (rfl) (DL.WkS.keep (rfl) (DL.WkS.drop (DL.WkS.nil))))))))) (rfl) (rfl) (rfl) (rfl) (rfl))) (rfl)))))
        · rw [taken_len]; exact small (by simp; omega)
        · exact small (by simp; omega)
        · simp
        · rw [taken_put hx1, List.append_assoc]
      · rw [spread_app, spread_cons]; simp [spread]
      · rw [spread_app, spread_cons]; simp [spread]
    · simp [hn]
  · obtain ⟨l1, l2, l3, l4⟩ := h
    refine (DL.wss_cons (DL.ws_if (DL.wt_isNone (DL.wb_of (DL.we_var 0 rfl (Or.inl rfl) rfl)) (by first | (intro z; cases z; done) | fail)) (fun z => nomatch z) (fun _ => (DL.wss_nil (DL.Wk.refl _) (DL.wss_cons (DL.ws_ifN (DL.wt_w (DL.ww_or (DL.wt_not (DL.wt_tru (DL.wb_of (DL.we_isT (ts := ["list", "tuple"]) (DL.wb_of (DL.we_var 0 rfl (Or.inl rfl) rfl)) (DL.wab_cons (DL.wb_of (DL.we_glT (n := "list") (G.free _ (by decide +kernel)) (by decide +kernel))) (DL.wab_cons (DL.wb_of (DL.we_glT (n := "tuple") (G.free _ (by decide +kernel)) (by decide +kernel))) (DL.wab_nil) (rfl)) (rfl)) (rfl) (rfl) (G.free _ (by decide +kernel)) (by decide +kernel) (rfl) (rfl) (rfl) (rfl))) (DL.tru_bl) (by intros; first | rfl | exact DL.RepL.nil | exact DL.RepL.cons DL.Rep.non DL.RepL.nil))) (fun _ => (DL.ww_or1 (DL.wt_cmp (DL.wb_of (DL.we_len (DL.wb_of (DL.we_var 0 rfl (Or.inl rfl) rfl)) (DL.len_t) (G.free _ (by decide +kernel)) (rfl) (rfl))) (DL.wb_of (DL.we_gi (G.int _ _ rfl))) (DL.cmp_gt) (rfl)))))) ?_ (DL.wss_nil (DL.Wk.refl _) (DL.wss_cons (DL.ws_asgN 2 (DL.wn_lst (DL.wa_nil) (by decide +kernel)) (fun p0 => (DL.wss_cons (DL.ws_asgN 3 (DL.wn_dK) (fun p1 => (DL.wss_cons (ws_for (l := sp) (enc := spanD) (fun pre => ⟨[⟨p0, true, .lst ((spread pre).map D.int)⟩, ⟨p1, true, .dK (takenD (spread pre))⟩], [some (.tup (sp.map spanD)), some (.int n), some (.ref p0), some (.ref p1), none, none]⟩) (DL.wi_tup (DL.we_var 0 rfl (Or.inl rfl) rfl)) (DL.Wk.mk (DL.WkO.keep (rfl) (DL.WkO.keep (rfl) (DL.WkO.nil))) (DL.WkS.keep (rfl) (DL.WkS.keep (rfl) (DL.WkS.keep (rfl) (DL.WkS.keep (rfl) (DL.WkS.drop (DL.WkS.drop (DL.WkS.nil)))))))) ?_ (DL.wss_cons (DL.ws_ifN (DL.wt_cmp (DL.wb_of (DL.we_len (DL.wb_own 0 (DL.we_var 2 rfl (Or.inl rfl) rfl) (rfl)) (DL.len_l) (G.free _ (by decide +kernel)) (rfl) (rfl))) (DL.wb_of (DL.we_var 1 rfl (Or.inl rfl) rfl)) (DL.cmp_neI) (rfl)) ?_ (DL.wss_nil (DL.Wk.refl _) (DL.wss_cons (DL.ws_retF 0 (DL.we_var 2 rfl (Or.inl rfl) rfl) (rfl) (rfl))))))))) hN (rfl) (Or.inl rfl) (rfl) (Or.inl rfl)))) hN (rfl) (Or.inl rfl) (rfl) (Or.inl rfl))))))))))
    · simp; omega
    · intro pre q post hl
      have hs : spread sp = spread pre ++ (spanL q ++ spread post) := by rw [hl, spread_app, spread_cons]
      have hq := l2 q (by rw [hl]; simp)
      have hd := l3
      rw [hs] at hd l4
      rw [List.length_append, List.length_append] at l4
      have hdis : ∀ k ∈ spanL q, k ∉ spread pre := fun k hk z => (List.nodup_append.mp hd).2.2 k z k (List.mem_append_left _ hk) rfl
      refine (Exists.intro _ (And.intro (DL.wg_name 4 hN (rfl) (Or.inl rfl) (Or.inl rfl)) (DL.wss_cons (ws_for (l := spanL q) (enc := D.int) (fun pre2 => ⟨[⟨p0, true, .lst ((spread pre ++ pre2).map D.int)⟩, ⟨p1, true, .dK (takenD (spread pre ++ pre2))⟩], [some (.tup (sp.map spanD)), some (.int n), some (.ref p0), some (.ref p1), some (spanD q), none]⟩) (DL.wi_list (DL.we_wn (DL.wn_callB k1 hr (DL.wab_cons (DL.wb_of (DL.we_var 4 rfl (Or.inl rfl) rfl)) (DL.wab_cons (DL.wb_own 1 (DL.we_var 3 rfl (Or.inl rfl) rfl) (rfl)) (DL.wab_nil) (rfl)) (rfl)) (DL.checkedPairR.mk _ _ hq hdis) (DL.all_int _) (rfl) (rfl) (rfl) (rfl)))) (DL.Wk.mk (DL.WkO.keep ?_ (DL.WkO.keep ?_ (DL.WkO.nil))) (DL.WkS.keep (rfl) (DL.WkS.keep (rfl) (DL.WkS.keep (rfl) (DL.WkS.keep (rfl) (DL.WkS.keep (rfl) (DL.WkS.drop (DL.WkS.nil)))))))) ?_ (DL.wss_nil2 rfl (DL.Wk.mk (DL.WkO.keep ?_ (DL.WkO.keep ?_ (DL.WkO.nil))) (DL.WkS.keep (rfl) (DL.WkS.keep (rfl) (DL.WkS.keep (rfl) (DL.WkS.keep (rfl) (DL.WkS.drop (DL.WkS.drop (DL.WkS.nil)))))))))))))
      · rw [List.append_nil]
      · rw [List.append_nil]
      · intro pre2 x post2 hl2
        have hx : x ∈ spanL q := by rw [hl2]; simp
        have hx1 : x ∉ spread pre ++ pre2 := by
          rw [List.mem_append]
          rintro (z | z)
          · exact hdis x hx z
          · have hd2 := (List.nodup_append.mp (List.nodup_append.mp hd).2.1).1
            rw [hl2] at hd2
            exact (List.nodup_append.mp hd2).2.2 _ z _ List.mem_cons_self rfl
        have hlen : (spread pre).length + pre2.length ≤ 400 := by rw [hl2] at l4; simp at l4; omega
        refine (Exists.intro _ (And.intro (DL.wg_name 5 hN (rfl) (Or.inl rfl) (Or.inl rfl)) (DL.wss_cons (DL.ws_putK' 1 (DL.we_var 3 rfl (Or.inl rfl) rfl) (rfl) (DL.wb_of (DL.we_var 5 rfl (Or.inl rfl) rfl)) (rfl) (DL.we_bl) ?_ (DL.room_u hr) (DL.wss_cons (DL.ws_append 0 (DL.we_var 2 rfl (Or.inl rfl) rfl) (rfl) (DL.we_var 5 rfl (Or.inl rfl) rfl) ?_ (DL.wss_nil2 rfl (DL.Wk.mk (DL.WkO.keep ?_ (DL.WkO.keep ?_ (DL.WkO.nil))) (DL.WkS.keep (rfl) (DL.WkS.keep (rfl) (DL.WkS.keep (rfl) (DL.WkS.keep (rfl) (DL.WkS.keep (rfl) (DL.WkS.drop (DL.WkS.nil))))))))) (rfl) (rfl) (rfl) (rfl) (rfl))) (rfl)))))
        · rw [taken_len]; exact small (by simp; omega)
        · exact small (by simp; omega)
        · simp
        · rw [taken_put hx1, List.append_assoc]
      · rw [spread_app, spread_cons]; simp [spread]
      · rw [spread_app, spread_cons]; simp [spread]
    · simp [hn]
end
end DL
/-! V66d: laid_out, stretches_of, counts_of. -/
namespace DL
open PySem PySem.Spec PyProof.Rows L2
/-- a part's place -/
structure Pl where
  n : Str
  c : Int
  v : Int
  p : Int
abbrev plD (x : Pl) : D := .tup [.str x.n, .int x.c, .int x.v, .int x.p]
def vsPl (n : Str) (c : Int) (q : Int × Int) : List Pl := (rgL 1 (q.2 + 1)).map fun p => ⟨n, c, q.1, p⟩
def chPl (n : Str) (q : Int × List Int) : List Pl := (enumL 1 q.2).flatMap (vsPl n q.1)
def bkPl (b : Bk) : List Pl := (enumL 1 b.2).flatMap (chPl b.1)
def allPl (bs : List Bk) : List Pl := bs.flatMap bkPl
theorem allPl_app (a : List Bk) (x : Bk) (b : List Bk) : allPl (a ++ x :: b) = allPl a ++ (bkPl x ++ allPl b) := by simp [allPl]
structure OkPlaces (bs : List Bk) : Prop where
  sz : (allPl bs).length ≤ 400
  pt : ∀ b ∈ bs, ∀ c ∈ b.2, ∀ n ∈ c, (1 : Int) ≤ n ∧ n ≤ 4
inductive laidOutR : List D → D → Prop
  | mk (bs : List Bk) (h : OkPlaces bs) : laidOutR [.tup (bs.map bkT)] (.lst ((allPl bs).map plD))
def Pairs (kvs : List (List Key × D)) : Prop := ∀ q ∈ kvs, ∃ a b : Int, q.2 = .tup [.int a, .int b]
theorem Pairs.get {kvs : List (List Key × D)} (h : Pairs kvs) (k : List Key) (i j : Int) : ∃ a b : Int, (getD' kvs k).getD (.tup [.int i, .int j]) = .tup [.int a, .int b] := by
  cases e : getD' kvs k with
  | none => exact ⟨i, j, rfl⟩
  | some d =>
    obtain ⟨q, hq, rfl⟩ := getD_mem e
    obtain ⟨a, b, z⟩ := h q hq
    exact ⟨a, b, z⟩
theorem Pairs.put {kvs : List (List Key × D)} (h : Pairs kvs) (k : List Key) (i j : Int) : Pairs (putD kvs k (.tup [.int i, .int j])) := fun q hq => by
  rcases putD_mem hq with z | z
  · exact h q z
  · exact ⟨i, j, z⟩
inductive stretchesR : List D → D → Prop
  | mk (ps : List Pl) (h : ps.length ≤ 400) : stretchesR [.lst (ps.map plD)] .any
theorem sc38 : FnScope ["places", "stretches", "number", "place", "deep", "first", "last"] ["places"] (defScope (top 38)) := (⟨rfl, rfl, rfl, by decide +kernel, rfl, by decide +kernel, by decide +kernel⟩)
inductive countsR : List D → D → Prop
  | mk (bs : List Bk) (h : OkBooks bs) : countsR [.tup (bs.map bkT)] .any
theorem sc39 : FnScope ["books", "counts", "name", "chapters", "chapter", "verses", "verse", "parts"] ["books"] (defScope (top 39)) := (⟨rfl, rfl, rfl, by decide +kernel, rfl, by decide +kernel, by decide +kernel⟩)
theorem sc37 : FnScope ["books", "places", "name", "chapters", "chapter", "verses", "verse", "parts", "part"] ["books"] (defScope (top 37)) := (⟨rfl, rfl, rfl, by decide +kernel, rfl, by decide +kernel, by decide +kernel⟩)
section
variable {P : Program} {w : World} {K : PySem.W.Frag} {mg : Str → Option Value} {base : Heap} {f : Addr} {fd : FuncData} (G : G66 mg)
include G
theorem ok_laidOut (F : FD K "laid_out" "laid_out" (top 37) f fd) : FnOk P w K mg base CX0 1 f fd ["books"] (spR K laidOutR) := by
  have hN := sc37.nd
  refine fn_okR F sc37 (fun ds d h => by cases h <;> rfl) fun cdv A outer s H E hr ds d hR => ?_
  obtain ⟨bs, ⟨h1, h2⟩⟩ := hR
  refine (DL.wss_cons (DL.ws_asgN 1 (DL.wn_lst (DL.wa_nil) (by decide +kernel)) (fun p0 => (DL.wss_cons (ws_for (l := bs) (enc := bkT) (fun pre => ⟨[⟨p0, true, .lst ((allPl pre).map plD)⟩], [some (.tup (bs.map bkT)), some (.ref p0), none, none, none, none, none, none, none]⟩) (DL.wi_tup (DL.we_var 0 rfl (Or.inl rfl) rfl)) (DL.Wk.mk (DL.WkO.keep (rfl) (DL.WkO.nil)) (DL.WkS.keep (rfl) (DL.WkS.keep (rfl) (DL.WkS.drop (DL.WkS.drop (DL.WkS.drop (DL.WkS.drop (DL.WkS.drop (DL.WkS.drop (DL.WkS.drop (DL.WkS.nil))))))))))) ?_ (DL.wss_cons (DL.ws_retF 0 (DL.we_var 1 rfl (Or.inl rfl) rfl) (rfl) (rfl)))))) hN (rfl) (Or.inl rfl) (rfl) (Or.inl rfl)))
  intro pre b post hl
  have hb : b ∈ bs := by rw [hl]; simp
  have e1 : allPl bs = allPl pre ++ (bkPl b ++ allPl post) := by rw [hl, allPl_app]
  rw [e1] at h1
  simp only [List.length_append] at h1
  refine (Exists.intro _ (And.intro (DL.wg_tup (DL.wgs_cons (DL.wg_name 2 hN (rfl) (Or.inr rfl) (Or.inl rfl)) (DL.wgs_cons (DL.wg_name 3 hN (rfl) (Or.inl rfl) (Or.inl rfl)) (DL.wgs_nil) (rfl)) (rfl)) (rfl) (rfl) (rfl)) (DL.wss_cons (ws_for (l := enumL 1 b.2) (enc := enumEnc chT) (fun pre2 => ⟨[⟨p0, true, .lst ((allPl pre ++ pre2.flatMap (chPl b.1)).map plD)⟩], [some (.tup (bs.map bkT)), some (.ref p0), some (.str b.1), some (.tup (b.2.map chT)), none, none, none, none, none]⟩) (DL.wi_enumT (DL.we_var 3 rfl (Or.inl rfl) rfl) (DL.wb_of (DL.we_int)) (by decide +kernel) (by decide +kernel) (G.free _ (by decide +kernel)) (rfl) (rfl) (rfl) (rfl) (rfl) (rfl) (rfl)) (DL.Wk.mk (DL.WkO.keep ?_ (DL.WkO.nil)) (DL.WkS.keep (rfl) (DL.WkS.keep (rfl) (DL.WkS.keep (rfl) (DL.WkS.keep (rfl) (DL.WkS.drop (DL.WkS.drop (DL.WkS.drop (DL.WkS.drop (DL.WkS.drop (DL.WkS.nil))))))))))) ?_ (DL.wss_nil2 rfl (DL.Wk.mk (DL.WkO.keep ?_ (DL.WkO.nil)) (DL.WkS.keep (rfl) (DL.WkS.keep (rfl) (DL.WkS.drop (DL.WkS.drop (DL.WkS.drop (DL.WkS.drop (DL.WkS.drop (DL.WkS.drop (DL.WkS.drop (DL.WkS.nil))))))))))))))))
  · simp
  · intro pre2 x post2 hl2
    obtain ⟨ca, cb, hc, _, _, _⟩ := enumL_split hl2
    have hx : x.2 ∈ b.2 := by rw [hc]; simp
    have e2 : bkPl b = pre2.flatMap (chPl b.1) ++ (chPl b.1 x ++ post2.flatMap (chPl b.1)) := by
      show (enumL 1 b.2).flatMap (chPl b.1) = _
      rw [hl2]
      simp
    rw [e2] at h1
    simp only [List.length_append] at h1
    refine (Exists.intro _ (And.intro (DL.wg_tup (DL.wgs_cons (DL.wg_name 4 hN (rfl) (Or.inr rfl) (Or.inl rfl)) (DL.wgs_cons (DL.wg_name 5 hN (rfl) (Or.inl rfl) (Or.inl rfl)) (DL.wgs_nil) (rfl)) (rfl)) (rfl) (rfl) (rfl)) (DL.wss_cons (ws_for (l := enumL 1 x.2) (enc := enumEnc D.int) (fun pre3 => ⟨[⟨p0, true, .lst ((allPl pre ++ pre2.flatMap (chPl b.1) ++ pre3.flatMap (vsPl b.1 x.1)).map plD)⟩], [some (.tup (bs.map bkT)), some (.ref p0), some (.str b.1), some (.tup (b.2.map chT)), some (.int x.1), some (chT x.2), none, none, none]⟩) (DL.wi_enumT (DL.we_var 5 rfl (Or.inl rfl) rfl) (DL.wb_of (DL.we_int)) (by decide +kernel) (by decide +kernel) (G.free _ (by decide +kernel)) (rfl) (rfl) (rfl) (rfl) (rfl) (rfl) (rfl)) (DL.Wk.mk (DL.WkO.keep ?_ (DL.WkO.nil)) (DL.WkS.keep (rfl) (DL.WkS.keep (rfl) (DL.WkS.keep (rfl) (DL.WkS.keep (rfl) (DL.WkS.keep (rfl) (DL.WkS.keep (rfl) (DL.WkS.drop (DL.WkS.drop (DL.WkS.drop (DL.WkS.nil))))))))))) ?_ (DL.wss_nil2 rfl (DL.Wk.mk (DL.WkO.keep ?_ (DL.WkO.nil)) (DL.WkS.keep (rfl) (DL.WkS.keep (rfl) (DL.WkS.keep (rfl) (DL.WkS.keep (rfl) (DL.WkS.drop (DL.WkS.drop (DL.WkS.drop (DL.WkS.drop (DL.WkS.drop (DL.WkS.nil))))))))))))))))
    · simp
    · intro pre3 q post3 hl3
      obtain ⟨va, vb, hv, _, _, _⟩ := enumL_split hl3
      have hq := h2 b hb x.2 hx q.2 (by rw [hv]; simp)
      have e3 : chPl b.1 x = pre3.flatMap (vsPl b.1 x.1) ++ (vsPl b.1 x.1 q ++ post3.flatMap (vsPl b.1 x.1)) := by
        show (enumL 1 x.2).flatMap (vsPl b.1 x.1) = _
        rw [hl3]
        simp
      rw [e3] at h1
      simp only [List.length_append] at h1
      refine (Exists.intro _ (And.intro (DL.wg_tup (DL.wgs_cons (DL.wg_name 6 hN (rfl) (Or.inr rfl) (Or.inl rfl)) (DL.wgs_cons (DL.wg_name 7 hN (rfl) (Or.inl rfl) (Or.inl rfl)) (DL.wgs_nil) (rfl)) (rfl)) (rfl) (rfl) (rfl)) (DL.wss_cons (DL.ws_extend 0 (DL.we_var 1 rfl (Or.inl rfl) rfl) (rfl) (wn_lcG (rgL 1 (q.2 + 1)) D.int (fun p => (⟨b.1, x.1, q.1, p⟩ : Pl)) plD [("part", 8)] (DL.wio_wi (DL.wi_rg2 (DL.wb_of (DL.we_int)) (DL.wb_of (DL.we_bin (DL.wb_of (DL.we_var 7 rfl (Or.inl rfl) rfl)) (DL.wb_of (DL.we_int)) (DL.bin_add))) (by decide +kernel) (by decide +kernel) ?_ ?_ (G.free _ (by decide +kernel)) (rfl) (rfl) (rfl))) ?_ (rfl) (fun _ _ => (DL.elt_mk _ (fun _ _ _ _ _ => (DL.wg_name 8 hN (rfl) (Or.inl rfl) (Or.inr rfl))) (rfl) (fun _ _ _ _ _ => (DL.we_tup (DL.wa_cons (DL.we_var 2 rfl (Or.inr (Or.inl rfl)) rfl) (DL.wa_cons (DL.we_var 4 rfl (Or.inr (Or.inl rfl)) rfl) (DL.wa_cons (DL.we_var 6 rfl (Or.inr (Or.inl rfl)) rfl) (DL.wa_cons (DL.we_var 8 rfl (Or.inl rfl) rfl) (DL.wa_nil) (rfl)) (rfl)) (rfl)) (rfl)) (Nat.le_of_ble_eq_true rfl))) (rfl))) hN) ?_ (DL.wss_nil2 rfl (DL.Wk.mk (DL.WkO.keep ?_ (DL.WkO.nil)) (DL.WkS.keep (rfl) (DL.WkS.keep (rfl) (DL.WkS.keep (rfl) (DL.WkS.keep (rfl) (DL.WkS.keep (rfl) (DL.WkS.keep (rfl) (DL.WkS.drop (DL.WkS.drop (DL.WkS.drop (DL.WkS.nil)))))))))))) (rfl) (rfl) (rfl) (rfl) (rfl)))))
      · omega
      · omega
      · exact small (by simp [rgL]; omega)
      · exact smallE (by simp [vsPl] at h1 ⊢; omega)
      · simp [vsPl, List.append_assoc]
    · simp [List.append_assoc, chPl]
  · simp [allPl, bkPl]
theorem ok_stretches (F : FD K "stretches_of" "stretches_of" (top 38) f fd) : FnOk P w K mg base CX0 1 f fd ["places"] (spR K stretchesR) := by
  have hN := sc38.nd
  refine fn_okR F sc38 (fun ds d h => by cases h <;> rfl) fun cdv A outer s H E hr ds d hR => ?_
  obtain ⟨ps, h⟩ := hR
  refine (DL.wss_cons (DL.ws_asgN 1 (DL.wn_dT) (fun p0 => (DL.wss_cons (ws_forS (l := enumL 0 ps) (enc := enumEnc plD) (fun _ kvs => ⟨[⟨p0, true, .dT kvs⟩], [some (.lst (ps.map plD)), some (.ref p0), none, none, none, none, none]⟩) (fun pre kvs => Pairs kvs ∧ kvs.length ≤ 4 * pre.length) [] (DL.wi_enumL (DL.we_var 0 rfl (Or.inl rfl) rfl) (G.free _ (by decide +kernel)) (rfl) (rfl)) ⟨fun _ h => (by cases h), Nat.zero_le _⟩ (DL.Wk.mk (DL.WkO.keep (rfl) (DL.WkO.nil)) (DL.WkS.keep (rfl) (DL.WkS.keep (rfl) (DL.WkS.drop (DL.WkS.drop (DL.WkS.drop (DL.WkS.drop (DL.WkS.drop (DL.WkS.nil))))))))) ?_ ?_))) hN (rfl) (Or.inl rfl) (rfl) (Or.inl rfl)))
  · intro pre x post kvs hl ⟨i1, i2⟩
    have hpre : pre.length ≤ 400 := by
      have := congrArg List.length hl
      rw [enumL_length] at this
      simp at this
      omega
    refine (Exists.intro _ (And.intro (DL.wg_tup (DL.wgs_cons (DL.wg_name 2 hN (rfl) (Or.inl rfl) (Or.inl rfl)) (DL.wgs_cons (DL.wg_name 3 hN (rfl) (Or.inl rfl) (Or.inl rfl)) (DL.wgs_nil) (rfl)) (rfl)) (rfl) (rfl) (rfl)) (DL.wss_cons (ws_forS (l := rgL 1 5) (enc := D.int) (fun _ kvs => ⟨[⟨p0, true, .dT kvs⟩], [some (.lst (ps.map plD)), some (.ref p0), some (.int x.1), some (plD x.2), none, none, none]⟩) (fun pre2 kvs => Pairs kvs ∧ kvs.length ≤ 4 * pre.length + pre2.length) kvs (DL.wi_rg2 (DL.wb_of (DL.we_int)) (DL.wb_of (DL.we_int)) (by decide +kernel) (by decide +kernel) (by decide +kernel) (by decide +kernel) (G.free _ (by decide +kernel)) (rfl) (rfl) (rfl)) ⟨i1, by simp; omega⟩ (DL.Wk.mk (DL.WkO.keep (rfl) (DL.WkO.nil)) (DL.WkS.keep (rfl) (DL.WkS.keep (rfl) (DL.WkS.keep (rfl) (DL.WkS.keep (rfl) (DL.WkS.drop (DL.WkS.drop (DL.WkS.drop (DL.WkS.nil))))))))) ?_ ?_))))
    · intro pre2 y post2 kvs2 hl2 ⟨j1, j2⟩
      have h4 : pre2.length ≤ 3 := by
        have := congrArg List.length hl2
        simp [rgL] at this
        omega
      obtain ⟨a, b, hab⟩ := Pairs.get j1 (cutD [.inr x.2.n, .inl x.2.c, .inl x.2.v, .inl x.2.p] none (some y)) x.1 x.1
      refine (Exists.intro _ (And.intro (DL.wg_name 4 hN (rfl) (Or.inl rfl) (Or.inl rfl)) (DL.wss_cons (ws_asg (d := .tup [.int a, .int b]) (we_cast (DL.we_get2T 0 (DL.we_var 1 rfl (Or.inl rfl) rfl) (rfl) (DL.we_slT (DL.we_var 3 rfl (Or.inl rfl) rfl) (DL.wo_none) (DL.wo_some (DL.wb_of (DL.we_var 4 rfl (Or.inl rfl) rfl)))) (DL.keysOf_cut rfl) (DL.we_tup (DL.wa_cons (DL.we_var 2 rfl (Or.inl rfl) rfl) (DL.wa_cons (DL.we_var 2 rfl (Or.inl rfl) rfl) (DL.wa_nil) (rfl)) (rfl)) (Nat.le_of_ble_eq_true rfl)) (DL.room_u hr) (⟨rfl, rfl, rfl, rfl⟩)) hab) (DL.wg_tup (DL.wgs_cons (DL.wg_name 5 hN (rfl) (Or.inl rfl) (Or.inl rfl)) (DL.wgs_cons (DL.wg_name 6 hN (rfl) (Or.inl rfl) (Or.inl rfl)) (DL.wgs_nil) (rfl)) (rfl)) (rfl) (rfl) (rfl)) (DL.wss_cons (DL.ws_putT 0 (DL.we_var 1 rfl (Or.inl rfl) rfl) (rfl) (DL.we_slT (DL.we_var 3 rfl (Or.inl rfl) rfl) (DL.wo_none) (DL.wo_some (DL.wb_of (DL.we_var 4 rfl (Or.inl rfl) rfl)))) (DL.keysOf_cut rfl) (DL.we_tup (DL.wa_cons (DL.we_var 5 rfl (Or.inl rfl) rfl) (DL.wa_cons (DL.we_var 2 rfl (Or.inl rfl) rfl) (DL.wa_nil) (rfl)) (rfl)) (Nat.le_of_ble_eq_true rfl)) ?_ (DL.room_u hr) (DL.wss_nil (DL.Wk.refl _) (Exists.intro _ (And.intro ?_ (DL.Wk.mk (DL.WkO.keep (rfl) (DL.WkO.nil)) (DL.WkS.keep (rfl) (DL.WkS.keep (rfl) (DL.WkS.keep (rfl) (DL.WkS.keep (rfl) (DL.WkS.drop (DL.WkS.drop (DL.WkS.drop (DL.WkS.nil)))))))))))) (rfl))) (rfl) (rfl) (rfl)))))
      · exact small (by omega)
      · refine ⟨j1.put _ _ _, Nat.le_trans (putD_len _ _ _) ?_⟩
        simp; omega
    · intro kvs2 ⟨j1, j2⟩
      refine (DL.wss_nil (DL.Wk.refl _) (Exists.intro _ (And.intro ?_ (DL.Wk.mk (DL.WkO.keep (rfl) (DL.WkO.nil)) (DL.WkS.keep (rfl) (DL.WkS.keep (rfl) (DL.WkS.drop (DL.WkS.drop (DL.WkS.drop (DL.WkS.drop (DL.WkS.drop (DL.WkS.nil))))))))))))
      exact ⟨j1, by simp [rgL] at j2 ⊢; omega⟩
  · intro kvs ⟨i1, i2⟩
    exact (DL.wss_cons (DL.ws_retA (DL.we_var 1 rfl (Or.inl rfl) rfl) (rfl)))
end
section
variable {P : Program} {w : World} {K : PySem.W.Frag} {mg : Str → Option Value} {base : Heap} {f : Addr} {fd : FuncData} (G : G66 mg)
include G
theorem ok_counts (F : FD K "counts_of" "counts_of" (top 39) f fd) : FnOk P w K mg base CX0 1 f fd ["books"] (spR K countsR) := by
  have hN := sc39.nd
  refine fn_okR F sc39 (fun ds d h => by cases h <;> rfl) fun cdv A outer s H E hr ds d hR => ?_
  obtain ⟨bs, h⟩ := hR
  refine (DL.wss_cons (DL.ws_asgN 1 (DL.wn_dT) (fun p0 => (DL.wss_cons (ws_forS (l := bs) (enc := bkT) (fun _ kvs => ⟨[⟨p0, true, .dT kvs⟩], [some (.tup (bs.map bkT)), some (.ref p0), none, none, none, none, none, none]⟩) (fun pre kvs => kvs.length ≤ 400 * pre.length) [] (DL.wi_tup (DL.we_var 0 rfl (Or.inl rfl) rfl)) (Nat.zero_le _) (DL.Wk.mk (DL.WkO.keep (rfl) (DL.WkO.nil)) (DL.WkS.keep (rfl) (DL.WkS.keep (rfl) (DL.WkS.drop (DL.WkS.drop (DL.WkS.drop (DL.WkS.drop (DL.WkS.drop (DL.WkS.drop (DL.WkS.nil)))))))))) ?_ ?_))) hN (rfl) (Or.inl rfl) (rfl) (Or.inl rfl)))
  · intro pre b post kvs hl i2
    have hb : b ∈ bs := by rw [hl]; simp
    have hpre : pre.length ≤ 5 := by have := h.hi; rw [hl] at this; simp at this; omega
    obtain ⟨_, _, hb12, hch⟩ := h.ok b hb
    refine (Exists.intro _ (And.intro (DL.wg_tup (DL.wgs_cons (DL.wg_name 2 hN (rfl) (Or.inl rfl) (Or.inl rfl)) (DL.wgs_cons (DL.wg_name 3 hN (rfl) (Or.inl rfl) (Or.inl rfl)) (DL.wgs_nil) (rfl)) (rfl)) (rfl) (rfl) (rfl)) (DL.wss_cons (DL.ws_putT 0 (DL.we_var 1 rfl (Or.inl rfl) rfl) (rfl) (DL.we_tup (DL.wa_cons (DL.we_var 2 rfl (Or.inl rfl) rfl) (DL.wa_nil) (rfl)) (Nat.le_of_ble_eq_true rfl)) (rfl) (DL.we_len (DL.wb_of (DL.we_var 3 rfl (Or.inl rfl) rfl)) (DL.len_t) (G.free _ (by decide +kernel)) (rfl) (rfl)) ?_ (DL.room_u hr) (DL.wss_cons (ws_forS (l := enumL 1 b.2) (enc := enumEnc chT) (fun _ kvs => ⟨[⟨p0, true, .dT kvs⟩], [some (.tup (bs.map bkT)), some (.ref p0), some (.str b.1), some (.tup (b.2.map chT)), none, none, none, none]⟩) (fun pre2 kvs => kvs.length ≤ 400 * pre.length + 1 + 31 * pre2.length) _ (DL.wi_enumT (DL.we_var 3 rfl (Or.inl rfl) rfl) (DL.wb_of (DL.we_int)) (by decide +kernel) (by decide +kernel) (G.free _ (by decide +kernel)) (rfl) (rfl) (rfl) (rfl) (rfl) (rfl) (rfl)) ?_ (DL.Wk.mk (DL.WkO.keep (rfl) (DL.WkO.nil)) (DL.WkS.keep (rfl) (DL.WkS.keep (rfl) (DL.WkS.keep (rfl) (DL.WkS.keep (rfl) (DL.WkS.drop (DL.WkS.drop (DL.WkS.drop (DL.WkS.drop (DL.WkS.nil)))))))))) ?_ ?_)) (rfl)))))
    · exact small (by omega)
    · refine Nat.le_trans (putD_len _ _ _) ?_
      simp; omega
    · intro pre2 x post2 kvs2 hl2 j2
      obtain ⟨ca, cb, hc, _, _, _⟩ := enumL_split hl2
      have hx := (hch x.2 (by rw [hc]; simp)).2.1
      have h12 : pre2.length ≤ 11 := by
        have := congrArg List.length hl2
        rw [enumL_length] at this
        simp at this
        omega
      refine (Exists.intro _ (And.intro (DL.wg_tup (DL.wgs_cons (DL.wg_name 4 hN (rfl) (Or.inl rfl) (Or.inl rfl)) (DL.wgs_cons (DL.wg_name 5 hN (rfl) (Or.inl rfl) (Or.inl rfl)) (DL.wgs_nil) (rfl)) (rfl)) (rfl) (rfl) (rfl)) (DL.wss_cons (DL.ws_putT 0 (DL.we_var 1 rfl (Or.inl rfl) rfl) (rfl) (DL.we_tup (DL.wa_cons (DL.we_var 2 rfl (Or.inl rfl) rfl) (DL.wa_cons (DL.we_var 4 rfl (Or.inl rfl) rfl) (DL.wa_nil) (rfl)) (rfl)) (Nat.le_of_ble_eq_true rfl)) (rfl) (DL.we_len (DL.wb_of (DL.we_var 5 rfl (Or.inl rfl) rfl)) (DL.len_t) (G.free _ (by decide +kernel)) (rfl) (rfl)) ?_ (DL.room_u hr) (DL.wss_cons (ws_forS (l := enumL 1 x.2) (enc := enumEnc D.int) (fun _ kvs => ⟨[⟨p0, true, .dT kvs⟩], [some (.tup (bs.map bkT)), some (.ref p0), some (.str b.1), some (.tup (b.2.map chT)), some (.int x.1), some (chT x.2), none, none]⟩) (fun pre3 kvs => kvs.length ≤ 400 * pre.length + 1 + 31 * pre2.length + 1 + pre3.length) _ (DL.wi_enumT (DL.we_var 5 rfl (Or.inl rfl) rfl) (DL.wb_of (DL.we_int)) (by decide +kernel) (by decide +kernel) (G.free _ (by decide +kernel)) (rfl) (rfl) (rfl) (rfl) (rfl) (rfl) (rfl)) ?_ (DL.Wk.mk (DL.WkO.keep (rfl) (DL.WkO.nil)) (DL.WkS.keep (rfl) (DL.WkS.keep (rfl) (DL.WkS.keep (rfl) (DL.WkS.keep (rfl) (DL.WkS.keep (rfl) (DL.WkS.keep (rfl) (DL.WkS.drop (DL.WkS.drop (DL.WkS.nil)))))))))) ?_ ?_)) (rfl)))))
      · exact small (by omega)
      · refine Nat.le_trans (putD_len _ _ _) ?_
        simp; omega
      · intro pre3 q post3 kvs3 hl3 k2
        have h30 : pre3.length ≤ 29 := by
          have := congrArg List.length hl3
          rw [enumL_length] at this
          simp at this
          omega
        refine (Exists.intro _ (And.intro (DL.wg_tup (DL.wgs_cons (DL.wg_name 6 hN (rfl) (Or.inl rfl) (Or.inl rfl)) (DL.wgs_cons (DL.wg_name 7 hN (rfl) (Or.inl rfl) (Or.inl rfl)) (DL.wgs_nil) (rfl)) (rfl)) (rfl) (rfl) (rfl)) (DL.wss_cons (DL.ws_putT 0 (DL.we_var 1 rfl (Or.inl rfl) rfl) (rfl) (DL.we_tup (DL.wa_cons (DL.we_var 2 rfl (Or.inl rfl) rfl) (DL.wa_cons (DL.we_var 4 rfl (Or.inl rfl) rfl) (DL.wa_cons (DL.we_var 6 rfl (Or.inl rfl) rfl) (DL.wa_nil) (rfl)) (rfl)) (rfl)) (Nat.le_of_ble_eq_true rfl)) (rfl) (DL.we_var 7 rfl (Or.inl rfl) rfl) ?_ (DL.room_u hr) (DL.wss_nil (DL.Wk.refl _) (Exists.intro _ (And.intro ?_ (DL.Wk.mk (DL.WkO.keep (rfl) (DL.WkO.nil)) (DL.WkS.keep (rfl) (DL.WkS.keep (rfl) (DL.WkS.keep (rfl) (DL.WkS.keep (rfl) (DL.WkS.keep (rfl) (DL.WkS.keep (rfl) (DL.WkS.drop (DL.WkS.drop (DL.WkS.nil))))))))))))) (rfl)))))
        · exact small (by omega)
        · refine Nat.le_trans (putD_len _ _ _) ?_
          simp; omega
      · intro kvs3 k2
        refine (DL.wss_nil (DL.Wk.refl _) (Exists.intro _ (And.intro ?_ (DL.Wk.mk (DL.WkO.keep (rfl) (DL.WkO.nil)) (DL.WkS.keep (rfl) (DL.WkS.keep (rfl) (DL.WkS.keep (rfl) (DL.WkS.keep (rfl) (DL.WkS.drop (DL.WkS.drop (DL.WkS.drop (DL.WkS.drop (DL.WkS.nil)))))))))))))
        rw [enumL_length] at k2
        simp; omega
    · intro kvs2 j2
      refine (DL.wss_nil (DL.Wk.refl _) (Exists.intro _ (And.intro ?_ (DL.Wk.mk (DL.WkO.keep (rfl) (DL.WkO.nil)) (DL.WkS.keep (rfl) (DL.WkS.keep (rfl) (DL.WkS.drop (DL.WkS.drop (DL.WkS.drop (DL.WkS.drop (DL.WkS.drop (DL.WkS.drop (DL.WkS.nil)))))))))))))
      rw [enumL_length] at j2
      simp; omega
  · intro kvs i2
    exact (DL.wss_cons (DL.ws_retA (DL.we_var 1 rfl (Or.inl rfl) rfl) (rfl)))
end
end DL
/-! V66e: Edition. -/
namespace DL
open PySem PySem.Spec PyProof.Rows L2
/-- an edition: its books, its lines -/
structure Ed where
  bs : List Bk
  ls : List Int
abbrev edD (C : Addr) (e : Ed) : D := .ins C [("kept_books", .tup (e.bs.map bkT)), ("kept_places", .lst ((allPl e.bs).map plD)), ("kept_lines", .lst (e.ls.map D.int)), ("kept_stretches", .any), ("kept_counts", .any), ("kept_parts", .any)]
structure OkEd (e : Ed) : Prop where
  b : OkBooks e.bs
  p : OkPlaces e.bs
  l : e.ls.length ≤ 400
  n : e.ls.length = (allPl e.bs).length
/-- what Edition(..) is given -/
inductive edInR (C : Addr) : List D → D → Prop
  | lnon (bs : List Bk) (h : OkEd ⟨bs, rgL 0 ((allPl bs).map plD).length⟩) : edInR C [.lst (bs.map bkL), .non] (edD C ⟨bs, rgL 0 ((allPl bs).map plD).length⟩)
  | llst (bs : List Bk) (sp : List (Int × Int)) (h : OkEd ⟨bs, spread sp⟩) (hs : OkSpans sp) : edInR C [.lst (bs.map bkL), .lst (sp.map spanD)] (edD C ⟨bs, spread sp⟩)
  | tlst (bs : List Bk) (sp : List (Int × Int)) (h : OkEd ⟨bs, spread sp⟩) (hs : OkSpans sp) : edInR C [.tup (bs.map bkL), .lst (sp.map spanD)] (edD C ⟨bs, spread sp⟩)
theorem scE0 : FnScope ["self", "books", "lines", "number", "line"] ["self", "books", "lines"] (defScope (edM 0)) := (⟨rfl, rfl, rfl, by decide +kernel, rfl, by decide +kernel, by decide +kernel⟩)
inductive edSizeR (C : Addr) : List D → D → Prop
  | mk (e : Ed) : edSizeR C [edD C e] (.int ((allPl e.bs).length : Int))
inductive edLinesR (C : Addr) : List D → D → Prop
  | mk (e : Ed) : edLinesR C [edD C e] (.lst (e.ls.map D.int))
/-- runs of lines -/
def rleStep (acc : List (Int × Int)) (x : Int) : List (Int × Int) :=
  match acc.getLast? with
  | some (a, n) => if a + n = x then acc.dropLast ++ [(a, n + 1)] else acc ++ [(x, 1)]
  | none => [(x, 1)]
def rle (l : List Int) : List (Int × Int) := l.foldl rleStep []
theorem rle_app (l : List Int) (x : Int) : rle (l ++ [x]) = rleStep (rle l) x := by simp [rle]
theorem rleStep_last (i : List (Int × Int)) (a n x : Int) : rleStep (i ++ [(a, n)]) x = if a + n = x then i ++ [(a, n + 1)] else i ++ [(a, n)] ++ [(x, 1)] := by
  unfold rleStep
  rw [List.getLast?_concat]
  simp only [List.dropLast_concat]
theorem rleStep_len (acc : List (Int × Int)) (x : Int) : (rleStep acc x).length ≤ acc.length + 1 := by
  unfold rleStep
  split
  · rename_i a n h
    split
    · simp
    · simp
  · simp
theorem rle_len (l : List Int) : (rle l).length ≤ l.length := by
  have key : ∀ (m : List Int) (acc : List (Int × Int)), (m.foldl rleStep acc).length ≤ acc.length + m.length := by
    intro m
    induction m with
    | nil => intro acc; simp
    | cons x m ih =>
      intro acc
      have h1 := ih (rleStep acc x)
      have h2 := rleStep_len acc x
      rw [List.foldl_cons, List.length_cons]
      omega
  have := key l []
  simpa [rle] using this
abbrev toldD (e : Ed) : D := .tup [.tup (e.bs.map bkT), .tup ((rle e.ls).map spanD)]
inductive edToldR (C : Addr) : List D → D → Prop
  | mk (e : Ed) (h : e.ls.length ≤ 400) : edToldR C [edD C e] (toldD e)
theorem scE6 : FnScope ["self"] ["self"] (defScope (edM 6)) := (⟨rfl, rfl, rfl, by decide +kernel, rfl, by decide +kernel, by decide +kernel⟩)
theorem scE7 : FnScope ["self"] ["self"] (defScope (edM 7)) := (⟨rfl, rfl, rfl, by decide +kernel, rfl, by decide +kernel, by decide +kernel⟩)
theorem scE11 : FnScope ["self", "pairs", "line"] ["self"] (defScope (edM 11)) := (⟨rfl, rfl, rfl, by decide +kernel, rfl, by decide +kernel, by decide +kernel⟩)
section
variable {P : Program} {w : World} {K : PySem.W.Frag} {mg : Str → Option Value} {base : Heap} {f C : Addr} {fd : FuncData} (G : G66 mg) (CE : ClsF K C edFlds)
include G CE
theorem ok_edInit (F : FunD K "__init__" "Edition.__init__" (defArgs (edM 0)) (defBody (edM 0)) (defScope (edM 0)) [.non] [] f fd) (k1 : Kn P w K mg base "checked_books" 4 [] (spR K checkedBooksR)) (k2 : Kn P w K mg base "laid_out" 1 [] (spR K laidOutR)) (k3 : Kn P w K mg base "checked_lines" 3 [] (spR K checkedLinesR)) (k4 : Kn P w K mg base "stretches_of" 1 [] (spR K stretchesR)) (k5 : Kn P w K mg base "counts_of" 1 [] (spR K countsR)) : FnOk P w K mg base CX0 5 f fd ["self", "books", "lines"] (spI K C (edInR C)) := by
  have hN := scE0.nd
  refine fn_okI F scE0 (fun ds d h => by cases h <;> rfl) fun cdv A outer s H E hr ds d hR p0 => ?_
  rcases hR with ⟨bs, h⟩ | ⟨bs, sp, h, hs⟩ | ⟨bs, sp, h, hs⟩
  · obtain ⟨hb, hp, hl, hn⟩ := h
    dsimp only at hb hp hl hn
    refine (DL.wss_cons (DL.ws_setFld 0 (DL.we_var 0 rfl (Or.inl rfl) rfl) (rfl) (DL.we_call k1 hr (DL.wa_cons (DL.we_var 1 rfl (Or.inl rfl) rfl) (DL.wa_nil) (rfl)) (DL.checkedBooksR.lst _ hb) (rfl) (rfl) (rfl) (rfl)) (DL.wss_cons (DL.ws_setFld 0 (DL.we_var 0 rfl (Or.inl rfl) rfl) (rfl) (DL.we_call k2 (L2.Room.mono hr (by omega)) (DL.wa_cons (DL.we_fldO 0 (DL.we_var 0 rfl (Or.inl rfl) rfl) (rfl) (rfl) (CE.cl) (CE.na _ (by decide +kernel)) (rfl)) (DL.wa_nil) (rfl)) (DL.laidOutR.mk _ hp) (rfl) (rfl) (rfl) (rfl)) (DL.wss_cons (DL.ws_setFld 0 (DL.we_var 0 rfl (Or.inl rfl) rfl) (rfl) (DL.we_call k3 (L2.Room.mono hr (by omega)) (DL.wa_cons (DL.we_var 2 rfl (Or.inl rfl) rfl) (DL.wa_cons (DL.we_len (DL.wb_of (DL.we_fldO 0 (DL.we_var 0 rfl (Or.inl rfl) rfl) (rfl) (rfl) (CE.cl) (CE.na _ (by decide +kernel)) (rfl))) (DL.len_l) (G.free _ (by decide +kernel)) (rfl) (rfl)) (DL.wa_nil) (rfl)) (rfl)) (DL.checkedLinesR.non _ ?_ ?_) (rfl) (rfl) (rfl) (rfl)) (DL.wss_cons (DL.ws_setFld 0 (DL.we_var 0 rfl (Or.inl rfl) rfl) (rfl) (DL.we_call k4 (L2.Room.mono hr (by omega)) (DL.wa_cons (DL.we_fldO 0 (DL.we_var 0 rfl (Or.inl rfl) rfl) (rfl) (rfl) (CE.cl) (CE.na _ (by decide +kernel)) (rfl)) (DL.wa_nil) (rfl)) (DL.stretchesR.mk _ ?_) (rfl) (rfl) (rfl) (rfl)) (DL.wss_cons (DL.ws_setFld 0 (DL.we_var 0 rfl (Or.inl rfl) rfl) (rfl) (DL.we_call k5 (L2.Room.mono hr (by omega)) (DL.wa_cons (DL.we_fldO 0 (DL.we_var 0 rfl (Or.inl rfl) rfl) (rfl) (rfl) (CE.cl) (CE.na _ (by decide +kernel)) (rfl)) (DL.wa_nil) (rfl)) (DL.countsR.mk _ hb) (rfl) (rfl) (rfl) (rfl)) (DL.wss_cons (DL.ws_setFldN 0 (DL.we_var 0 rfl (Or.inl rfl) rfl) (rfl) (DL.wn_dK) (fun p1 => (DL.wss_cons (ws_forS (l := enumL 0 (rgL 0 ((allPl bs).map plD).length)) (enc := enumEnc D.int) (fun _ kvs => ⟨[⟨p0, true, .ins C [("kept_books", .tup (bs.map bkT)), ("kept_places", .lst ((allPl bs).map plD)), ("kept_lines", .lst (List.map D.int (rgL 0 ((allPl bs).map plD).length))), ("kept_stretches", .any), ("kept_counts", .any), ("kept_parts", .ref p1)]⟩, ⟨p1, true, .dK kvs⟩], [some (.ref p0), some (.lst (bs.map bkL)), some D.non, none, none]⟩) (fun pre kvs => kvs.length ≤ pre.length) [] (DL.wi_enumL (DL.we_fldO 0 (DL.we_var 0 rfl (Or.inl rfl) rfl) (rfl) (rfl) (CE.cl) (CE.na _ (by decide +kernel)) (rfl)) (G.free _ (by decide +kernel)) (rfl) (rfl)) (Nat.zero_le _) (DL.Wk.mk (DL.WkO.keep (rfl) (DL.WkO.keep (rfl) (DL.WkO.nil))) (DL.WkS.keep (rfl) (DL.WkS.keep (rfl) (DL.WkS.keep (rfl) (DL.WkS.drop (DL.WkS.drop (DL.WkS.nil))))))) ?_ ?_))) (CE.cl) (CE.na _ (by decide +kernel)) (Nat.le_of_ble_eq_true rfl) (rfl))) (CE.cl) (CE.na _ (by decide +kernel)) (Nat.le_of_ble_eq_true rfl) (rfl))) (CE.cl) (CE.na _ (by decide +kernel)) (Nat.le_of_ble_eq_true rfl) (rfl))) (CE.cl) (CE.na _ (by decide +kernel)) (Nat.le_of_ble_eq_true rfl) (rfl))) (CE.cl) (CE.na _ (by decide +kernel)) (Nat.le_of_ble_eq_true rfl) (rfl))) (CE.cl) (CE.na _ (by decide +kernel)) (by decide +kernel) (rfl)))
    · omega
    · have := hp.sz; rw [List.length_map]; omega
    · exact hp.sz
    · intro pre x post kvs hl2 i2
      have hlen := congrArg List.length hl2
      rw [enumL_length, List.length_append, List.length_cons] at hlen
      refine (Exists.intro _ (And.intro (DL.wg_tup (DL.wgs_cons (DL.wg_name 3 hN (rfl) (Or.inl rfl) (Or.inl rfl)) (DL.wgs_cons (DL.wg_name 4 hN (rfl) (Or.inl rfl) (Or.inl rfl)) (DL.wgs_nil) (rfl)) (rfl)) (rfl) (rfl) (rfl)) (DL.wss_cons (DL.ws_putK' 1 (DL.we_fldO 0 (DL.we_var 0 rfl (Or.inl rfl) rfl) (rfl) (rfl) (CE.cl) (CE.na _ (by decide +kernel)) (rfl)) (rfl) (DL.wb_of (DL.we_var 4 rfl (Or.inl rfl) rfl)) (rfl) (DL.we_var 3 rfl (Or.inl rfl) rfl) ?_ (DL.room_u hr) (DL.wss_nil (DL.Wk.refl _) (Exists.intro _ (And.intro ?_ (DL.Wk.mk (DL.WkO.keep (rfl) (DL.WkO.keep (rfl) (DL.WkO.nil))) (DL.WkS.keep (rfl) (DL.WkS.keep (rfl) (DL.WkS.keep (rfl) (DL.WkS.drop (DL.WkS.drop (DL.WkS.nil)))))))))) (rfl)))))
      · exact small (by omega)
      · refine Nat.le_trans (putD_len _ _ _) ?_
        rw [List.length_append, List.length_singleton]
        omega
    · intro kvs i2
      show WSs _ _ _ _
      refine wss_fw (gs := [("kept_books", .tup (bs.map bkT)), ("kept_places", .lst ((allPl bs).map plD)), ("kept_lines", .lst (List.map D.int (rgL 0 ((allPl bs).map plD).length))), ("kept_stretches", .any), ("kept_counts", .any), ("kept_parts", .any)]) 0 rfl (by repeat (first | exact DL.FW.nil | refine DL.FW.keep ?_ | refine DL.FW.any ?_)) ?_
      exact wss_nil (Wk.refl _) ⟨0, rfl⟩
  · obtain ⟨hb, hp, hl, hn⟩ := h
    dsimp only at hb hp hl hn
    refine (DL.wss_cons (DL.ws_setFld 0 (DL.we_var 0 rfl (Or.inl rfl) rfl) (rfl) (DL.we_call k1 hr (DL.wa_cons (DL.we_var 1 rfl (Or.inl rfl) rfl) (DL.wa_nil) (rfl)) (DL.checkedBooksR.lst _ hb) (rfl) (rfl) (rfl) (rfl)) (DL.wss_cons (DL.ws_setFld 0 (DL.we_var 0 rfl (Or.inl rfl) rfl) (rfl) (DL.we_call k2 (L2.Room.mono hr (by omega)) (DL.wa_cons (DL.we_fldO 0 (DL.we_var 0 rfl (Or.inl rfl) rfl) (rfl) (rfl) (CE.cl) (CE.na _ (by decide +kernel)) (rfl)) (DL.wa_nil) (rfl)) (DL.laidOutR.mk _ hp) (rfl) (rfl) (rfl) (rfl)) (DL.wss_cons (DL.ws_setFld 0 (DL.we_var 0 rfl (Or.inl rfl) rfl) (rfl) (DL.we_call k3 (L2.Room.mono hr (by omega)) (DL.wa_cons (DL.we_var 2 rfl (Or.inl rfl) rfl) (DL.wa_cons (DL.we_len (DL.wb_of (DL.we_fldO 0 (DL.we_var 0 rfl (Or.inl rfl) rfl) (rfl) (rfl) (CE.cl) (CE.na _ (by decide +kernel)) (rfl))) (DL.len_l) (G.free _ (by decide +kernel)) (rfl) (rfl)) (DL.wa_nil) (rfl)) (rfl)) (DL.checkedLinesR.lst _ _ hs ?_) (rfl) (rfl) (rfl) (rfl)) (DL.wss_cons (DL.ws_setFld 0 (DL.we_var 0 rfl (Or.inl rfl) rfl) (rfl) (DL.we_call k4 (L2.Room.mono hr (by omega)) (DL.wa_cons (DL.we_fldO 0 (DL.we_var 0 rfl (Or.inl rfl) rfl) (rfl) (rfl) (CE.cl) (CE.na _ (by decide +kernel)) (rfl)) (DL.wa_nil) (rfl)) (DL.stretchesR.mk _ ?_) (rfl) (rfl) (rfl) (rfl)) (DL.wss_cons (DL.ws_setFld 0 (DL.we_var 0 rfl (Or.inl rfl) rfl) (rfl) (DL.we_call k5 (L2.Room.mono hr (by omega)) (DL.wa_cons (DL.we_fldO 0 (DL.we_var 0 rfl (Or.inl rfl) rfl) (rfl) (rfl) (CE.cl) (CE.na _ (by decide +kernel)) (rfl)) (DL.wa_nil) (rfl)) (DL.countsR.mk _ hb) (rfl) (rfl) (rfl) (rfl)) (DL.wss_cons (DL.ws_setFldN 0 (DL.we_var 0 rfl (Or.inl rfl) rfl) (rfl) (DL.wn_dK) (fun p1 => (DL.wss_cons (ws_forS (l := enumL 0 (spread sp)) (enc := enumEnc D.int) (fun _ kvs => ⟨[⟨p0, true, .ins C [("kept_books", .tup (bs.map bkT)), ("kept_places", .lst ((allPl bs).map plD)), ("kept_lines", .lst (List.map D.int (spread sp))), ("kept_stretches", .any), ("kept_counts", .any), ("kept_parts", .ref p1)]⟩, ⟨p1, true, .dK kvs⟩], [some (.ref p0), some (.lst (bs.map bkL)), some (D.lst (sp.map spanD)), none, none]⟩) (fun pre kvs => kvs.length ≤ pre.length) [] (DL.wi_enumL (DL.we_fldO 0 (DL.we_var 0 rfl (Or.inl rfl) rfl) (rfl) (rfl) (CE.cl) (CE.na _ (by decide +kernel)) (rfl)) (G.free _ (by decide +kernel)) (rfl) (rfl)) (Nat.zero_le _) (DL.Wk.mk (DL.WkO.keep (rfl) (DL.WkO.keep (rfl) (DL.WkO.nil))) (DL.WkS.keep (rfl) (DL.WkS.keep (rfl) (DL.WkS.keep (rfl) (DL.WkS.drop (DL.WkS.drop (DL.WkS.nil))))))) ?_ ?_))) (CE.cl) (CE.na _ (by decide +kernel)) (Nat.le_of_ble_eq_true rfl) (rfl))) (CE.cl) (CE.na _ (by decide +kernel)) (Nat.le_of_ble_eq_true rfl) (rfl))) (CE.cl) (CE.na _ (by decide +kernel)) (Nat.le_of_ble_eq_true rfl) (rfl))) (CE.cl) (CE.na _ (by decide +kernel)) (Nat.le_of_ble_eq_true rfl) (rfl))) (CE.cl) (CE.na _ (by decide +kernel)) (Nat.le_of_ble_eq_true rfl) (rfl))) (CE.cl) (CE.na _ (by decide +kernel)) (by decide +kernel) (rfl)))
    · rw [List.length_map]; omega
    · exact hp.sz
    · intro pre x post kvs hl2 i2
      have hlen := congrArg List.length hl2
      rw [enumL_length, List.length_append, List.length_cons] at hlen
      refine (Exists.intro _ (And.intro (DL.wg_tup (DL.wgs_cons (DL.wg_name 3 hN (rfl) (Or.inl rfl) (Or.inl rfl)) (DL.wgs_cons (DL.wg_name 4 hN (rfl) (Or.inl rfl) (Or.inl rfl)) (DL.wgs_nil) (rfl)) (rfl)) (rfl) (rfl) (rfl)) (DL.wss_cons (DL.ws_putK' 1 (DL.we_fldO 0 (DL.we_var 0 rfl (Or.inl rfl) rfl) (rfl) (rfl) (CE.cl) (CE.na _ (by decide +kernel)) (rfl)) (rfl) (DL.wb_of (DL.we_var 4 rfl (Or.inl rfl) rfl)) (rfl) (DL.we_var 3 rfl (Or.inl rfl) rfl) ?_ (DL.room_u hr) (DL.wss_nil (DL.Wk.refl _) (Exists.intro _ (And.intro ?_ (DL.Wk.mk (DL.WkO.keep (rfl) (DL.WkO.keep (rfl) (DL.WkO.nil))) (DL.WkS.keep (rfl) (DL.WkS.keep (rfl) (DL.WkS.keep (rfl) (DL.WkS.drop (DL.WkS.drop (DL.WkS.nil)))))))))) (rfl)))))
      · exact small (by omega)
      · refine Nat.le_trans (putD_len _ _ _) ?_
        rw [List.length_append, List.length_singleton]
        omega
    · intro kvs i2
      show WSs _ _ _ _
      refine wss_fw (gs := [("kept_books", .tup (bs.map bkT)), ("kept_places", .lst ((allPl bs).map plD)), ("kept_lines", .lst (List.map D.int (spread sp))), ("kept_stretches", .any), ("kept_counts", .any), ("kept_parts", .any)]) 0 rfl (by repeat (first | exact DL.FW.nil | refine DL.FW.keep ?_ | refine DL.FW.any ?_)) ?_
      exact wss_nil (Wk.refl _) ⟨0, rfl⟩
  · obtain ⟨hb, hp, hl, hn⟩ := h
    dsimp only at hb hp hl hn
    refine (DL.wss_cons (DL.ws_setFld 0 (DL.we_var 0 rfl (Or.inl rfl) rfl) (rfl) (DL.we_call k1 hr (DL.wa_cons (DL.we_var 1 rfl (Or.inl rfl) rfl) (DL.wa_nil) (rfl)) (DL.checkedBooksR.tup _ hb) (rfl) (rfl) (rfl) (rfl)) (DL.wss_cons (DL.ws_setFld 0 (DL.we_var 0 rfl (Or.inl rfl) rfl) (rfl) (DL.we_call k2 (L2.Room.mono hr (by omega)) (DL.wa_cons (DL.we_fldO 0 (DL.we_var 0 rfl (Or.inl rfl) rfl) (rfl) (rfl) (CE.cl) (CE.na _ (by decide +kernel)) (rfl)) (DL.wa_nil) (rfl)) (DL.laidOutR.mk _ hp) (rfl) (rfl) (rfl) (rfl)) (DL.wss_cons (DL.ws_setFld 0 (DL.we_var 0 rfl (Or.inl rfl) rfl) (rfl) (DL.we_call k3 (L2.Room.mono hr (by omega)) (DL.wa_cons (DL.we_var 2 rfl (Or.inl rfl) rfl) (DL.wa_cons (DL.we_len (DL.wb_of (DL.we_fldO 0 (DL.we_var 0 rfl (Or.inl rfl) rfl) (rfl) (rfl) (CE.cl) (CE.na _ (by decide +kernel)) (rfl))) (DL.len_l) (G.free _ (by decide +kernel)) (rfl) (rfl)) (DL.wa_nil) (rfl)) (rfl)) (DL.checkedLinesR.lst _ _ hs ?_) (rfl) (rfl) (rfl) (rfl)) (DL.wss_cons (DL.ws_setFld 0 (DL.we_var 0 rfl (Or.inl rfl) rfl) (rfl) (DL.we_call k4 (L2.Room.mono hr (by omega)) (DL.wa_cons (DL.we_fldO 0 (DL.we_var 0 rfl (Or.inl rfl) rfl) (rfl) (rfl) (CE.cl) (CE.na _ (by decide +kernel)) (rfl)) (DL.wa_nil) (rfl)) (DL.stretchesR.mk _ ?_) (rfl) (rfl) (rfl) (rfl)) (DL.wss_cons (DL.ws_setFld 0 (DL.we_var 0 rfl (Or.inl rfl) rfl) (rfl) (DL.we_call k5 (L2.Room.mono hr (by omega)) (DL.wa_cons (DL.we_fldO 0 (DL.we_var 0 rfl (Or.inl rfl) rfl) (rfl) (rfl) (CE.cl) (CE.na _ (by decide +kernel)) (rfl)) (DL.wa_nil) (rfl)) (DL.countsR.mk _ hb) (rfl) (rfl) (rfl) (rfl)) (DL.wss_cons (DL.ws_setFldN 0 (DL.we_var 0 rfl (Or.inl rfl) rfl) (rfl) (DL.wn_dK) (fun p1 => (DL.wss_cons (ws_forS (l := enumL 0 (spread sp)) (enc := enumEnc D.int) (fun _ kvs => ⟨[⟨p0, true, .ins C [("kept_books", .tup (bs.map bkT)), ("kept_places", .lst ((allPl bs).map plD)), ("kept_lines", .lst (List.map D.int (spread sp))), ("kept_stretches", .any), ("kept_counts", .any), ("kept_parts", .ref p1)]⟩, ⟨p1, true, .dK kvs⟩], [some (.ref p0), some (.tup (bs.map bkL)), some (D.lst (sp.map spanD)), none, none]⟩) (fun pre kvs => kvs.length ≤ pre.length) [] (DL.wi_enumL (DL.we_fldO 0 (DL.we_var 0 rfl (Or.inl rfl) rfl) (rfl) (rfl) (CE.cl) (CE.na _ (by decide +kernel)) (rfl)) (G.free _ (by decide +kernel)) (rfl) (rfl)) (Nat.zero_le _) (DL.Wk.mk (DL.WkO.keep (rfl) (DL.WkO.keep (rfl) (DL.WkO.nil))) (DL.WkS.keep (rfl) (DL.WkS.keep (rfl) (DL.WkS.keep (rfl) (DL.WkS.drop (DL.WkS.drop (DL.WkS.nil))))))) ?_ ?_))) (CE.cl) (CE.na _ (by decide +kernel)) (Nat.le_of_ble_eq_true rfl) (rfl))) (CE.cl) (CE.na _ (by decide +kernel)) (Nat.le_of_ble_eq_true rfl) (rfl))) (CE.cl) (CE.na _ (by decide +kernel)) (Nat.le_of_ble_eq_true rfl) (rfl))) (CE.cl) (CE.na _ (by decide +kernel)) (Nat.le_of_ble_eq_true rfl) (rfl))) (CE.cl) (CE.na _ (by decide +kernel)) (Nat.le_of_ble_eq_true rfl) (rfl))) (CE.cl) (CE.na _ (by decide +kernel)) (by decide +kernel) (rfl)))
    · rw [List.length_map]; omega
    · exact hp.sz
    · intro pre x post kvs hl2 i2
      have hlen := congrArg List.length hl2
      rw [enumL_length, List.length_append, List.length_cons] at hlen
      refine (Exists.intro _ (And.intro (DL.wg_tup (DL.wgs_cons (DL.wg_name 3 hN (rfl) (Or.inl rfl) (Or.inl rfl)) (DL.wgs_cons (DL.wg_name 4 hN (rfl) (Or.inl rfl) (Or.inl rfl)) (DL.wgs_nil) (rfl)) (rfl)) (rfl) (rfl) (rfl)) (DL.wss_cons (DL.ws_putK' 1 (DL.we_fldO 0 (DL.we_var 0 rfl (Or.inl rfl) rfl) (rfl) (rfl) (CE.cl) (CE.na _ (by decide +kernel)) (rfl)) (rfl) (DL.wb_of (DL.we_var 4 rfl (Or.inl rfl) rfl)) (rfl) (DL.we_var 3 rfl (Or.inl rfl) rfl) ?_ (DL.room_u hr) (DL.wss_nil (DL.Wk.refl _) (Exists.intro _ (And.intro ?_ (DL.Wk.mk (DL.WkO.keep (rfl) (DL.WkO.keep (rfl) (DL.WkO.nil))) (DL.WkS.keep (rfl) (DL.WkS.keep (rfl) (DL.WkS.keep (rfl) (DL.WkS.drop (DL.WkS.drop (DL.WkS.nil)))))))))) (rfl)))))
      · exact small (by omega)
      · refine Nat.le_trans (putD_len _ _ _) ?_
        rw [List.length_append, List.length_singleton]
        omega
    · intro kvs i2
      show WSs _ _ _ _
      refine wss_fw (gs := [("kept_books", .tup (bs.map bkT)), ("kept_places", .lst ((allPl bs).map plD)), ("kept_lines", .lst (List.map D.int (spread sp))), ("kept_stretches", .any), ("kept_counts", .any), ("kept_parts", .any)]) 0 rfl (by repeat (first | exact DL.FW.nil | refine DL.FW.keep ?_ | refine DL.FW.any ?_)) ?_
      exact wss_nil (Wk.refl _) ⟨0, rfl⟩
theorem ok_edSize (F : FD K "size" "Edition.size" (edM 6) f fd) : FnOk P w K mg base CX0 1 f fd ["self"] (spR K (edSizeR C)) := by
  have hN := scE6.nd
  refine fn_okR F scE6 (fun ds d h => by cases h <;> rfl) fun cdv A outer s H E hr ds d hR => ?_
  obtain ⟨e⟩ := hR
  refine (DL.wss_cons (DL.ws_ret (DL.we_len (DL.wb_of (DL.we_fld (DL.we_var 0 rfl (Or.inl rfl) rfl) (rfl) (CE.cl) (CE.na _ (by decide +kernel)) (rfl))) (DL.len_l) (G.free _ (by decide +kernel)) (rfl) (rfl)) ?_))
  rw [List.length_map]
theorem ok_edLines (F : FD K "lines" "Edition.lines" (edM 7) f fd) : FnOk P w K mg base CX0 1 f fd ["self"] (spR K (edLinesR C)) := by
  have hN := scE7.nd
  refine fn_okR F scE7 (fun ds d h => by cases h <;> rfl) fun cdv A outer s H E hr ds d hR => ?_
  obtain ⟨e⟩ := hR
  exact (DL.wss_cons (DL.ws_ret (DL.we_wn (DL.wn_list (DL.we_fld (DL.we_var 0 rfl (Or.inl rfl) rfl) (rfl) (CE.cl) (CE.na _ (by decide +kernel)) (rfl)) (DL.lst_l) (G.free _ (by decide +kernel)) (rfl) (rfl))) (rfl)))
theorem ok_edTold (F : FD K "told" "Edition.told" (edM 11) f fd) : FnOk P w K mg base CX0 1 f fd ["self"] (spR K (edToldR C)) := by
  have hN := scE11.nd
  refine fn_okR F scE11 (fun ds d h => by cases h <;> rfl) fun cdv A outer s H E hr ds d hR => ?_
  obtain ⟨e, h⟩ := hR
  refine (DL.wss_cons (DL.ws_asgN 1 (DL.wn_lst (DL.wa_nil) (by decide +kernel)) (fun p0 => (DL.wss_cons (ws_for (l := e.ls) (enc := D.int) (fun pre => ⟨[⟨p0, true, .lst ((rle pre).map spanD)⟩], [some (edD C e), some (.ref p0), none]⟩) (DL.wi_list (DL.we_fld (DL.we_var 0 rfl (Or.inl rfl) rfl) (rfl) (CE.cl) (CE.na _ (by decide +kernel)) (rfl))) (DL.Wk.mk (DL.WkO.keep (rfl) (DL.WkO.nil)) (DL.WkS.keep (rfl) (DL.WkS.keep (rfl) (DL.WkS.drop (DL.WkS.nil))))) ?_ (DL.wss_cons (DL.ws_ret (DL.we_tup (DL.wa_cons (DL.we_fld (DL.we_var 0 rfl (Or.inl rfl) rfl) (rfl) (CE.cl) (CE.na _ (by decide +kernel)) (rfl)) (DL.wa_cons (DL.we_tupleO 0 (DL.we_var 1 rfl (Or.inl rfl) rfl) (rfl) (G.free _ (by decide +kernel)) (rfl) (rfl)) (DL.wa_nil) (rfl)) (rfl)) (Nat.le_of_ble_eq_true rfl)) (rfl)))))) hN (rfl) (Or.inl rfl) (rfl) (Or.inl rfl)))
  intro pre x post hl
  have hp : (rle pre).length ≤ 100000 := Nat.le_trans (rle_len pre) (by rw [hl] at h; simp at h; omega)
  rcases List.eq_nil_or_concat (rle pre) with hr1 | ⟨init, ⟨a, n⟩, hr1⟩
  · rw [hr1]
    refine (Exists.intro _ (And.intro (DL.wg_name 2 hN (rfl) (Or.inl rfl) (Or.inl rfl)) (DL.wss_cons (DL.ws_if (DL.wt_w (DL.ww_andF (DL.wt_tru (DL.wb_own 0 (DL.we_var 1 rfl (Or.inl rfl) rfl) (rfl)) (DL.tru_lst) (by intros; first | rfl | exact DL.RepL.nil | exact DL.RepL.cons DL.Rep.non DL.RepL.nil)))) (fun z => nomatch z) (fun _ => (DL.wss_cons (DL.ws_append 0 (DL.we_var 1 rfl (Or.inl rfl) rfl) (rfl) (DL.we_tup (DL.wa_cons (DL.we_var 2 rfl (Or.inl rfl) rfl) (DL.wa_cons (DL.we_int) (DL.wa_nil) (rfl)) (rfl)) (Nat.le_of_ble_eq_true rfl)) (by decide +kernel) (DL.wss_nil (DL.Wk.refl _) (DL.wss_nil2 rfl (DL.Wk.mk (DL.WkO.keep ?_ (DL.WkO.nil)) (DL.WkS.keep (rfl) (DL.WkS.keep (rfl) (DL.WkS.drop (DL.WkS.nil))))))) (rfl) (rfl) (rfl) (rfl) (rfl))))))))
    rw [rle_app, hr1]
    rfl
  · rw [List.concat_eq_append] at hr1
    rw [hr1] at hp ⊢
    have hs := rleStep_last init a n x
    refine (Exists.intro _ (And.intro (DL.wg_name 2 hN (rfl) (Or.inl rfl) (Or.inl rfl)) (DL.wss_cons (DL.ws_if (DL.wt_w (DL.ww_and (DL.wt_tru (DL.wb_own 0 (DL.we_var 1 rfl (Or.inl rfl) rfl) (rfl)) (DL.tru_c) (by intros; first | rfl | exact DL.RepL.nil | exact DL.RepL.cons DL.Rep.non DL.RepL.nil)) (fun _ => (DL.ww_and1 (DL.wt_cmp (DL.wb_of (DL.we_bin (DL.wb_of (DL.we_sub' (DL.we_ixO 0 (DL.we_var 1 rfl (Or.inl rfl) rfl) (rfl) (DL.wb_of (DL.we_neg (DL.wb_of (DL.we_int)))) (DL.atI_lastM _ _ _) (fun _ _ => rfl)) (DL.wb_of (DL.we_int)) (DL.sub_t (rfl)) (fun _ _ => rfl))) (DL.wb_of (DL.we_sub' (DL.we_ixO 0 (DL.we_var 1 rfl (Or.inl rfl) rfl) (rfl) (DL.wb_of (DL.we_neg (DL.wb_of (DL.we_int)))) (DL.atI_lastM _ _ _) (fun _ _ => rfl)) (DL.wb_of (DL.we_int)) (DL.sub_t (rfl)) (fun _ _ => rfl))) (DL.bin_add))) (DL.wb_of (DL.we_var 2 rfl (Or.inl rfl) rfl)) (DL.cmp_eqI) (rfl)))))) (fun _ => ?_) (fun _ => ?_)))))
    · rename_i hc
      have hx : a + n = x := by simpa using hc
      refine (DL.wss_cons (DL.ws_setIx 0 (DL.we_var 1 rfl (Or.inl rfl) rfl) (rfl) (DL.wb_of (DL.we_neg (DL.wb_of (DL.we_int)))) (DL.we_tup (DL.wa_cons (DL.we_sub' (DL.we_ixO 0 (DL.we_var 1 rfl (Or.inl rfl) rfl) (rfl) (DL.wb_of (DL.we_neg (DL.wb_of (DL.we_int)))) (DL.atI_lastM _ _ _) (fun _ _ => rfl)) (DL.wb_of (DL.we_int)) (DL.sub_t (rfl)) (fun _ _ => rfl)) (DL.wa_cons (DL.we_bin (DL.wb_of (DL.we_sub' (DL.we_ixO 0 (DL.we_var 1 rfl (Or.inl rfl) rfl) (rfl) (DL.wb_of (DL.we_neg (DL.wb_of (DL.we_int)))) (DL.atI_lastM _ _ _) (fun _ _ => rfl)) (DL.wb_of (DL.we_int)) (DL.sub_t (rfl)) (fun _ _ => rfl))) (DL.wb_of (DL.we_int)) (DL.bin_add)) (DL.wa_nil) (rfl)) (rfl)) (Nat.le_of_ble_eq_true rfl)) (DL.ixN_lastM _ _ _) (DL.wss_nil (DL.Wk.refl _) (DL.wss_nil2 rfl (DL.Wk.mk (DL.WkO.keep ?_ (DL.WkO.nil)) (DL.WkS.keep (rfl) (DL.WkS.keep (rfl) (DL.WkS.drop (DL.WkS.nil))))))) (rfl) (rfl) (rfl) (by intros; first | rfl | exact DL.RepL.nil | exact DL.RepL.cons DL.Rep.non DL.RepL.nil)))
      rw [rle_app, hr1, hs, if_pos hx, ← set_lastM init (a, n) (a, n + 1) spanD]
    · rename_i hc
      have hx : ¬ a + n = x := by simpa using hc
      refine (DL.wss_cons (DL.ws_append 0 (DL.we_var 1 rfl (Or.inl rfl) rfl) (rfl) (DL.we_tup (DL.wa_cons (DL.we_var 2 rfl (Or.inl rfl) rfl) (DL.wa_cons (DL.we_int) (DL.wa_nil) (rfl)) (rfl)) (Nat.le_of_ble_eq_true rfl)) ?_ (DL.wss_nil (DL.Wk.refl _) (DL.wss_nil2 rfl (DL.Wk.mk (DL.WkO.keep ?_ (DL.WkO.nil)) (DL.WkS.keep (rfl) (DL.WkS.keep (rfl) (DL.WkS.drop (DL.WkS.nil))))))) (rfl) (rfl) (rfl) (rfl) (rfl)))
      · rw [List.length_map]; exact small (by omega)
      · rw [rle_app, hr1, hs, if_neg hx]
        simp
end
end DL
/-! V66f: same; rows. -/
namespace DL
open PySem PySem.Spec PyProof.Rows L2
theorem canLayAll_map {τ : Type} {f : τ → PyData} : ∀ {l : List τ}, (∀ x ∈ l, (f x).canLay0 = true) → PyData.canLayAll0 (l.map f) = true
  | [], _ => rfl
  | x :: l, h => by
    rw [List.map_cons, PyData.canLayAll0, h x List.mem_cons_self, canLayAll_map fun y hy => h y (List.mem_cons_of_mem _ hy)]
    rfl
theorem depthAll_map {τ : Type} {f : τ → PyData} {n : Nat} : ∀ {l : List τ}, (∀ x ∈ l, (f x).depth ≤ n) → PyData.depthAll (l.map f) ≤ n
  | [], _ => Nat.zero_le _
  | x :: l, h => by
    rw [List.map_cons, PyData.depthAll]
    exact Nat.max_le.mpr ⟨h x List.mem_cons_self, depthAll_map fun y hy => h y (List.mem_cons_of_mem _ hy)⟩
theorem letters_ok {c : Nat} (h : c ∈ letters.cps.toList) : c < 128 := by
  have : letters.cps.toList.all (fun c => decide (c < 128)) = true := by decide +kernel
  exact of_decide_eq_true (List.all_eq_true.mp this c h)
theorem okName_str {s : Str} (h : okName s) : PyData.strOk s = true := by
  unfold PyData.strOk
  rw [Array.all_eq_true_iff_forall_mem]
  intro c hc
  have := letters_ok (h.2.2 c (by simpa using hc))
  simp
  omega
def chP (c : List Int) : PyData := .tuple (c.map PyData.int)
theorem chT_pd (c : List Int) : (chT c).pd = chP c := by
  show PyData.tuple (pdL (c.map D.int)) = _
  rw [pdL_map]
  rfl
def bkP (b : Bk) : PyData := .tuple [.str b.1, .tuple (b.2.map chP)]
theorem bkT_pd (b : Bk) : (bkT b).pd = bkP b := by
  show PyData.tuple [.str b.1, .tuple (pdL (b.2.map chT))] = _
  rw [pdL_map]
  have : (fun c => (chT c).pd) = chP := funext chT_pd
  rw [this]
  rfl
def spP (q : Int × Int) : PyData := .tuple [.int q.1, .int q.2]
def toldP (e : Ed) : PyData := .tuple [.tuple (e.bs.map bkP), .tuple ((rle e.ls).map spP)]
theorem told_pd (e : Ed) : (toldD e).pd = toldP e := by
  show PyData.tuple [.tuple (pdL (e.bs.map bkT)), .tuple (pdL ((rle e.ls).map spanD))] = _
  rw [pdL_map, pdL_map]
  have : (fun b => (bkT b).pd) = bkP := funext bkT_pd
  rw [this]
  rfl
theorem told_dat (e : Ed) : (toldD e).dat = true := by
  show (datL [.tup (e.bs.map bkT), .tup ((rle e.ls).map spanD)]) = true
  have h1 : (D.tup (e.bs.map bkT)).dat = true := by
    show datL _ = true
    refine datL_map fun b _ => ?_
    show ((D.str b.1).dat && ((D.tup (b.2.map chT)).dat && true)) = true
    have : (D.tup (b.2.map chT)).dat = true := by
      show datL _ = true
      refine datL_map fun c _ => ?_
      show datL (c.map D.int) = true
      exact datL_map fun _ _ => rfl
    rw [this]
    rfl
  have h2 : (D.tup ((rle e.ls).map spanD)).dat = true := by
    show datL _ = true
    exact datL_map fun _ _ => rfl
  show ((D.tup (e.bs.map bkT)).dat && ((D.tup ((rle e.ls).map spanD)).dat && true)) = true
  rw [h1, h2]
  rfl
theorem told_shaped {e : Ed} (h : OkEd e) : SeqAt.shaped (toldD e).pd = true := by
  rw [told_pd]
  unfold SeqAt.shaped
  rw [Bool.and_eq_true, decide_eq_true_eq]
  constructor
  · show PyData.canLayAll0 [.tuple (e.bs.map bkP), .tuple ((rle e.ls).map spP)] = true
    have h1 : PyData.canLayAll0 (e.bs.map bkP) = true := by
      refine canLayAll_map fun b hb => ?_
      show (PyData.strOk b.1 && (PyData.canLayAll0 (b.2.map chP) && true)) = true
      rw [okName_str (h.b.ok b hb).1]
      have : PyData.canLayAll0 (b.2.map chP) = true := canLayAll_map fun c _ => canLayAll_map fun _ _ => rfl
      rw [this]
      rfl
    have h2 : PyData.canLayAll0 ((rle e.ls).map spP) = true := canLayAll_map fun _ _ => rfl
    show (PyData.canLayAll0 (e.bs.map bkP) && (PyData.canLayAll0 ((rle e.ls).map spP) && true)) = true
    rw [h1, h2]
    rfl
  · show PyData.depthAll [.tuple (e.bs.map bkP), .tuple ((rle e.ls).map spP)] + 1 ≤ 64
    have h1 : PyData.depthAll (e.bs.map bkP) ≤ 10 := by
      refine depthAll_map fun b _ => ?_
      show PyData.depthAll [.str b.1, .tuple (b.2.map chP)] + 1 ≤ 10
      have : PyData.depthAll (b.2.map chP) ≤ 3 := depthAll_map fun c _ => by
        show PyData.depthAll (c.map PyData.int) + 1 ≤ 3
        have : PyData.depthAll (c.map PyData.int) ≤ 0 := depthAll_map fun _ _ => Nat.le_refl _
        omega
      show max 0 (max (PyData.depthAll (b.2.map chP) + 1) 0) + 1 ≤ 10
      omega
    have h2 : PyData.depthAll ((rle e.ls).map spP) ≤ 10 := depthAll_map fun _ _ => by show (1 : Nat) ≤ 10; decide
    show max (PyData.depthAll (e.bs.map bkP) + 1) (max (PyData.depthAll ((rle e.ls).map spP) + 1) 0) + 1 ≤ 64
    omega
/-- the same books and lines -/
def sameB (a b : Ed) : Bool := decide (a.bs = b.bs) && decide (rle a.ls = rle b.ls)
theorem chP_eqv (x y : List Int) : PyData.eqv (chP x) (chP y) = decide (x = y) := by
  show PyData.eqvAll (x.map PyData.int) (y.map PyData.int) = _
  exact eqvAll_map (fun i j => by show (i == j) = _; exact Bool.beq_eq_decide_eq i j) x y
theorem spP_eqv (x y : Int × Int) : PyData.eqv (spP x) (spP y) = decide (x = y) := by
  obtain ⟨a, b⟩ := x
  obtain ⟨c, d⟩ := y
  show ((a == c) && ((b == d) && true)) = _
  by_cases h1 : a = c <;> by_cases h2 : b = d <;> simp [h1, h2]
theorem bkP_eqv (x y : Bk) : PyData.eqv (bkP x) (bkP y) = decide (x = y) := by
  obtain ⟨a, b⟩ := x
  obtain ⟨c, d⟩ := y
  show ((a == c) && (PyData.eqvAll (b.map chP) (d.map chP) && true)) = _
  rw [eqvAll_map chP_eqv]
  by_cases h1 : a = c <;> by_cases h2 : b = d <;> simp [h1, h2]
theorem told_eqv (a b : Ed) : PyData.eqv (toldD a).pd (toldD b).pd = sameB a b := by
  rw [told_pd, told_pd]
  show (PyData.eqvAll (a.bs.map bkP) (b.bs.map bkP) && (PyData.eqvAll ((rle a.ls).map spP) ((rle b.ls).map spP) && true)) = _
  rw [eqvAll_map bkP_eqv, eqvAll_map spP_eqv, Bool.and_true]
  rfl
inductive edSameR (C : Addr) : List D → D → Prop
  | mk (a b : Ed) (ha : OkEd a) (hb : OkEd b) : edSameR C [edD C a, edD C b] (.bl (sameB a b))
theorem scE12 : FnScope ["self", "thing"] ["self", "thing"] (defScope (edM 12)) := (⟨rfl, rfl, rfl, by decide +kernel, rfl, by decide +kernel, by decide +kernel⟩)
section
variable {P : Program} {w : World} {K : PySem.W.Frag} {mg : Str → Option Value} {base : Heap} {f C : Addr} {fd : FuncData} (G : G66 mg) (CE : ClsF K C edFlds) (gE : mg "Edition" = some (.ref C))
include G CE gE
theorem ok_edSame (F : FD K "same" "Edition.same" (edM 12) f fd) (k1 : KnM P w K mg base C "told" 1 [] (spR K (edToldR C))) : FnOk P w K mg base CX0 2 f fd ["self", "thing"] (spR K (edSameR C)) := by
  have hN := scE12.nd
  refine fn_okR F scE12 (fun ds d h => by cases h <;> rfl) fun cdv A outer s H E hr ds d hR => ?_
  obtain ⟨a, b, ha, hb⟩ := hR
  refine (DL.wss_cons (DL.ws_ret (DL.we_and (DL.we_isi (DL.wb_of (DL.we_var 1 rfl (Or.inl rfl) rfl)) (DL.wb_of (DL.we_glC (by assumption))) (DL.isi_c (CE.ty) (CE.one)) (G.free _ (by decide +kernel)) (rfl) (rfl) (rfl) (rfl)) (fun _ => (DL.we_one (DL.we_cmp (DL.wb_of (DL.we_meth0 k1 hr (DL.we_var 0 rfl (Or.inl rfl) rfl) (rfl) (DL.edToldR.mk _ ?_) (rfl))) (DL.wb_of (DL.we_meth0 k1 hr (DL.we_var 1 rfl (Or.inl rfl) rfl) (rfl) (DL.edToldR.mk _ ?_) (rfl))) (DL.cmp_eqD ?_ ?_ ?_ ?_ (hr.units)) (rfl))))) ?_))
  · exact ha.l
  · exact hb.l
  · exact told_dat a
  · exact told_dat b
  · exact told_shaped ha
  · exact told_shaped hb
  · rw [told_eqv]; rfl
end
end DL
/-! V66g: rows, Leading. -/
namespace DL
open PySem PySem.Spec PyProof.Rows L2
def optD : Option Int → D
  | none => .non
  | some i => .int i
structure Rw where
  f : Int
  s : Option Int
  m : Int
abbrev rowD (r : Rw) : D := .tup [.int r.f, optD r.s, .int r.m]
def rowStep (acc : List Rw) (q : Int × Option Int) : List Rw :=
  match acc.getLast? with
  | some r => if q.2 = r.s.map (· + r.m) then acc.dropLast ++ [⟨r.f, r.s, r.m + 1⟩] else acc ++ [⟨q.1, q.2, 1⟩]
  | none => [⟨q.1, q.2, 1⟩]
def rowsOf (l : List (Int × Option Int)) : List Rw := l.foldl rowStep []
theorem rows_app (l : List (Int × Option Int)) (x : Int × Option Int) : rowsOf (l ++ [x]) = rowStep (rowsOf l) x := by simp [rowsOf]
theorem rowStep_last (i : List Rw) (r : Rw) (q : Int × Option Int) : rowStep (i ++ [r]) q = if q.2 = r.s.map (· + r.m) then i ++ [⟨r.f, r.s, r.m + 1⟩] else i ++ [r] ++ [⟨q.1, q.2, 1⟩] := by
  unfold rowStep
  rw [List.getLast?_concat]
  simp only [List.dropLast_concat]
theorem rowStep_len (acc : List Rw) (x : Int × Option Int) : (rowStep acc x).length ≤ acc.length + 1 := by
  unfold rowStep
  split
  · split
    · simp
    · simp
  · simp
theorem rows_len (l : List (Int × Option Int)) : (rowsOf l).length ≤ l.length := by
  have key : ∀ (m : List (Int × Option Int)) (acc : List Rw), (m.foldl rowStep acc).length ≤ acc.length + m.length := by
    intro m
    induction m with
    | nil => intro acc; simp
    | cons x m ih =>
      intro acc
      have h1 := ih (rowStep acc x)
      have h2 := rowStep_len acc x
      rw [List.foldl_cons, List.length_cons]
      omega
  have := key l []
  simpa [rowsOf] using this
theorem opt_dat : ∀ o : Option Int, (optD o).dat = true
  | none => rfl
  | some _ => rfl
theorem opt_lay : ∀ o : Option Int, (optD o).pd.canLay0 = true ∧ (optD o).pd.depth = 0
  | none => ⟨rfl, rfl⟩
  | some _ => ⟨rfl, rfl⟩
theorem rows_dat (l : List Rw) : datL (l.map rowD) = true := datL_map fun r _ => by
  show (true && ((optD r.s).dat && (true && true))) = true
  rw [opt_dat]
  rfl
theorem rows_shaped (l : List Rw) : SeqAt.shaped (D.lst (l.map rowD)).pd = true := by
  have e : (D.lst (l.map rowD)).pd = .list (l.map fun r => (rowD r).pd) := by
    show PyData.list (pdL (l.map rowD)) = _
    rw [pdL_map]
  rw [e]
  unfold SeqAt.shaped
  rw [Bool.and_eq_true, decide_eq_true_eq]
  refine ⟨canLayAll_map fun r _ => ?_, ?_⟩
  · show (true && ((optD r.s).pd.canLay0 && (true && true))) = true
    rw [(opt_lay r.s).1]
    rfl
  · show PyData.depthAll (l.map fun r => (rowD r).pd) + 1 ≤ 64
    have : PyData.depthAll (l.map fun r => (rowD r).pd) ≤ 5 := depthAll_map fun r _ => by
      show max 0 (max (optD r.s).pd.depth (max 0 0)) + 1 ≤ 5
      rw [(opt_lay r.s).2]
      decide
    omega
inductive rowsOfR : List D → D → Prop
  | mk (l : List (Option Int)) (h : l.length ≤ 100000) : rowsOfR [.lst (l.map optD)] (.lst ((rowsOf (enumL 0 l)).map rowD))
theorem sc55 : FnScope ["goes", "found", "number", "at", "first", "start", "many", "due"] ["goes"] (defScope (top 55)) := (⟨rfl, rfl, rfl, by decide +kernel, rfl, by decide +kernel, by decide +kernel⟩)
section
variable {P : Program} {w : World} {K : PySem.W.Frag} {mg : Str → Option Value} {base : Heap} {f C : Addr} {fd : FuncData} (G : G66 mg)
include G
theorem ok_rowsOf (F : FD K "rows_of" "rows_of" (top 55) f fd) : FnOk P w K mg base CX0 1 f fd ["goes"] (spR K rowsOfR) := by
  have hN := sc55.nd
  refine fn_okR F sc55 (fun ds d h => by cases h <;> rfl) fun cdv A outer s H E hr ds d hR => ?_
  obtain ⟨l, h⟩ := hR
  refine (DL.wss_cons (DL.ws_asgN 1 (DL.wn_lst (DL.wa_nil) (by decide +kernel)) (fun p0 => (DL.wss_cons (ws_for (l := enumL 0 l) (enc := enumEnc optD) (fun pre => ⟨[⟨p0, true, .lst ((rowsOf pre).map rowD)⟩], [some (.lst (l.map optD)), some (.ref p0), none, none, none, none, none, none]⟩) (DL.wi_enumL (DL.we_var 0 rfl (Or.inl rfl) rfl) (G.free _ (by decide +kernel)) (rfl) (rfl)) (DL.Wk.mk (DL.WkO.keep (rfl) (DL.WkO.nil)) (DL.WkS.keep (rfl) (DL.WkS.keep (rfl) (DL.WkS.drop (DL.WkS.drop (DL.WkS.drop (DL.WkS.drop (DL.WkS.drop (DL.WkS.drop (DL.WkS.nil)))))))))) ?_ (DL.wss_cons (DL.ws_retF 0 (DL.we_var 1 rfl (Or.inl rfl) rfl) (rfl) (rfl)))))) hN (rfl) (Or.inl rfl) (rfl) (Or.inl rfl)))
  intro pre x post hl
  have hp : (rowsOf pre).length ≤ 99999 := Nat.le_trans (rows_len pre) (by
    have := congrArg List.length hl
    rw [enumL_length, List.length_append, List.length_cons] at this
    omega)
  obtain ⟨i, a⟩ := x
  rcases List.eq_nil_or_concat (rowsOf pre) with hr1 | ⟨init, ⟨fi, st, mn⟩, hr1⟩
  · rw [hr1]
    refine (Exists.intro _ (And.intro (DL.wg_tup (DL.wgs_cons (DL.wg_name 2 hN (rfl) (Or.inl rfl) (Or.inl rfl)) (DL.wgs_cons (DL.wg_name 3 hN (rfl) (Or.inl rfl) (Or.inl rfl)) (DL.wgs_nil) (rfl)) (rfl)) (rfl) (rfl) (rfl)) (DL.wss_cons (DL.ws_if (DL.wt_cmp (DL.wb_own 0 (DL.we_var 1 rfl (Or.inl rfl) rfl) (rfl)) (DL.wb_wn (DL.wn_lst (DL.wa_nil) (by decide +kernel))) (DL.cmp_neNil (rfl) (rfl) (hr.units)) (rfl)) (fun z => nomatch z) (fun _ => (DL.wss_nil (DL.Wk.refl _) (DL.wss_cons (DL.ws_append 0 (DL.we_var 1 rfl (Or.inl rfl) rfl) (rfl) (DL.we_tup (DL.wa_cons (DL.we_var 2 rfl (Or.inl rfl) rfl) (DL.wa_cons (DL.we_var 3 rfl (Or.inl rfl) rfl) (DL.wa_cons (DL.we_int) (DL.wa_nil) (rfl)) (rfl)) (rfl)) (Nat.le_of_ble_eq_true rfl)) (by decide +kernel) (DL.wss_nil2 rfl (DL.Wk.mk (DL.WkO.keep ?_ (DL.WkO.nil)) (DL.WkS.keep (rfl) (DL.WkS.keep (rfl) (DL.WkS.drop (DL.WkS.drop (DL.WkS.drop (DL.WkS.drop (DL.WkS.drop (DL.WkS.drop (DL.WkS.nil))))))))))) (rfl) (rfl) (rfl) (rfl) (rfl)))))))))
    rw [rows_app, hr1]
    rfl
  · rw [List.concat_eq_append] at hr1
    rw [hr1] at hp ⊢
    have hs := rowStep_last init ⟨fi, st, mn⟩ (i, a)
    have hlen : ((init ++ [⟨fi, st, mn⟩] : List Rw).map rowD).length < sizeLine := by rw [List.length_map]; exact small (by omega)
    rcases st with _ | st <;> rcases a with _ | a
    · refine (Exists.intro _ (And.intro (DL.wg_tup (DL.wgs_cons (DL.wg_name 2 hN (rfl) (Or.inl rfl) (Or.inl rfl)) (DL.wgs_cons (DL.wg_name 3 hN (rfl) (Or.inl rfl) (Or.inl rfl)) (DL.wgs_nil) (rfl)) (rfl)) (rfl) (rfl) (rfl)) (DL.wss_cons (DL.ws_if (DL.wt_cmp (DL.wb_own 0 (DL.we_var 1 rfl (Or.inl rfl) rfl) (rfl)) (DL.wb_wn (DL.wn_lst (DL.wa_nil) (by decide +kernel))) (DL.cmp_neC ?_ ?_ (hr.units)) (rfl)) (fun _ => (DL.wss_cons (DL.ws_asg (DL.we_ixO 0 (DL.we_var 1 rfl (Or.inl rfl) rfl) (rfl) (DL.wb_of (DL.we_neg (DL.wb_of (DL.we_int)))) (DL.atI_lastM _ _ _) (fun _ _ => rfl)) (DL.wg_tup (DL.wgs_cons (DL.wg_name 4 hN (rfl) (Or.inl rfl) (Or.inl rfl)) (DL.wgs_cons (DL.wg_name 5 hN (rfl) (Or.inl rfl) (Or.inl rfl)) (DL.wgs_cons (DL.wg_name 6 hN (rfl) (Or.inl rfl) (Or.inl rfl)) (DL.wgs_nil) (rfl)) (rfl)) (rfl)) (rfl) (rfl) (rfl)) (DL.wss_cons (DL.ws_asg (DL.we_non) (DL.wg_name 7 hN (rfl) (Or.inl rfl) (Or.inl rfl)) (DL.wss_cons (DL.ws_if (DL.wt_notNone (DL.wb_of (DL.we_var 5 rfl (Or.inl rfl) rfl)) (by first | (intro z; cases z; done) | fail)) (fun z => nomatch z) (fun _ => (DL.wss_nil (DL.Wk.refl _) (DL.wss_cons (DL.ws_if (DL.wt_cmp (DL.wb_of (DL.we_var 3 rfl (Or.inl rfl) rfl)) (DL.wb_of (DL.we_var 7 rfl (Or.inl rfl) rfl)) (DL.cmp_eqV (rfl) (rfl) (rfl) (rfl)) (rfl)) (fun _ => (DL.wss_cons (DL.ws_setIx 0 (DL.we_var 1 rfl (Or.inl rfl) rfl) (rfl) (DL.wb_of (DL.we_neg (DL.wb_of (DL.we_int)))) (DL.we_tup (DL.wa_cons (DL.we_var 4 rfl (Or.inl rfl) rfl) (DL.wa_cons (DL.we_var 5 rfl (Or.inl rfl) rfl) (DL.wa_cons (DL.we_bin (DL.wb_of (DL.we_var 6 rfl (Or.inl rfl) rfl)) (DL.wb_of (DL.we_int)) (DL.bin_add)) (DL.wa_nil) (rfl)) (rfl)) (rfl)) (Nat.le_of_ble_eq_true rfl)) (DL.ixN_lastM _ _ _) (DL.wss_cons (DL.ws_cont2 rfl (DL.Wk.mk (DL.WkO.keep ?_ (DL.WkO.nil)) (DL.WkS.keep (rfl) (DL.WkS.keep (rfl) (DL.WkS.drop (DL.WkS.drop (DL.WkS.drop (DL.WkS.drop (DL.WkS.drop (DL.WkS.drop (DL.WkS.nil)))))))))))) (rfl) (rfl) (rfl) (by intros; first | rfl | exact DL.RepL.nil | exact DL.RepL.cons DL.Rep.non DL.RepL.nil)))) (fun z => nomatch z))))))) (rfl) (rfl) (rfl))) (rfl) (rfl) (rfl)))) (fun z => nomatch z)))))
      · exact rows_dat _
      · exact rows_shaped _
      · rw [rows_app, hr1, hs.trans (if_pos rfl), ← set_lastM init ⟨fi, none, mn⟩ ⟨fi, none, mn + 1⟩ rowD]
    · refine (Exists.intro _ (And.intro (DL.wg_tup (DL.wgs_cons (DL.wg_name 2 hN (rfl) (Or.inl rfl) (Or.inl rfl)) (DL.wgs_cons (DL.wg_name 3 hN (rfl) (Or.inl rfl) (Or.inl rfl)) (DL.wgs_nil) (rfl)) (rfl)) (rfl) (rfl) (rfl)) (DL.wss_cons (DL.ws_if (DL.wt_cmp (DL.wb_own 0 (DL.we_var 1 rfl (Or.inl rfl) rfl) (rfl)) (DL.wb_wn (DL.wn_lst (DL.wa_nil) (by decide +kernel))) (DL.cmp_neC ?_ ?_ (hr.units)) (rfl)) (fun _ => (DL.wss_cons (DL.ws_asg (DL.we_ixO 0 (DL.we_var 1 rfl (Or.inl rfl) rfl) (rfl) (DL.wb_of (DL.we_neg (DL.wb_of (DL.we_int)))) (DL.atI_lastM _ _ _) (fun _ _ => rfl)) (DL.wg_tup (DL.wgs_cons (DL.wg_name 4 hN (rfl) (Or.inl rfl) (Or.inl rfl)) (DL.wgs_cons (DL.wg_name 5 hN (rfl) (Or.inl rfl) (Or.inl rfl)) (DL.wgs_cons (DL.wg_name 6 hN (rfl) (Or.inl rfl) (Or.inl rfl)) (DL.wgs_nil) (rfl)) (rfl)) (rfl)) (rfl) (rfl) (rfl)) (DL.wss_cons (DL.ws_asg (DL.we_non) (DL.wg_name 7 hN (rfl) (Or.inl rfl) (Or.inl rfl)) (DL.wss_cons (DL.ws_if (DL.wt_notNone (DL.wb_of (DL.we_var 5 rfl (Or.inl rfl) rfl)) (by first | (intro z; cases z; done) | fail)) (fun z => nomatch z) (fun _ => (DL.wss_nil (DL.Wk.refl _) (DL.wss_cons (DL.ws_if (DL.wt_cmp (DL.wb_of (DL.we_var 3 rfl (Or.inl rfl) rfl)) (DL.wb_of (DL.we_var 7 rfl (Or.inl rfl) rfl)) (DL.cmp_eqV (rfl) (rfl) (rfl) (rfl)) (rfl)) (fun z => nomatch z) (fun _ => (DL.wss_nil (DL.Wk.refl _) (DL.wss_nil (DL.Wk.refl _) (DL.wss_cons (DL.ws_append 0 (DL.we_var 1 rfl (Or.inl rfl) rfl) (rfl) (DL.we_tup (DL.wa_cons (DL.we_var 2 rfl (Or.inl rfl) rfl) (DL.wa_cons (DL.we_var 3 rfl (Or.inl rfl) rfl) (DL.wa_cons (DL.we_int) (DL.wa_nil) (rfl)) (rfl)) (rfl)) (Nat.le_of_ble_eq_true rfl)) hlen (DL.wss_nil2 rfl (DL.Wk.mk (DL.WkO.keep ?_ (DL.WkO.nil)) (DL.WkS.keep (rfl) (DL.WkS.keep (rfl) (DL.WkS.drop (DL.WkS.drop (DL.WkS.drop (DL.WkS.drop (DL.WkS.drop (DL.WkS.drop (DL.WkS.nil))))))))))) (rfl) (rfl) (rfl) (rfl) (rfl)))))))))))) (rfl) (rfl) (rfl))) (rfl) (rfl) (rfl)))) (fun z => nomatch z)))))
      · exact rows_dat _
      · exact rows_shaped _
      · rw [rows_app, hr1, hs.trans (if_neg (by simp)), List.map_append (l₁ := init ++ _)]
        rfl
    · refine (Exists.intro _ (And.intro (DL.wg_tup (DL.wgs_cons (DL.wg_name 2 hN (rfl) (Or.inl rfl) (Or.inl rfl)) (DL.wgs_cons (DL.wg_name 3 hN (rfl) (Or.inl rfl) (Or.inl rfl)) (DL.wgs_nil) (rfl)) (rfl)) (rfl) (rfl) (rfl)) (DL.wss_cons (DL.ws_if (DL.wt_cmp (DL.wb_own 0 (DL.we_var 1 rfl (Or.inl rfl) rfl) (rfl)) (DL.wb_wn (DL.wn_lst (DL.wa_nil) (by decide +kernel))) (DL.cmp_neC ?_ ?_ (hr.units)) (rfl)) (fun _ => (DL.wss_cons (DL.ws_asg (DL.we_ixO 0 (DL.we_var 1 rfl (Or.inl rfl) rfl) (rfl) (DL.wb_of (DL.we_neg (DL.wb_of (DL.we_int)))) (DL.atI_lastM _ _ _) (fun _ _ => rfl)) (DL.wg_tup (DL.wgs_cons (DL.wg_name 4 hN (rfl) (Or.inl rfl) (Or.inl rfl)) (DL.wgs_cons (DL.wg_name 5 hN (rfl) (Or.inl rfl) (Or.inl rfl)) (DL.wgs_cons (DL.wg_name 6 hN (rfl) (Or.inl rfl) (Or.inl rfl)) (DL.wgs_nil) (rfl)) (rfl)) (rfl)) (rfl) (rfl) (rfl)) (DL.wss_cons (DL.ws_asg (DL.we_non) (DL.wg_name 7 hN (rfl) (Or.inl rfl) (Or.inl rfl)) (DL.wss_cons (DL.ws_if (DL.wt_notNone (DL.wb_of (DL.we_var 5 rfl (Or.inl rfl) rfl)) (by first | (intro z; cases z; done) | fail)) (fun _ => (DL.wss_cons (DL.ws_asg (DL.we_bin (DL.wb_of (DL.we_var 5 rfl (Or.inl rfl) rfl)) (DL.wb_of (DL.we_var 6 rfl (Or.inl rfl) rfl)) (DL.bin_add)) (DL.wg_name 7 hN (rfl) (Or.inl rfl) (Or.inl rfl)) (DL.wss_nil (DL.Wk.refl _) (DL.wss_cons (DL.ws_if (DL.wt_cmp (DL.wb_of (DL.we_var 3 rfl (Or.inl rfl) rfl)) (DL.wb_of (DL.we_var 7 rfl (Or.inl rfl) rfl)) (DL.cmp_eqV (rfl) (rfl) (rfl) (rfl)) (rfl)) (fun z => nomatch z) (fun _ => (DL.wss_nil (DL.Wk.refl _) (DL.wss_nil (DL.Wk.refl _) (DL.wss_cons (DL.ws_append 0 (DL.we_var 1 rfl (Or.inl rfl) rfl) (rfl) (DL.we_tup (DL.wa_cons (DL.we_var 2 rfl (Or.inl rfl) rfl) (DL.wa_cons (DL.we_var 3 rfl (Or.inl rfl) rfl) (DL.wa_cons (DL.we_int) (DL.wa_nil) (rfl)) (rfl)) (rfl)) (Nat.le_of_ble_eq_true rfl)) hlen (DL.wss_nil2 rfl (DL.Wk.mk (DL.WkO.keep ?_ (DL.WkO.nil)) (DL.WkS.keep (rfl) (DL.WkS.keep (rfl) (DL.WkS.drop (DL.WkS.drop (DL.WkS.drop (DL.WkS.drop (DL.WkS.drop (DL.WkS.drop (DL.WkS.nil))))))))))) (rfl) (rfl) (rfl) (rfl) (rfl))))))))) (rfl) (rfl) (rfl)))) (fun z => nomatch z))) (rfl) (rfl) (rfl))) (rfl) (rfl) (rfl)))) (fun z => nomatch z)))))
      · exact rows_dat _
      · exact rows_shaped _
      · rw [rows_app, hr1, hs.trans (if_neg (by simp)), List.map_append (l₁ := init ++ _)]
        rfl
    · refine (Exists.intro _ (And.intro (DL.wg_tup (DL.wgs_cons (DL.wg_name 2 hN (rfl) (Or.inl rfl) (Or.inl rfl)) (DL.wgs_cons (DL.wg_name 3 hN (rfl) (Or.inl rfl) (Or.inl rfl)) (DL.wgs_nil) (rfl)) (rfl)) (rfl) (rfl) (rfl)) (DL.wss_cons (DL.ws_if (DL.wt_cmp (DL.wb_own 0 (DL.we_var 1 rfl (Or.inl rfl) rfl) (rfl)) (DL.wb_wn (DL.wn_lst (DL.wa_nil) (by decide +kernel))) (DL.cmp_neC ?_ ?_ (hr.units)) (rfl)) (fun _ => (DL.wss_cons (DL.ws_asg (DL.we_ixO 0 (DL.we_var 1 rfl (Or.inl rfl) rfl) (rfl) (DL.wb_of (DL.we_neg (DL.wb_of (DL.we_int)))) (DL.atI_lastM _ _ _) (fun _ _ => rfl)) (DL.wg_tup (DL.wgs_cons (DL.wg_name 4 hN (rfl) (Or.inl rfl) (Or.inl rfl)) (DL.wgs_cons (DL.wg_name 5 hN (rfl) (Or.inl rfl) (Or.inl rfl)) (DL.wgs_cons (DL.wg_name 6 hN (rfl) (Or.inl rfl) (Or.inl rfl)) (DL.wgs_nil) (rfl)) (rfl)) (rfl)) (rfl) (rfl) (rfl)) (DL.wss_cons (DL.ws_asg (DL.we_non) (DL.wg_name 7 hN (rfl) (Or.inl rfl) (Or.inl rfl)) (DL.wss_cons (DL.ws_if (DL.wt_notNone (DL.wb_of (DL.we_var 5 rfl (Or.inl rfl) rfl)) (by first | (intro z; cases z; done) | fail)) (fun _ => (DL.wss_cons (DL.ws_asg (DL.we_bin (DL.wb_of (DL.we_var 5 rfl (Or.inl rfl) rfl)) (DL.wb_of (DL.we_var 6 rfl (Or.inl rfl) rfl)) (DL.bin_add)) (DL.wg_name 7 hN (rfl) (Or.inl rfl) (Or.inl rfl)) (DL.wss_nil (DL.Wk.refl _) (DL.wss_cons (DL.ws_if (DL.wt_cmp (DL.wb_of (DL.we_var 3 rfl (Or.inl rfl) rfl)) (DL.wb_of (DL.we_var 7 rfl (Or.inl rfl) rfl)) (DL.cmp_eqI) (rfl)) (fun _ => ?_) (fun _ => ?_)))) (rfl) (rfl) (rfl)))) (fun z => nomatch z))) (rfl) (rfl) (rfl))) (rfl) (rfl) (rfl)))) (fun z => nomatch z)))))
      · exact rows_dat _
      · exact rows_shaped _
      · rename_i hc
        have hx : a = st + mn := by simpa using hc
        refine (DL.wss_cons (DL.ws_setIx 0 (DL.we_var 1 rfl (Or.inl rfl) rfl) (rfl) (DL.wb_of (DL.we_neg (DL.wb_of (DL.we_int)))) (DL.we_tup (DL.wa_cons (DL.we_var 4 rfl (Or.inl rfl) rfl) (DL.wa_cons (DL.we_var 5 rfl (Or.inl rfl) rfl) (DL.wa_cons (DL.we_bin (DL.wb_of (DL.we_var 6 rfl (Or.inl rfl) rfl)) (DL.wb_of (DL.we_int)) (DL.bin_add)) (DL.wa_nil) (rfl)) (rfl)) (rfl)) (Nat.le_of_ble_eq_true rfl)) (DL.ixN_lastM _ _ _) (DL.wss_cons (DL.ws_cont2 rfl (DL.Wk.mk (DL.WkO.keep ?_ (DL.WkO.nil)) (DL.WkS.keep (rfl) (DL.WkS.keep (rfl) (DL.WkS.drop (DL.WkS.drop (DL.WkS.drop (DL.WkS.drop (DL.WkS.drop (DL.WkS.drop (DL.WkS.nil)))))))))))) (rfl) (rfl) (rfl) (by intros; first | rfl | exact DL.RepL.nil | exact DL.RepL.cons DL.Rep.non DL.RepL.nil)))
        rw [rows_app, hr1, hs.trans (if_pos (by simp [hx])), ← set_lastM init ⟨fi, some st, mn⟩ ⟨fi, some st, mn + 1⟩ rowD]
      · rename_i hc
        have hx : ¬ a = st + mn := by simpa using hc
        refine (DL.wss_nil (DL.Wk.refl _) (DL.wss_nil (DL.Wk.refl _) (DL.wss_cons (DL.ws_append 0 (DL.we_var 1 rfl (Or.inl rfl) rfl) (rfl) (DL.we_tup (DL.wa_cons (DL.we_var 2 rfl (Or.inl rfl) rfl) (DL.wa_cons (DL.we_var 3 rfl (Or.inl rfl) rfl) (DL.wa_cons (DL.we_int) (DL.wa_nil) (rfl)) (rfl)) (rfl)) (Nat.le_of_ble_eq_true rfl)) hlen (DL.wss_nil2 rfl (DL.Wk.mk (DL.WkO.keep ?_ (DL.WkO.nil)) (DL.WkS.keep (rfl) (DL.WkS.keep (rfl) (DL.WkS.drop (DL.WkS.drop (DL.WkS.drop (DL.WkS.drop (DL.WkS.drop (DL.WkS.drop (DL.WkS.nil))))))))))) (rfl) (rfl) (rfl) (rfl) (rfl)))))
        rw [rows_app, hr1, hs.trans (if_neg (by simp [hx])), List.map_append (l₁ := init ++ _)]
        rfl
end
end DL
/-! V66h: stretches as texts; Leading. -/
namespace DL
open PySem PySem.Spec PyProof.Rows L2
def okNum (i : Int) : Prop := -100000 ≤ i ∧ i ≤ 100000
theorem num_log {i : Int} (h : okNum i) : i.natAbs.log2 < 1920 := by
  have h1 : i.natAbs ≤ 100000 := by unfold okNum at h; omega
  have h2 : i.natAbs < 2 ^ 17 := by omega
  by_cases h0 : i.natAbs = 0
  · rw [h0]; decide
  · have := (Nat.log2_lt h0).mpr h2
    omega
theorem num_len {i : Int} (h : okNum i) : (Str.ofString (toString i)).length ≤ 7 := by
  rw [PySem.ofString_length]
  exact int_text_length_le10 (k := 6) (by decide) (by unfold okNum at h; omega)
def shownT : Option Int → Int → Str
  | none, _ => "none"
  | some i, m => if m = 1 then Str.ofString (toString i) else [Str.ofString (toString i), Str.ofString "-", Str.ofString (toString (i + m - 1))].foldl (· ++ ·) Str.empty
theorem shown_none (m : Int) : shownT none m = "none" := rfl
theorem shown_some (i m : Int) : shownT (some i) m = if m = 1 then Str.ofString (toString i) else [Str.ofString (toString i), Str.ofString "-", Str.ofString (toString (i + m - 1))].foldl (· ++ ·) Str.empty := rfl
theorem shownT_len (o : Option Int) (m : Int) (h : ∀ i, o = some i → 0 ≤ i ∧ i ≤ 1000) (hm : 0 ≤ m ∧ m ≤ 1000) : (shownT o m).length ≤ 15 := by
  cases o with
  | none => rw [shown_none]; decide
  | some i =>
    obtain ⟨h1, h2⟩ := h i rfl
    have a1 := num_len (i := i) ⟨by omega, by omega⟩
    have a2 := num_len (i := i + m - 1) ⟨by omega, by omega⟩
    rw [shown_some]
    split
    · omega
    · show ((Str.empty ++ Str.ofString (toString i) ++ Str.ofString "-") ++ Str.ofString (toString (i + m - 1))).length ≤ 15
      rw [str_app_len, str_app_len, str_app_len]
      have e0 : Str.empty.length = 0 := rfl
      have e1 : (Str.ofString "-").length = 1 := rfl
      omega
inductive shownR : List D → D → Prop
  | mk (o : Option Int) (m : Int) (h : ∀ i, o = some i → 0 ≤ i ∧ i ≤ 1000) (hm : 0 ≤ m ∧ m ≤ 1000) : shownR [optD o, .int m] (.str (shownT o m))
theorem sc56 : FnScope ["first", "many"] ["first", "many"] (defScope (top 56)) := (⟨rfl, rfl, rfl, by decide +kernel, rfl, by decide +kernel, by decide +kernel⟩)
section
variable {P : Program} {w : World} {K : PySem.W.Frag} {mg : Str → Option Value} {base : Heap} {f C : Addr} {fd : FuncData} (G : G66 mg)
include G
theorem ok_shown (F : FD K "shown_stretch" "shown_stretch" (top 56) f fd) : FnOk P w K mg base CX0 1 f fd ["first", "many"] (spR K shownR) := by
  have hN := sc56.nd
  refine fn_okR F sc56 (fun ds d h => by cases h <;> rfl) fun cdv A outer s H E hr ds d hR => ?_
  obtain ⟨o, m, h, hm⟩ := hR
  rcases o with _ | i
  · exact (DL.wss_cons (DL.ws_if (DL.wt_isNone (DL.wb_of (DL.we_var 0 rfl (Or.inl rfl) rfl)) (by first | (intro z; cases z; done) | fail)) (fun _ => (DL.wss_cons (DL.ws_ret (DL.we_str) (rfl)))) (fun z => nomatch z)))
  · obtain ⟨h1, h2⟩ := h i rfl
    have hl : i.natAbs.log2 < 1920 := num_log ⟨by omega, by omega⟩
    have hl2 : (i + m - 1).natAbs.log2 < 1920 := num_log ⟨by omega, by omega⟩
    have a1 := num_len (i := i) ⟨by omega, by omega⟩
    have a2 := num_len (i := i + m - 1) ⟨by omega, by omega⟩
    refine (DL.wss_cons (DL.ws_if (DL.wt_isNone (DL.wb_of (DL.we_var 0 rfl (Or.inl rfl) rfl)) (by first | (intro z; cases z; done) | fail)) (fun z => nomatch z) (fun _ => (DL.wss_nil (DL.Wk.refl _) (DL.wss_cons (DL.ws_if (DL.wt_cmp (DL.wb_of (DL.we_var 1 rfl (Or.inl rfl) rfl)) (DL.wb_of (DL.we_int)) (DL.cmp_eqI) (rfl)) (fun _ => ?_) (fun _ => ?_)))))))
    · rename_i hc
      have hx : m = 1 := by simpa using hc
      refine (DL.wss_cons (DL.ws_ret (DL.we_strI (DL.wb_of (DL.we_var 0 rfl (Or.inl rfl) rfl)) (G.free _ (by decide +kernel)) hl (rfl) (rfl)) ?_))
      rw [shown_some, if_pos hx]
    · rename_i hc
      have hx : ¬ m = 1 := by simpa using hc
      refine (DL.wss_nil (DL.Wk.refl _) (DL.wss_cons (DL.ws_ret (DL.we_joined (DL.wj_cons (DL.we_fmtI (DL.we_var 0 rfl (Or.inl rfl) rfl) hl) (DL.wj_cons (DL.we_str) (DL.wj_cons (DL.we_fmtI (DL.we_bin (DL.wb_of (DL.we_bin (DL.wb_of (DL.we_var 0 rfl (Or.inl rfl) rfl)) (DL.wb_of (DL.we_var 1 rfl (Or.inl rfl) rfl)) (DL.bin_add))) (DL.wb_of (DL.we_int)) (DL.bin_sub)) hl2) (DL.wj_nil)))) ?_) ?_)))
      · simp only [List.map_cons, List.map_nil, List.sum_cons, List.sum_nil]
        have e1 : (Str.ofString "-").length = 1 := rfl
        rw [sizeLine_eq]
        omega
      · rw [shown_some, if_neg hx]
end
end DL
/-! V66i: Leading. -/
namespace DL
open PySem PySem.Spec PyProof.Rows L2
/-- where each line is -/
def gTab (pre : List (Int × Int)) : List (Key × D) := pre.foldl (fun t q => putD t (.inl q.2) (.int q.1)) []
theorem gTab_app (pre : List (Int × Int)) (q : Int × Int) : gTab (pre ++ [q]) = putD (gTab pre) (.inl q.2) (.int q.1) := by simp [gTab]
def optOf : Option D → Option Int
  | some (.int i) => some i
  | _ => none
def goesOf (a b : Ed) : List (Option Int) := a.ls.map fun l => optOf (getD' (gTab (enumL 0 b.ls)) (.inl l))
theorem rev_ind {τ : Type} {p : List τ → Prop} (h0 : p []) (h1 : ∀ l x, p l → p (l ++ [x])) (l : List τ) : p l := by
  have key : ∀ l : List τ, p l.reverse := by
    intro l
    induction l with
    | nil => exact h0
    | cons x l ih => rw [List.reverse_cons]; exact h1 _ _ ih
  have := key l.reverse
  rwa [List.reverse_reverse] at this
theorem gTab_ints : ∀ pre : List (Int × Int), ∀ q ∈ gTab pre, ∃ r ∈ pre, q.2 = .int r.1 := by
  refine rev_ind (fun q hq => by cases hq) fun pre x ih q hq => ?_
  rw [gTab_app] at hq
  rcases putD_mem hq with z | z
  · obtain ⟨r, h1, h2⟩ := ih q z
    exact ⟨r, List.mem_append_left _ h1, h2⟩
  · exact ⟨x, by simp, z⟩
theorem gTab_get (pre : List (Int × Int)) (k : Key) : (getD' (gTab pre) k).getD .non = optD (optOf (getD' (gTab pre) k)) := by
  cases e : getD' (gTab pre) k with
  | none => rfl
  | some d =>
    obtain ⟨q, hq, rfl⟩ := getD_mem e
    obtain ⟨r, _, z⟩ := gTab_ints pre q hq
    rw [z]
    rfl
theorem gTab_len (pre : List (Int × Int)) : (gTab pre).length ≤ pre.length := by
  refine rev_ind (p := fun pre => (gTab pre).length ≤ pre.length) (Nat.le_refl _) (fun pre x ih => ?_) pre
  rw [gTab_app]
  refine Nat.le_trans (putD_len _ _ _) ?_
  rw [List.length_append, List.length_singleton]
  omega
abbrev ldD (CL CE : Addr) (a b : Ed) : D := .ins CL [("kept_one", edD CE a), ("kept_other", edD CE b), ("kept_goes", .lst ((goesOf a b).map optD)), ("kept_comes", .any)]
inductive ldInR (CL CE : Addr) : List D → D → Prop
  | mk (a b : Ed) (ha : OkEd a) (hb : OkEd b) : ldInR CL CE [edD CE a, edD CE b] (ldD CL CE a b)
theorem scL0 : FnScope ["self", "one", "other", "at_line", "number", "line", "comes", "at"] ["self", "one", "other"] (defScope (ldM 0)) := (⟨rfl, rfl, rfl, by decide +kernel, rfl, by decide +kernel, by decide +kernel⟩)
section
variable {P : Program} {w : World} {K : PySem.W.Frag} {mg : Str → Option Value} {base : Heap} {f CL C : Addr} {fd : FuncData} (G : G66 mg) (CE : ClsF K C edFlds) (CLf : ClsF K CL ldFlds) (gE : mg "Edition" = some (.ref C))
include G CE CLf gE
theorem ok_ldInit (F : FD K "__init__" "Leading.__init__" (ldM 0) f fd) (k1 : KnM P w K mg base C "lines" 1 [] (spR K (edLinesR C))) (k2 : KnM P w K mg base C "size" 1 [] (spR K (edSizeR C))) : FnOk P w K mg base CX0 2 f fd ["self", "one", "other"] (spI K CL (ldInR CL C)) := by
  have hN := scL0.nd
  refine fn_okI F scL0 (fun ds d h => by cases h <;> rfl) fun cdv A outer s H E hr ds d hR p0 => ?_
  obtain ⟨a, b, ha, hb⟩ := hR
  refine wss_init ?_
  refine (DL.wss_cons (DL.ws_ifN (DL.wt_not (DL.wt_tru (DL.wb_of (DL.we_isi (DL.wb_of (DL.we_var 1 rfl (Or.inl rfl) rfl)) (DL.wb_of (DL.we_glC (by assumption))) (DL.isi_c (CE.ty) (CE.one)) (G.free _ (by decide +kernel)) (rfl) (rfl) (rfl) (rfl))) (DL.tru_bl) (by intros; first | rfl | exact DL.RepL.nil | exact DL.RepL.cons DL.Rep.non DL.RepL.nil))) (rfl) (DL.wss_nil (DL.Wk.refl _) (DL.wss_cons (DL.ws_ifN (DL.wt_not (DL.wt_tru (DL.wb_of (DL.we_isi (DL.wb_of (DL.we_var 2 rfl (Or.inl rfl) rfl)) (DL.wb_of (DL.we_glC (by assumption))) (DL.isi_c (CE.ty) (CE.one)) (G.free _ (by decide +kernel)) (rfl) (rfl) (rfl) (rfl))) (DL.tru_bl) (by intros; first | rfl | exact DL.RepL.nil | exact DL.RepL.cons DL.Rep.non DL.RepL.nil))) (rfl) (DL.wss_nil (DL.Wk.refl _) (DL.wss_cons (DL.ws_setFld 0 (DL.we_var 0 rfl (Or.inl rfl) rfl) (rfl) (DL.we_var 1 rfl (Or.inl rfl) rfl) (DL.wss_cons (DL.ws_setFld 0 (DL.we_var 0 rfl (Or.inl rfl) rfl) (rfl) (DL.we_var 2 rfl (Or.inl rfl) rfl) (DL.wss_cons (DL.ws_asgN 3 (DL.wn_dK) (fun p1 => (DL.wss_cons (ws_for (l := enumL 0 b.ls) (enc := enumEnc D.int) (fun pre => ⟨[⟨p0, true, .ins CL [("kept_one", edD C a), ("kept_other", edD C b)]⟩, ⟨p1, true, .dK (gTab pre)⟩], [some (.ref p0), some (edD C a), some (edD C b), some (.ref p1), none, none, none, none]⟩) (DL.wi_enumL (DL.we_meth0 k1 hr (DL.we_var 2 rfl (Or.inl rfl) rfl) (rfl) (DL.edLinesR.mk _) (rfl)) (G.free _ (by decide +kernel)) (rfl) (rfl)) (DL.Wk.mk (DL.WkO.keep (rfl) (DL.WkO.keep (rfl) (DL.WkO.nil))) (DL.WkS.keep (rfl) (DL.WkS.keep (rfl) (DL.WkS.keep (rfl) (DL.WkS.keep (rfl) (DL.WkS.drop (DL.WkS.drop (DL.WkS.drop (DL.WkS.drop (DL.WkS.nil)))))))))) ?_ (DL.wss_cons (DL.ws_setFld 0 (DL.we_var 0 rfl (Or.inl rfl) rfl) (rfl) (DL.we_wn (wn_lcG a.ls D.int (fun l => optOf (getD' (gTab (enumL 0 b.ls)) (.inl l))) optD [("line", 5)] (DL.wio_wi (DL.wi_list (DL.we_meth0 k1 hr (DL.we_var 1 rfl (Or.inl rfl) rfl) (rfl) (DL.edLinesR.mk _) (rfl)))) ?_ (rfl) (fun _ _ => (DL.elt_mk _ (fun _ _ _ _ _ => (DL.wg_name 5 hN (rfl) (Or.inl rfl) (Or.inr rfl))) (rfl) (fun _ _ _ _ _ => (DL.we_get1' (DL.wb_own 1 (DL.we_var 3 rfl (Or.inr (Or.inl rfl)) rfl) (rfl)) (DL.wb_of (DL.we_var 5 rfl (Or.inl rfl) rfl)) (rfl) (DL.room_u hr) ?_ (⟨rfl, rfl, rfl, rfl⟩))) ?_)) hN)) (DL.wss_cons (DL.ws_asgLf 6 (fun p2 => (DL.wss_cons (ws_for (l := enumL 0 (goesOf a b)) (enc := enumEnc optD) (fun pre => ⟨[⟨p0, true, .ins CL [("kept_one", edD C a), ("kept_other", edD C b), ("kept_goes", .lst ((goesOf a b).map optD))]⟩, ⟨p1, true, .dK (gTab (enumL 0 b.ls))⟩, ⟨p2, true, lfD P w p2 pre.length⟩], [some (.ref p0), some (edD C a), some (edD C b), some (.ref p1), none, none, some (.ref p2), none]⟩) (DL.wi_enumL (DL.we_fldO 0 (DL.we_var 0 rfl (Or.inl rfl) rfl) (rfl) (rfl) (CLf.cl) (CLf.na _ (by decide +kernel)) (rfl)) (G.free _ (by decide +kernel)) (rfl) (rfl)) (DL.Wk.mk (DL.WkO.keep (rfl) (DL.WkO.keep (rfl) (DL.WkO.keep (rfl) (DL.WkO.nil)))) (DL.WkS.keep (rfl) (DL.WkS.keep (rfl) (DL.WkS.keep (rfl) (DL.WkS.keep (rfl) (DL.WkS.drop (DL.WkS.drop (DL.WkS.keep (rfl) (DL.WkS.drop (DL.WkS.nil)))))))))) ?_ (DL.wss_cons (DL.ws_setFld 0 (DL.we_var 0 rfl (Or.inl rfl) rfl) (rfl) (DL.we_wn (wn_lcG (rgL 0 (allPl b.bs).length) D.int (fun _ => D.any) id [("at", 7)] (DL.wio_wi (DL.wi_rg1 (DL.wb_of (DL.we_meth0 k2 hr (DL.we_var 2 rfl (Or.inl rfl) rfl) (rfl) (DL.edSizeR.mk _) (rfl))) ?_ ?_ (G.free _ (by decide +kernel)) (rfl) (rfl))) ?_ (rfl) (fun _ _ => (DL.elt_mk _ (fun _ _ _ _ _ => (DL.wg_name 7 hN (rfl) (Or.inl rfl) (Or.inr rfl))) (rfl) (fun _ _ _ _ _ => (DL.we_getLf 2 (DL.we_var 6 rfl (Or.inr (Or.inl rfl)) rfl) (rfl) (DL.wb_of (DL.we_var 7 rfl (Or.inl rfl) rfl)) (rfl) (⟨rfl, rfl, rfl, rfl⟩))) (rfl))) hN)) (DL.wss_nil (DL.Wk.refl _) ?_) (CLf.cl) (CLf.na _ (by decide +kernel)) (Nat.le_of_ble_eq_true rfl) (rfl)))))) hN (rfl) (Or.inr rfl) (rfl) (Or.inl rfl) (rfl))) (CLf.cl) (CLf.na _ (by decide +kernel)) (Nat.le_of_ble_eq_true rfl) (rfl)))))) hN (rfl) (Or.inr rfl) (rfl) (Or.inl rfl))) (CLf.cl) (CLf.na _ (by decide +kernel)) (Nat.le_of_ble_eq_true rfl) (rfl))) (CLf.cl) (CLf.na _ (by decide +kernel)) (by decide +kernel) (rfl)))))))))
  · intro pre x post hl
    have hlen := congrArg List.length hl
    rw [enumL_length, List.length_append, List.length_cons] at hlen
    have := hb.l
    refine (Exists.intro _ (And.intro (DL.wg_tup (DL.wgs_cons (DL.wg_name 4 hN (rfl) (Or.inl rfl) (Or.inl rfl)) (DL.wgs_cons (DL.wg_name 5 hN (rfl) (Or.inl rfl) (Or.inl rfl)) (DL.wgs_nil) (rfl)) (rfl)) (rfl) (rfl) (rfl)) (DL.wss_cons (DL.ws_putK' 1 (DL.we_var 3 rfl (Or.inr (Or.inl rfl)) rfl) (rfl) (DL.wb_of (DL.we_var 5 rfl (Or.inl rfl) rfl)) (rfl) (DL.we_var 4 rfl (Or.inl rfl) rfl) ?_ (DL.room_u hr) (DL.wss_nil2 rfl (DL.Wk.mk (DL.WkO.keep (rfl) (DL.WkO.keep ?_ (DL.WkO.nil))) (DL.WkS.keep (rfl) (DL.WkS.keep (rfl) (DL.WkS.keep (rfl) (DL.WkS.keep (rfl) (DL.WkS.drop (DL.WkS.drop (DL.WkS.drop (DL.WkS.drop (DL.WkS.nil))))))))))) (rfl)))))
    · exact small (by have := gTab_len pre; omega)
    · rw [gTab_app]
  · exact small (by have := ha.l; omega)
  · rw [gTab_get]
    cases optOf (getD' (gTab (enumL 0 b.ls)) (.inl _)) <;> rfl
  · rw [gTab_get]
  · intro pre x post hl
    have hlen := congrArg List.length hl
    rw [enumL_length, List.length_append, List.length_cons] at hlen
    have h1 : (goesOf a b).length ≤ 400 := by unfold goesOf; rw [List.length_map]; exact ha.l
    obtain ⟨i, o⟩ := x
    rcases o with _ | o
    all_goals
      refine (Exists.intro _ (And.intro (DL.wg_tup (DL.wgs_cons (DL.wg_name 4 hN (rfl) (Or.inl rfl) (Or.inl rfl)) (DL.wgs_cons (DL.wg_name 7 hN (rfl) (Or.inl rfl) (Or.inl rfl)) (DL.wgs_nil) (rfl)) (rfl)) (rfl) (rfl) (rfl)) (DL.wss_cons (DL.ws_putLf 2 (DL.we_var 6 rfl (Or.inr (Or.inl rfl)) rfl) (rfl) (DL.wb_of (DL.we_var 7 rfl (Or.inl rfl) rfl)) (rfl) (DL.we_var 4 rfl (Or.inl rfl) rfl) ?_ (DL.wss_nil2 rfl (DL.Wk.mk (DL.WkO.keep (rfl) (DL.WkO.keep (rfl) (DL.WkO.keep ?_ (DL.WkO.nil)))) (DL.WkS.keep (rfl) (DL.WkS.keep (rfl) (DL.WkS.keep (rfl) (DL.WkS.keep (rfl) (DL.WkS.drop (DL.WkS.drop (DL.WkS.keep (rfl) (DL.WkS.drop (DL.WkS.nil))))))))))) (rfl)))))
      · exact small (by omega)
      · rw [List.length_append]; rfl
  · omega
  · have := hb.p.sz; omega
  · exact small (by have := hb.p.sz; simp [rgL]; omega)
  · exact ⟨0, _, rfl, by repeat (first | exact DL.FW.nil | refine DL.FW.keep ?_ | refine DL.FW.any ?_)⟩
end
end DL
/-! V66j: Leading's methods. -/
namespace DL
open PySem PySem.Spec PyProof.Rows L2
inductive ldEditionsR (CL CE : Addr) : List D → D → Prop
  | mk (a b : Ed) : ldEditionsR CL CE [ldD CL CE a b] (.tup [edD CE a, edD CE b])
def ldRows (a b : Ed) : List Rw := rowsOf (enumL 0 (goesOf a b))
inductive ldRowsR (CL CE : Addr) : List D → D → Prop
  | mk (a b : Ed) (ha : OkEd a) : ldRowsR CL CE [ldD CL CE a b] (.lst ((ldRows a b).map rowD))
inductive ldTurnedR (CL CE : Addr) : List D → D → Prop
  | mk (a b : Ed) (ha : OkEd a) (hb : OkEd b) : ldTurnedR CL CE [ldD CL CE a b] (ldD CL CE b a)
inductive ldLenR (CL CE : Addr) : List D → D → Prop
  | mk (a b : Ed) (ha : OkEd a) : ldLenR CL CE [ldD CL CE a b] (.int ((ldRows a b).length : Int))
/-- both editions are the same -/
def sameLd (a b a' b' : Ed) : Bool := sameB a a' && sameB b b'
inductive ldEqR (CL CE : Addr) : List D → D → Prop
  | ld (a b a' b' : Ed) (ha : OkEd a) (hb : OkEd b) (ha' : OkEd a') (hb' : OkEd b') : ldEqR CL CE [ldD CL CE a b, ldD CL CE a' b'] (.bl (sameLd a b a' b'))
  | ed (a b e : Ed) : ldEqR CL CE [ldD CL CE a b, edD CE e] (.bl false)
  | ot (a b : Ed) (d : D) (t : String) (h : d.tag = some t) : ldEqR CL CE [ldD CL CE a b, d] (.bl false)
def tags : List String := ["NoneType", "bool", "int", "str", "list", "tuple", "dict"]
theorem tag_mem {d : D} {t : String} (h : d.tag = some t) : tags.contains t = true := by
  cases d <;> first | (cases h; rfl) | cases h
theorem goes_len (a b : Ed) : (goesOf a b).length = a.ls.length := by unfold goesOf; rw [List.length_map]
theorem scL1 : FnScope ["self"] ["self"] (defScope (ldM 1)) := (⟨rfl, rfl, rfl, by decide +kernel, rfl, by decide +kernel, by decide +kernel⟩)
theorem scL2 : FnScope ["self", "thing"] ["self", "thing"] (defScope (ldM 2)) := (⟨rfl, rfl, rfl, by decide +kernel, rfl, by decide +kernel, by decide +kernel⟩)
theorem scL4 : FnScope ["self"] ["self"] (defScope (ldM 4)) := (⟨rfl, rfl, rfl, by decide +kernel, rfl, by decide +kernel, by decide +kernel⟩)
theorem scL7 : FnScope ["self"] ["self"] (defScope (ldM 7)) := (⟨rfl, rfl, rfl, by decide +kernel, rfl, by decide +kernel, by decide +kernel⟩)
theorem scL14 : FnScope ["self"] ["self"] (defScope (ldM 14)) := (⟨rfl, rfl, rfl, by decide +kernel, rfl, by decide +kernel, by decide +kernel⟩)
section
variable {P : Program} {w : World} {K : PySem.W.Frag} {mg : Str → Option Value} {base : Heap} {f CL C : Addr} {fd : FuncData} (G : G66 mg) (CE : ClsF K C edFlds) (CLf : ClsF K CL ldFlds) (gL : mg "Leading" = some (.ref CL))
include G CE CLf gL
theorem ok_ldLen (F : FD K "__len__" "Leading.__len__" (ldM 1) f fd) (k1 : Kn P w K mg base "rows_of" 1 [] (spR K rowsOfR)) : FnOk P w K mg base CX0 2 f fd ["self"] (spR K (ldLenR CL C)) := by
  have hN := scL1.nd
  refine fn_okR F scL1 (fun ds d h => by cases h <;> rfl) fun cdv A outer s H E hr ds d hR => ?_
  obtain ⟨a, b, ha⟩ := hR
  refine (DL.wss_cons (DL.ws_ret (DL.we_len (DL.wb_of (DL.we_call k1 hr (DL.wa_cons (DL.we_fld (DL.we_var 0 rfl (Or.inl rfl) rfl) (rfl) (CLf.cl) (CLf.na _ (by decide +kernel)) (rfl)) (DL.wa_nil) (rfl)) (DL.rowsOfR.mk _ ?_) (rfl) (rfl) (rfl) (rfl))) (DL.len_l) (G.free _ (by decide +kernel)) (rfl) (rfl)) ?_))
  · rw [goes_len]; have := ha.l; omega
  · rw [List.length_map]; rfl
theorem ok_ldEditions (F : FD K "editions" "Leading.editions" (ldM 4) f fd) : FnOk P w K mg base CX0 1 f fd ["self"] (spR K (ldEditionsR CL C)) := by
  have hN := scL4.nd
  refine fn_okR F scL4 (fun ds d h => by cases h <;> rfl) fun cdv A outer s H E hr ds d hR => ?_
  obtain ⟨a, b⟩ := hR
  exact (DL.wss_cons (DL.ws_ret (DL.we_tup (DL.wa_cons (DL.we_fld (DL.we_var 0 rfl (Or.inl rfl) rfl) (rfl) (CLf.cl) (CLf.na _ (by decide +kernel)) (rfl)) (DL.wa_cons (DL.we_fld (DL.we_var 0 rfl (Or.inl rfl) rfl) (rfl) (CLf.cl) (CLf.na _ (by decide +kernel)) (rfl)) (DL.wa_nil) (rfl)) (rfl)) (Nat.le_of_ble_eq_true rfl)) (rfl)))
theorem ok_ldRows (F : FD K "rows" "Leading.rows" (ldM 7) f fd) (k1 : Kn P w K mg base "rows_of" 1 [] (spR K rowsOfR)) : FnOk P w K mg base CX0 2 f fd ["self"] (spR K (ldRowsR CL C)) := by
  have hN := scL7.nd
  refine fn_okR F scL7 (fun ds d h => by cases h <;> rfl) fun cdv A outer s H E hr ds d hR => ?_
  obtain ⟨a, b, ha⟩ := hR
  refine (DL.wss_cons (DL.ws_ret (DL.we_call k1 hr (DL.wa_cons (DL.we_fld (DL.we_var 0 rfl (Or.inl rfl) rfl) (rfl) (CLf.cl) (CLf.na _ (by decide +kernel)) (rfl)) (DL.wa_nil) (rfl)) (DL.rowsOfR.mk _ ?_) (rfl) (rfl) (rfl) (rfl)) (rfl)))
  rw [goes_len]; have := ha.l; omega
theorem ok_ldTurned (F : FD K "turned" "Leading.turned" (ldM 14) f fd) (k1 : KnC P w K mg base "Leading" CL 2 [] (spI K CL (ldInR CL C))) : FnOk P w K mg base CX0 4 f fd ["self"] (spR K (ldTurnedR CL C)) := by
  have hN := scL14.nd
  refine fn_okR F scL14 (fun ds d h => by cases h <;> rfl) fun cdv A outer s H E hr ds d hR => ?_
  obtain ⟨a, b, ha, hb⟩ := hR
  exact (DL.wss_cons (DL.ws_ret (DL.we_make k1 hr (DL.wa_cons (DL.we_fld (DL.we_var 0 rfl (Or.inl rfl) rfl) (rfl) (CLf.cl) (CLf.na _ (by decide +kernel)) (rfl)) (DL.wa_cons (DL.we_fld (DL.we_var 0 rfl (Or.inl rfl) rfl) (rfl) (CLf.cl) (CLf.na _ (by decide +kernel)) (rfl)) (DL.wa_nil) (rfl)) (rfl)) (by intros; first | rfl | exact DL.RepL.nil | exact DL.RepL.cons DL.Rep.non DL.RepL.nil) (DL.ldInR.mk _ _ hb ha) (rfl) (rfl) (rfl) (rfl)) (rfl)))
theorem ok_ldEq (F : FD K "__eq__" "Leading.__eq__" (ldM 2) f fd) (k1 : KnM P w K mg base C "same" 2 [] (spR K (edSameR C))) (n1 : PySem.W.kitOne K (.ref C) (.ref CL) = some false) (n2 : ∀ t : String, tags.contains t = true → PySem.W.kitOne K (.type t) (.ref CL) = some false) : FnOk P w K mg base CX0 3 f fd ["self", "thing"] (spR K (ldEqR CL C)) := by
  have hN := scL2.nd
  refine fn_okR F scL2 (fun ds d h => by cases h <;> rfl) fun cdv A outer s H E hr ds d hR => ?_
  rcases hR with ⟨a, b, a', b', ha, hb, ha', hb'⟩ | ⟨a, b, e⟩ | ⟨a, b, d, t, h⟩
  · exact (DL.wss_cons (DL.ws_if (DL.wt_not (DL.wt_tru (DL.wb_of (DL.we_isi (DL.wb_of (DL.we_var 1 rfl (Or.inl rfl) rfl)) (DL.wb_of (DL.we_glC (by assumption))) (DL.isi_c (CLf.ty) (CLf.one)) (G.free _ (by decide +kernel)) (rfl) (rfl) (rfl) (rfl))) (DL.tru_bl) (by intros; first | rfl | exact DL.RepL.nil | exact DL.RepL.cons DL.Rep.non DL.RepL.nil))) (fun z => nomatch z) (fun _ => (DL.wss_nil (DL.Wk.refl _) (DL.wss_cons (DL.ws_ret (DL.we_and (DL.we_meth k1 hr (DL.we_fld (DL.we_var 0 rfl (Or.inl rfl) rfl) (rfl) (CLf.cl) (CLf.na _ (by decide +kernel)) (rfl)) (rfl) (DL.wa_cons (DL.we_fld (DL.we_var 1 rfl (Or.inl rfl) rfl) (rfl) (CLf.cl) (CLf.na _ (by decide +kernel)) (rfl)) (DL.wa_nil) (rfl)) (DL.edSameR.mk _ _ ha ha') (rfl) (rfl) (rfl)) (fun _ => (DL.we_one (DL.we_meth k1 hr (DL.we_fld (DL.we_var 0 rfl (Or.inl rfl) rfl) (rfl) (CLf.cl) (CLf.na _ (by decide +kernel)) (rfl)) (rfl) (DL.wa_cons (DL.we_fld (DL.we_var 1 rfl (Or.inl rfl) rfl) (rfl) (CLf.cl) (CLf.na _ (by decide +kernel)) (rfl)) (DL.wa_nil) (rfl)) (DL.edSameR.mk _ _ hb hb') (rfl) (rfl) (rfl))))) (rfl)))))))
  · exact (DL.wss_cons (DL.ws_if (DL.wt_not (DL.wt_tru (DL.wb_of (DL.we_isi (DL.wb_of (DL.we_var 1 rfl (Or.inl rfl) rfl)) (DL.wb_of (DL.we_glC (by assumption))) (DL.isi_c (CE.ty) n1) (G.free _ (by decide +kernel)) (rfl) (rfl) (rfl) (rfl))) (DL.tru_bl) (by intros; first | rfl | exact DL.RepL.nil | exact DL.RepL.cons DL.Rep.non DL.RepL.nil))) (fun _ => (DL.wss_cons (DL.ws_ret (DL.we_bl) (rfl)))) (fun z => nomatch z)))
  · have hk := n2 t (tag_mem h)
    exact (DL.wss_cons (DL.ws_if (DL.wt_not (DL.wt_tru (DL.wb_of (DL.we_isi (DL.wb_of (DL.we_var 1 rfl (Or.inl rfl) rfl)) (DL.wb_of (DL.we_glC (by assumption))) (DL.isi_n (h) hk) (G.free _ (by decide +kernel)) (rfl) (rfl) (rfl) (rfl))) (DL.tru_bl) (by intros; first | rfl | exact DL.RepL.nil | exact DL.RepL.cons DL.Rep.non DL.RepL.nil))) (fun _ => (DL.wss_cons (DL.ws_ret (DL.we_bl) (rfl)))) (fun z => nomatch z)))
end
end DL
/-! V66k: Leading as a text. -/
namespace DL
open PySem PySem.Spec PyProof.Rows L2
theorem optOf_int {d : Option D} {i : Int} (h : optOf d = some i) : d = some (.int i) := by
  cases d with
  | none => cases h
  | some d => cases d <;> cases h <;> rfl
/-- where parts go: numbers of the other -/
theorem goes_rng (a b : Ed) (i : Int) (h : some i ∈ goesOf a b) : 0 ≤ i ∧ i < (b.ls.length : Int) := by
  unfold goesOf at h
  obtain ⟨l, _, e⟩ := List.mem_map.mp h
  obtain ⟨q, hq, e2⟩ := getD_mem (optOf_int e)
  obtain ⟨r, hr, e3⟩ := gTab_ints _ q hq
  have e4 : (D.int r.1) = .int i := by rw [← e3, e2]
  cases e4
  obtain ⟨j, hj⟩ := List.mem_iff_getElem?.mp hr
  rw [enumL_get] at hj
  cases hb : b.ls[j]? with
  | none => rw [hb] at hj; cases hj
  | some x =>
    rw [hb] at hj
    cases hj
    have := (List.getElem?_eq_some_iff.mp hb).1
    simp; omega
/-- a row's numbers -/
def rowOk (n m : Int) (r : Rw) : Prop := 0 ≤ r.f ∧ r.f < n ∧ 1 ≤ r.m ∧ r.m ≤ n ∧ ∀ i, r.s = some i → 0 ≤ i ∧ i < m
theorem rowStep_ok {n m : Int} {acc : List Rw} {x : Int × Option Int} (h : ∀ r ∈ acc, rowOk n m r) (hm : ∀ r ∈ acc, r.f + r.m ≤ x.1) (h1 : 0 ≤ x.1 ∧ x.1 < n) (h2 : ∀ i, x.2 = some i → 0 ≤ i ∧ i < m) :
    (∀ r ∈ rowStep acc x, rowOk n m r) ∧ ∀ r ∈ rowStep acc x, r.f + r.m ≤ x.1 + 1 := by
  have new : rowOk n m ⟨x.1, x.2, 1⟩ := ⟨h1.1, h1.2, Int.le_refl _, by show (1 : Int) ≤ n; omega, h2⟩
  rcases List.eq_nil_or_concat acc with e | ⟨init, q, e⟩
  · subst e
    have e : rowStep [] x = [⟨x.1, x.2, 1⟩] := rfl
    rw [e]
    constructor
    · intro r hr
      simp at hr
      subst hr
      exact new
    · intro r hr
      simp at hr
      subst hr
      show x.1 + 1 ≤ x.1 + 1
      omega
  · rw [List.concat_eq_append] at e
    subst e
    rw [rowStep_last]
    have hq := h q (by simp)
    have hqm := hm q (by simp)
    split
    · constructor
      · intro r hr
        rcases List.mem_append.mp hr with z | z
        · exact h r (by simp [z])
        · simp at z
          subst z
          exact ⟨hq.1, hq.2.1, by show (1 : Int) ≤ q.m + 1; have := hq.2.2.1; omega, by show q.m + 1 ≤ n; have := hq.1; omega, hq.2.2.2.2⟩
      · intro r hr
        rcases List.mem_append.mp hr with z | z
        · have := hm r (by simp [z]); omega
        · simp at z
          subst z
          show q.f + (q.m + 1) ≤ x.1 + 1
          omega
    · constructor
      · intro r hr
        rcases List.mem_append.mp hr with z | z
        · exact h r z
        · simp at z
          subst z
          exact new
      · intro r hr
        rcases List.mem_append.mp hr with z | z
        · have := hm r z; omega
        · simp at z
          subst z
          show x.1 + 1 ≤ x.1 + 1
          omega
theorem rows_ok {m : Int} (l : List (Option Int)) (h2 : ∀ i, some i ∈ l → 0 ≤ i ∧ i < m) : ∀ r ∈ rowsOf (enumL 0 l), rowOk l.length m r := by
  have key : ∀ (l : List (Option Int)) (n : Int), (l.length : Int) ≤ n → (∀ i, some i ∈ l → 0 ≤ i ∧ i < m) → (∀ r ∈ rowsOf (enumL 0 l), rowOk n m r) ∧ ∀ r ∈ rowsOf (enumL 0 l), r.f + r.m ≤ (l.length : Int) := by
    refine rev_ind (fun n _ _ => ⟨fun r hr => (by cases hr), fun r hr => (by cases hr)⟩) (fun l x ih n hn hx => ?_)
    rw [List.length_append, List.length_singleton] at hn ⊢
    obtain ⟨i1, i2⟩ := ih n (by omega) (fun i hi => hx i (by simp [hi]))
    have e : rowsOf (enumL 0 (l ++ [x])) = rowStep (rowsOf (enumL 0 l)) ((l.length : Int), x) := by
      rw [enumL_append, ← rows_app]
      simp [enumL]
    rw [e]
    obtain ⟨j1, j2⟩ := rowStep_ok (x := ((l.length : Int), x)) i1 i2 ⟨by simp, by simp; omega⟩ (fun i hi => hx i (by simp at hi; simp [hi]))
    refine ⟨j1, fun r hr => ?_⟩
    have := j2 r hr
    simp at this ⊢
    omega
  exact (key l _ (Int.le_refl _) h2).1
def rowT (r : Rw) : Str := [shownT (some r.f) r.m, Str.ofString ">", shownT r.s r.m].foldl (· ++ ·) Str.empty
def ldStr (a b : Ed) : Str := Txt.join " " ((ldRows a b).map rowT)

theorem rowT_len {r : Rw} (h : rowOk 400 400 r) : (rowT r).length ≤ 31 := by
  have a1 := shownT_len (some r.f) r.m (fun i e => by cases e; have := h.1; have := h.2.1; omega) (by have := h.2.2.1; have := h.2.2.2.1; omega)
  have a2 := shownT_len r.s r.m (fun i e => by have := h.2.2.2.2 i e; omega) (by have := h.2.2.1; have := h.2.2.2.1; omega)
  show ((Str.empty ++ shownT (some r.f) r.m ++ Str.ofString ">") ++ shownT r.s r.m).length ≤ 31
  rw [str_app_len, str_app_len, str_app_len]
  have e0 : Str.empty.length = 0 := rfl
  have e1 : (Str.ofString ">").length = 1 := rfl
  omega
inductive ldStrR (CL CE : Addr) : List D → D → Prop
  | mk (a b : Ed) (ha : OkEd a) (hb : OkEd b) : ldStrR CL CE [ldD CL CE a b] (.str (ldStr a b))
theorem ldRows_ok (a b : Ed) (ha : OkEd a) (hb : OkEd b) : ∀ r ∈ ldRows a b, rowOk 400 400 r := by
  intro r hr
  have := rows_ok (m := (b.ls.length : Int)) (goesOf a b) (goes_rng a b) r hr
  have h1 := ha.l
  have h2 := hb.l
  rw [goes_len] at this
  exact ⟨this.1, by have := this.2.1; omega, this.2.2.1, by have := this.2.2.2.1; omega, fun i hi => by have := this.2.2.2.2 i hi; omega⟩
theorem ldRows_len (a b : Ed) (ha : OkEd a) : (ldRows a b).length ≤ 400 := by
  have h1 := rows_len (enumL 0 (goesOf a b))
  rw [enumL_length, goes_len] at h1
  have := ha.l
  unfold ldRows
  omega
theorem sum_le {l : List Nat} {k : Nat} (h : ∀ x ∈ l, x ≤ k) : l.sum ≤ l.length * k := by
  induction l with
  | nil => simp
  | cons x l ih =>
    have h1 := h x (by simp)
    have h2 := ih fun y hy => h y (by simp [hy])
    rw [List.sum_cons, List.length_cons, Nat.add_mul]
    omega
theorem scL3 : FnScope ["self", "rows", "shown", "row"] ["self"] (defScope (ldM 3)) := (⟨rfl, rfl, rfl, by decide +kernel, rfl, by decide +kernel, by decide +kernel⟩)
section
variable {P : Program} {w : World} {K : PySem.W.Frag} {mg : Str → Option Value} {base : Heap} {f CL C : Addr} {fd : FuncData} (G : G66 mg) (CE : ClsF K C edFlds) (CLf : ClsF K CL ldFlds) (gL : mg "Leading" = some (.ref CL))
include G CE CLf gL
theorem ok_ldStr (F : FD K "__str__" "Leading.__str__" (ldM 3) f fd) (k1 : Kn P w K mg base "rows_of" 1 [] (spR K rowsOfR)) (k2 : Kn P w K mg base "shown_stretch" 1 [] (spR K shownR)) : FnOk P w K mg base CX0 2 f fd ["self"] (spR K (ldStrR CL C)) := by
  have hN := scL3.nd
  refine fn_okR F scL3 (fun ds d h => by cases h <;> rfl) fun cdv A outer s H E hr ds d hR => ?_
  obtain ⟨a, b, ha, hb⟩ := hR
  have hok := ldRows_ok a b ha hb
  have hlen := ldRows_len a b ha
  refine (DL.wss_cons (DL.ws_asg (DL.we_call k1 hr (DL.wa_cons (DL.we_fld (DL.we_var 0 rfl (Or.inl rfl) rfl) (rfl) (CLf.cl) (CLf.na _ (by decide +kernel)) (rfl)) (DL.wa_nil) (rfl)) (DL.rowsOfR.mk _ ?_) (rfl) (rfl) (rfl) (rfl)) (DL.wg_name 1 hN (rfl) (Or.inl rfl) (Or.inl rfl)) (DL.wss_cons (ws_lcS 2 (ldRows a b) rowD rowT D.str [("row", 3)] (DL.wio_wi (DL.wi_list (DL.we_var 1 rfl (Or.inl rfl) rfl))) ?_ (rfl) (fun _ _ => (DL.elt_mk _ (fun _ _ _ _ _ => (DL.wg_name 3 hN (rfl) (Or.inl rfl) (Or.inr rfl))) (rfl) (fun _ _ _ _ _ => (DL.we_joined (DL.wj_cons (DL.we_fmtS (DL.we_call k2 hr (DL.wa_cons (DL.we_sub' (DL.we_var 3 rfl (Or.inl rfl) rfl) (DL.wb_of (DL.we_int)) (DL.sub_t (rfl)) (fun _ _ => rfl)) (DL.wa_cons (DL.we_sub' (DL.we_var 3 rfl (Or.inl rfl) rfl) (DL.wb_of (DL.we_int)) (DL.sub_t (rfl)) (fun _ _ => rfl)) (DL.wa_nil) (rfl)) (rfl)) ?_ (rfl) (rfl) (rfl) (rfl)) ?_) (DL.wj_cons (DL.we_str) (DL.wj_cons (DL.we_fmtS (DL.we_call k2 hr (DL.wa_cons (DL.we_sub' (DL.we_var 3 rfl (Or.inl rfl) rfl) (DL.wb_of (DL.we_int)) (DL.sub_t (rfl)) (fun _ _ => rfl)) (DL.wa_cons (DL.we_sub' (DL.we_var 3 rfl (Or.inl rfl) rfl) (DL.wb_of (DL.we_int)) (DL.sub_t (rfl)) (fun _ _ => rfl)) (DL.wa_nil) (rfl)) (rfl)) (DL.shownR.mk _ _ ?_ ?_) (rfl) (rfl) (rfl) (rfl)) ?_) (DL.wj_nil)))) ?_)) (rfl))) (DL.wss_cons (DL.ws_ret (DL.we_join (DL.wb_of (DL.we_str)) (DL.wb_of (DL.we_var 2 rfl (Or.inl rfl) rfl)) ?_ (rfl) (rfl) (rfl)) (rfl))) hN (rfl) (rfl) (rfl))) (rfl) (rfl) (rfl)))
  · rw [goes_len]; have := ha.l; omega
  · exact small (by omega)
  · rename_i r hr _ _ _ _ _
    have h1 := hok r hr
    exact shownR.mk (some r.f) r.m (fun i e => by cases e; have := h1.1; have := h1.2.1; omega) (by have := h1.2.2.1; have := h1.2.2.2.1; omega)
  · rename_i r hr _ _ _ _ _
    have h1 := hok r hr
    exact smallE (Nat.le_trans (shownT_len (some r.f) r.m (fun i e => by cases e; have := h1.1; have := h1.2.1; omega) (by have := h1.2.2.1; have := h1.2.2.2.1; omega)) (by decide))
  · rename_i r hr _ _ _ _ _
    have h1 := hok r hr
    exact fun i e => by have := h1.2.2.2.2 i e; omega
  · rename_i r hr _ _ _ _ _
    have h1 := hok r hr
    have := h1.2.2.1; have := h1.2.2.2.1; omega
  · rename_i r hr _ _ _ _ _
    have h1 := hok r hr
    exact smallE (Nat.le_trans (shownT_len r.s r.m (fun i e => by have := h1.2.2.2.2 i e; omega) (by have := h1.2.2.1; have := h1.2.2.2.1; omega)) (by decide))
  · rename_i r hr _ _ _ _ _
    have h1 := hok r hr
    have a1 := shownT_len (some r.f) r.m (fun i e => by cases e; have := h1.1; have := h1.2.1; omega) (by have := h1.2.2.1; have := h1.2.2.2.1; omega)
    have a2 := shownT_len r.s r.m (fun i e => by have := h1.2.2.2.2 i e; omega) (by have := h1.2.2.1; have := h1.2.2.2.1; omega)
    have e1 : (Str.ofString ">").length = 1 := rfl
    simp only [List.map_cons, List.map_nil, List.sum_cons, List.sum_nil]
    rw [sizeLine_eq]
    omega
  · have h1 : ((ldRows a b).map rowT |>.map (·.length)).sum ≤ ((ldRows a b).map rowT |>.map (·.length)).length * 31 := sum_le fun x hx => by
      rw [List.map_map] at hx
      obtain ⟨r, hr, rfl⟩ := List.mem_map.mp hx
      exact rowT_len (hok r hr)
    rw [List.length_map, List.length_map] at h1
    have e1 : (Str.ofString " ").length = 1 := rfl
    rw [List.length_map, e1]
    omega
end
end DL
/-! V66l: the law's defs: cells, rows. -/
namespace DL
open PySem PySem.Spec PyProof.Rows L2
def cellAt (l : List Int) (k : Int) : Int := if k < (l.length : Int) then (atI l k).getD 0 else 0
inductive cellAtR : List D → D → Prop
  | mk (l : List Int) (k : Int) (h : 0 ≤ k) : cellAtR [.lst (l.map D.int), .int k] (.int (cellAt l k))
theorem atI_nn {α : Type} {l : List α} {k : Int} (h : 0 ≤ k) (hk : k < (l.length : Int)) : atI l k = some (l[k.toNat]'(by omega)) := by
  have e : ixN l.length k = some k.toNat := by
    unfold ixN
    rw [if_pos h, if_pos hk]
  unfold atI
  rw [e]
  exact List.getElem?_eq_getElem _
theorem atI_map {l : List Int} {k : Int} (h : 0 ≤ k) (hk : k < (l.length : Int)) : atI (l.map D.int) k = some (.int ((atI l k).getD 0)) := by
  rw [atI_nn h hk, atI_nn h (by rw [List.length_map]; exact hk)]
  simp
theorem sc59 : FnScope ["script", "k"] ["script", "k"] (defScope (top 59)) := (⟨rfl, rfl, rfl, by decide +kernel, rfl, by decide +kernel, by decide +kernel⟩)
def mix (cell salt k : Int) : Int := (cell % 2147483629 + 1) * (salt + 48271 * k) + 69621 * k + salt
def mix2 (cell salt k : Int) : Int := (mix cell salt k % 2147483647) ^ 5 % 2147483647
def rowStp (cell salt : Int) (st : List Int × Int) (k : Int) : List Int × Int :=
  if st.2 > 0 then (st.1 ++ [st.2 % 1000003], st.2 / 1000003) else (st.1 ++ [(mix2 cell salt k + k) ^ 5 % 2147483629 / 16], st.2)
def rest0 (cell : Int) : Int := if (if cell < 0 then -cell else cell) ≥ 10 ^ 18 then (if cell < 0 then -cell else cell) else 0
def rowFold (cell salt : Int) (ks : List Int) : List Int × Int := ks.foldl (rowStp cell salt) ([], rest0 cell)
@[irreducible] def rowOf (cell many salt : Int) : List Int := (rowFold cell salt (rgL 0 many)).1
theorem rowFold_app (cell salt : Int) (ks : List Int) (k : Int) : rowFold cell salt (ks ++ [k]) = rowStp cell salt (rowFold cell salt ks) k := by simp [rowFold]
inductive rowR : List D → D → Prop
  | mk (cell many salt : Int) (h1 : 0 ≤ many ∧ many ≤ 100) (h2 : 0 ≤ salt ∧ salt ≤ 100) : rowR [.int cell, .int many, .int salt] (.lst ((rowOf cell many salt).map D.int))
theorem rgL_mem {i j x : Int} {pre post : List Int} (h : rgL i j = pre ++ x :: post) : i ≤ x ∧ x < j := by
  have hx : x ∈ rgL i j := by rw [h]; simp
  unfold rgL at hx
  obtain ⟨k, hk, e⟩ := List.mem_map.mp hx
  rw [List.mem_range] at hk
  omega
theorem rowFold_len (cell salt : Int) : ∀ ks : List Int, (rowFold cell salt ks).1.length = ks.length := by
  refine rev_ind rfl (fun ks k ih => ?_)
  rw [rowFold_app]
  unfold rowStp
  split <;> simp [ih]
theorem sc60 : FnScope ["cell", "many", "salt", "row", "rest", "k", "mixed"] ["cell", "many", "salt"] (defScope (top 60)) := (⟨rfl, rfl, rfl, by decide +kernel, rfl, by decide +kernel, by decide +kernel⟩)
section
variable {P : Program} {w : World} {K : PySem.W.Frag} {mg : Str → Option Value} {base : Heap} {f CL C : Addr} {fd : FuncData} (G : G66 mg)
include G
theorem ok_cellAt (F : FD K "_law_cell_at" "_law_cell_at" (top 59) f fd) : FnOk P w K mg base CX0 1 f fd ["script", "k"] (spR K cellAtR) := by
  have hN := sc59.nd
  refine fn_okR F sc59 (fun ds d h => by cases h <;> rfl) fun cdv A outer s H E hr ds d hR => ?_
  obtain ⟨l, k, h⟩ := hR
  refine (DL.wss_cons (DL.ws_if (DL.wt_cmp (DL.wb_of (DL.we_var 1 rfl (Or.inl rfl) rfl)) (DL.wb_of (DL.we_len (DL.wb_of (DL.we_var 0 rfl (Or.inl rfl) rfl)) (DL.len_l) (G.free _ (by decide +kernel)) (rfl) (rfl))) (DL.cmp_lt) (rfl)) (fun _ => ?_) (fun _ => ?_)))
  · rename_i hc
    have hk : k < (l.length : Int) := by simpa using hc
    refine (DL.wss_cons (DL.ws_ret (DL.we_sub' (DL.we_var 0 rfl (Or.inl rfl) rfl) (DL.wb_of (DL.we_var 1 rfl (Or.inl rfl) rfl)) (DL.sub_l ?_) (fun _ _ => rfl)) (rfl)))
    unfold cellAt
    rw [if_pos hk]
    exact atI_map h hk
  · rename_i hc
    have hk : ¬ k < (l.length : Int) := by simpa using hc
    refine (DL.wss_nil (DL.Wk.refl _) (DL.wss_cons (DL.ws_ret (DL.we_int) ?_)))
    unfold cellAt
    rw [if_neg hk]
theorem ok_row (F : FD K "_law_row" "_law_row" (top 60) f fd) : FnOk P w K mg base CX0 1 f fd ["cell", "many", "salt"] (spR K rowR) := by
  have hN := sc60.nd
  refine fn_okR F sc60 (fun ds d h => by cases h <;> rfl) fun cdv A outer s H E hr ds d hR => ?_
  obtain ⟨cell, many, salt, h1, h2⟩ := hR
  refine (DL.wss_cons (DL.ws_asgN 3 (DL.wn_lst (DL.wa_nil) (by decide +kernel)) (fun p0 => (DL.wss_cons (DL.ws_asg (DL.we_int) (DL.wg_name 4 hN (rfl) (Or.inl rfl) (Or.inl rfl)) (DL.wss_cons (ws_ifJ ⟨[⟨p0, true, .lst []⟩], [some (.int cell), some (.int many), some (.int salt), some (.ref p0), some (.int (rest0 cell)), none, none]⟩ (DL.wt_cmp (DL.wb_of (DL.we_abs (DL.wb_of (DL.we_var 0 rfl (Or.inl rfl) rfl)) (G.free _ (by decide +kernel)) (rfl) (rfl))) (DL.wb_of (DL.we_bin (DL.wb_of (DL.we_int)) (DL.wb_of (DL.we_int)) (DL.bin_pow (⟨by decide, by decide, by decide⟩)))) (DL.cmp_ge) (rfl)) (fun _ => (DL.wss_cons (DL.ws_asg (DL.we_abs (DL.wb_of (DL.we_var 0 rfl (Or.inl rfl) rfl)) (G.free _ (by decide +kernel)) (rfl) (rfl)) (DL.wg_name 4 hN (rfl) (Or.inl rfl) (Or.inl rfl)) (DL.wss_nil2 rfl (DL.Wk.mk (DL.WkO.keep (rfl) (DL.WkO.nil)) (DL.WkS.keep (rfl) (DL.WkS.keep (rfl) (DL.WkS.keep (rfl) (DL.WkS.keep (rfl) (DL.WkS.keep ?_ (DL.WkS.drop (DL.WkS.drop (DL.WkS.nil)))))))))) (rfl) (rfl) (rfl)))) (fun _ => (DL.wss_nil2 rfl (DL.Wk.mk (DL.WkO.keep (rfl) (DL.WkO.nil)) (DL.WkS.keep (rfl) (DL.WkS.keep (rfl) (DL.WkS.keep (rfl) (DL.WkS.keep (rfl) (DL.WkS.keep ?_ (DL.WkS.drop (DL.WkS.drop (DL.WkS.nil))))))))))) (DL.wss_cons (ws_for (l := rgL 0 many) (enc := D.int) (fun pre => ⟨[⟨p0, true, .lst ((rowFold cell salt pre).1.map D.int)⟩], [some (.int cell), some (.int many), some (.int salt), some (.ref p0), some (.int (rowFold cell salt pre).2), none, none]⟩) (DL.wi_rg1 (DL.wb_of (DL.we_var 1 rfl (Or.inl rfl) rfl)) (by omega) (by omega) (G.free _ (by decide +kernel)) (rfl) (rfl)) (DL.Wk.mk (DL.WkO.keep (rfl) (DL.WkO.nil)) (DL.WkS.keep (rfl) (DL.WkS.keep (rfl) (DL.WkS.keep (rfl) (DL.WkS.keep (rfl) (DL.WkS.keep (rfl) (DL.WkS.drop (DL.WkS.drop (DL.WkS.nil))))))))) ?_ (DL.wss_cons (DL.ws_retF 0 (DL.we_var 3 rfl (Or.inl rfl) rfl) (rfl) ?_)))))) (rfl) (rfl) (rfl)))) hN (rfl) (Or.inl rfl) (rfl) (Or.inl rfl)))
  · rename_i hc
    have hc : (10 : Int) ^ 18 ≤ (if cell < 0 then -cell else cell) := of_decide_eq_true hc
    unfold rest0
    rw [if_pos hc]
  · rename_i hc
    have hc : ¬ (10 : Int) ^ 18 ≤ (if cell < 0 then -cell else cell) := of_decide_eq_false hc
    unfold rest0
    rw [if_neg hc]
  · intro pre k post hl
    have hk := rgL_mem hl
    have hpre : pre.length ≤ 100 := by
      have := congrArg List.length hl
      simp [rgL] at this
      omega
    have hlen := rowFold_len cell salt pre
    refine (Exists.intro _ (And.intro (DL.wg_name 5 hN (rfl) (Or.inl rfl) (Or.inl rfl)) (DL.wss_cons (DL.ws_if (DL.wt_cmp (DL.wb_of (DL.we_var 4 rfl (Or.inl rfl) rfl)) (DL.wb_of (DL.we_int)) (DL.cmp_gt) (rfl)) (fun _ => ?_) (fun _ => ?_)))))
    · rename_i hc
      have hc : 0 < (rowFold cell salt pre).2 := of_decide_eq_true hc
      refine (DL.wss_cons (DL.ws_append 0 (DL.we_var 3 rfl (Or.inl rfl) rfl) (rfl) (DL.we_bin (DL.wb_of (DL.we_var 4 rfl (Or.inl rfl) rfl)) (DL.wb_of (DL.we_int)) (DL.bin_mod (by decide +kernel))) (DL.small (by simp only [List.length_map]; omega)) (DL.wss_cons (DL.ws_asg (DL.we_bin (DL.wb_of (DL.we_var 4 rfl (Or.inl rfl) rfl)) (DL.wb_of (DL.we_int)) (DL.bin_fdiv (⟨by decide, by decide⟩))) (DL.wg_name 4 hN (rfl) (Or.inl rfl) (Or.inl rfl)) (DL.wss_nil (DL.Wk.refl _) (DL.wss_nil2 rfl (DL.Wk.mk (DL.WkO.keep ?_ (DL.WkO.nil)) (DL.WkS.keep (rfl) (DL.WkS.keep (rfl) (DL.WkS.keep (rfl) (DL.WkS.keep (rfl) (DL.WkS.keep ?_ (DL.WkS.drop (DL.WkS.drop (DL.WkS.nil))))))))))) (rfl) (rfl) (rfl))) (rfl) (rfl) (rfl) (rfl) (rfl)))
      · rw [rowFold_app]; unfold rowStp; rw [if_pos hc, List.map_append]; rfl
      · rw [rowFold_app]; unfold rowStp; rw [if_pos hc]
    · rename_i hc
      have hc : ¬ 0 < (rowFold cell salt pre).2 := of_decide_eq_false hc
      have b1 : 0 ≤ mix2 cell salt k ∧ mix2 cell salt k < 2147483647 := ⟨Int.emod_nonneg _ (by decide), Int.emod_lt_of_pos _ (by decide)⟩
      have e1 : (((cell % 2147483629 + 1) * (salt + 48271 * k) + 69621 * k + salt) % 2147483647) ^ Int.toNat 5 % 2147483647 = mix2 cell salt k := rfl
      refine (DL.wss_cons (DL.ws_asg (DL.we_bin (DL.wb_of (DL.we_bin (DL.wb_of (DL.we_bin (DL.wb_of (DL.we_bin (DL.wb_of (DL.we_bin (DL.wb_of (DL.we_var 0 rfl (Or.inl rfl) rfl)) (DL.wb_of (DL.we_int)) (DL.bin_mod (by decide +kernel)))) (DL.wb_of (DL.we_int)) (DL.bin_add))) (DL.wb_of (DL.we_bin (DL.wb_of (DL.we_var 2 rfl (Or.inl rfl) rfl)) (DL.wb_of (DL.we_bin (DL.wb_of (DL.we_int)) (DL.wb_of (DL.we_var 5 rfl (Or.inl rfl) rfl)) (DL.bin_mul (Or.inl ⟨by omega, by omega⟩)))) (DL.bin_add))) (DL.bin_mul (Or.inl ⟨by omega, by omega⟩)))) (DL.wb_of (DL.we_bin (DL.wb_of (DL.we_int)) (DL.wb_of (DL.we_var 5 rfl (Or.inl rfl) rfl)) (DL.bin_mul (Or.inl ⟨by omega, by omega⟩)))) (DL.bin_add))) (DL.wb_of (DL.we_var 2 rfl (Or.inl rfl) rfl)) (DL.bin_add)) (DL.wg_name 6 hN (rfl) (Or.inl rfl) (Or.inl rfl)) (DL.wss_cons (DL.ws_asg (DL.we_bin (DL.wb_of (DL.we_bin (DL.wb_of (DL.we_bin (DL.wb_of (DL.we_var 6 rfl (Or.inl rfl) rfl)) (DL.wb_of (DL.we_int)) (DL.bin_mod (by decide +kernel)))) (DL.wb_of (DL.we_int)) (DL.bin_pow (⟨by decide, by decide, by omega⟩)))) (DL.wb_of (DL.we_int)) (DL.bin_mod (by decide +kernel))) (DL.wg_name 6 hN (rfl) (Or.inl rfl) (Or.inl rfl)) (DL.wss_cons (DL.ws_append 0 (DL.we_var 3 rfl (Or.inl rfl) rfl) (rfl) (DL.we_bin (DL.wb_of (DL.we_bin (DL.wb_of (DL.we_bin (DL.wb_of (DL.we_bin (DL.wb_of (DL.we_var 6 rfl (Or.inl rfl) rfl)) (DL.wb_of (DL.we_var 5 rfl (Or.inl rfl) rfl)) (DL.bin_add))) (DL.wb_of (DL.we_int)) (DL.bin_pow (⟨by decide, by decide, by omega⟩)))) (DL.wb_of (DL.we_int)) (DL.bin_mod (by decide +kernel)))) (DL.wb_of (DL.we_int)) (DL.bin_fdiv (⟨by decide, by decide⟩))) (DL.small (by simp only [List.length_map]; omega)) (DL.wss_nil (DL.Wk.refl _) (DL.wss_nil2 rfl (DL.Wk.mk (DL.WkO.keep ?_ (DL.WkO.nil)) (DL.WkS.keep (rfl) (DL.WkS.keep (rfl) (DL.WkS.keep (rfl) (DL.WkS.keep (rfl) (DL.WkS.keep ?_ (DL.WkS.drop (DL.WkS.drop (DL.WkS.nil))))))))))) (rfl) (rfl) (rfl) (rfl) (rfl))) (rfl) (rfl) (rfl))) (rfl) (rfl) (rfl)))
      · rw [rowFold_app]; unfold rowStp; rw [if_neg hc, List.map_append]; rfl
      · rw [rowFold_app]; unfold rowStp; rw [if_neg hc]
  · rw [rowOf]
end
end DL
/-! V66m: the law's defs: copies, spots, editions. -/
namespace DL
open PySem PySem.Spec PyProof.Rows L2
structure Few (bs : List Bk) : Prop where
  n : bs.length ≤ 100
  c : ∀ b ∈ bs, b.2.length ≤ 100
  v : ∀ b ∈ bs, ∀ c ∈ b.2, c.length ≤ 100
inductive copyR : List D → D → Prop
  | mk (bs : List Bk) (h : Few bs) : copyR [.lst (bs.map bkL)] (.lst (bs.map bkL))
theorem sc63 : FnScope ["books", "name", "chapters", "chapter"] ["books"] (defScope (top 63)) := (⟨rfl, rfl, rfl, by decide +kernel, rfl, by decide +kernel, by decide +kernel⟩)
def vsPl0 (n : Str) (c : Int) (q : Int × Int) : List Pl := (rgL 0 q.2).map fun p => ⟨n, c + 1, q.1 + 1, p + 1⟩
def chPl0 (n : Str) (q : Int × List Int) : List Pl := (enumL 0 q.2).flatMap (vsPl0 n q.1)
theorem enum_shift {α β : Type} (f : Int × α → List β) : ∀ (l : List α) (k : Int), (enumL k l).flatMap (fun q => f (q.1 + 1, q.2)) = (enumL (k + 1) l).flatMap f
  | [], _ => rfl
  | x :: r, k => by rw [enumL, enumL, List.flatMap_cons, List.flatMap_cons, enum_shift f r (k + 1)]
theorem vsPl0_eq (n : Str) (c : Int) (q : Int × Int) : vsPl0 n c q = vsPl n (c + 1) (q.1 + 1, q.2) := by
  unfold vsPl0 vsPl rgL
  rw [List.map_map, List.map_map]
  have e : (q.2 - 0).toNat = (q.2 + 1 - 1).toNat := by congr 1; omega
  rw [e]
  refine List.map_congr_left fun p _ => ?_
  show Pl.mk n (c + 1) (q.1 + 1) (0 + (p : Int) + 1) = Pl.mk n (c + 1) (q.1 + 1) (1 + (p : Int))
  congr 1
  omega
theorem chPl0_eq (n : Str) (q : Int × List Int) : chPl0 n q = chPl n (q.1 + 1, q.2) := by
  unfold chPl0 chPl
  have e : vsPl0 n q.1 = fun r => vsPl n (q.1 + 1) (r.1 + 1, r.2) := funext fun r => vsPl0_eq n q.1 r
  rw [e]
  exact enum_shift (vsPl n (q.1 + 1)) q.2 0
theorem bkPl0 (b : Bk) : bkPl b = (enumL 0 b.2).flatMap (chPl0 b.1) := by
  unfold bkPl
  have e : chPl0 b.1 = fun r => chPl b.1 (r.1 + 1, r.2) := funext fun r => chPl0_eq b.1 r
  rw [e]
  exact (enum_shift (chPl b.1) b.2 0).symm
inductive spotsR : List D → D → Prop
  | mk (bs : List Bk) (h : Few bs) (hp : OkPlaces bs) : spotsR [.lst (bs.map bkL)] (.lst ((allPl bs).map plD))
theorem sc64 : FnScope ["books", "spots", "name", "chapters", "c", "v", "p"] ["books"] (defScope (top 64)) := (⟨rfl, rfl, rfl, by decide +kernel, rfl, by decide +kernel, by decide +kernel⟩)
section
variable {P : Program} {w : World} {K : PySem.W.Frag} {mg : Str → Option Value} {base : Heap} {f CL C : Addr} {fd : FuncData} (G : G66 mg)
include G
theorem ok_copy (F : FD K "_law_copy" "_law_copy" (top 63) f fd) : FnOk P w K mg base CX0 1 f fd ["books"] (spR K copyR) := by
  have hN := sc63.nd
  refine fn_okR F sc63 (fun ds d h => by cases h <;> rfl) fun cdv A outer s H E hr ds d hR => ?_
  obtain ⟨bs, h1, h2, h3⟩ := hR
  refine (DL.wss_cons (DL.ws_ret (DL.we_wn (wn_lc (l := bs) (enc := bkL) (f := bkL) (own := [("name", 1), ("chapters", 2)]) (DL.wio_wi (DL.wi_list (DL.we_var 0 rfl (Or.inl rfl) rfl))) (DL.small (by omega)) (rfl) (fun _ _ => (DL.elt_mk _ (fun _ _ _ _ _ => (DL.wg_tup (DL.wgs_cons (DL.wg_name 1 hN (rfl) (Or.inl rfl) (Or.inr rfl)) (DL.wgs_cons (DL.wg_name 2 hN (rfl) (Or.inl rfl) (Or.inr rfl)) (DL.wgs_nil) (rfl)) (rfl)) (rfl) (rfl) (rfl))) (rfl) (fun _ _ _ _ _ => (DL.we_tup (DL.wa_cons (DL.we_var 1 rfl (Or.inl rfl) rfl) (DL.wa_cons (DL.we_wn ?_) (DL.wa_nil) (rfl)) (rfl)) (Nat.le_of_ble_eq_true rfl))) (rfl))) hN)) (rfl)))
  rename_i b hb _ _ _ _ _
  have hb1 := h2 b hb
  exact (wn_lc (l := b.2) (enc := chL) (f := chL) (own := [("chapter", 3)]) (DL.wio_wi (DL.wi_list (DL.we_var 2 rfl (Or.inl rfl) rfl))) (DL.small (by omega)) (rfl) (fun _ _ => (DL.elt_mk _ (fun _ _ _ _ _ => (DL.wg_name 3 hN (rfl) (Or.inl rfl) (Or.inr rfl))) (rfl) (fun _ _ _ _ _ => (DL.we_wn (DL.wn_list (DL.we_var 3 rfl (Or.inl rfl) rfl) (DL.lst_l) (G.free _ (by decide +kernel)) (rfl) (rfl)))) (rfl))) hN)
theorem ok_spots (F : FD K "_law_spots" "_law_spots" (top 64) f fd) : FnOk P w K mg base CX0 1 f fd ["books"] (spR K spotsR) := by
  have hN := sc64.nd
  refine fn_okR F sc64 (fun ds d h => by cases h <;> rfl) fun cdv A outer s H E hr ds d hR => ?_
  obtain ⟨bs, h, h1, h2⟩ := hR
  refine (DL.wss_cons (DL.ws_asgN 1 (DL.wn_lst (DL.wa_nil) (by decide +kernel)) (fun p0 => (DL.wss_cons (ws_for (l := bs) (enc := bkL) (fun pre => ⟨[⟨p0, true, .lst ((allPl pre).map plD)⟩], [some (.lst (bs.map bkL)), some (.ref p0), none, none, none, none, none]⟩) (DL.wi_list (DL.we_var 0 rfl (Or.inl rfl) rfl)) (DL.Wk.mk (DL.WkO.keep (rfl) (DL.WkO.nil)) (DL.WkS.keep (rfl) (DL.WkS.keep (rfl) (DL.WkS.drop (DL.WkS.drop (DL.WkS.drop (DL.WkS.drop (DL.WkS.drop (DL.WkS.nil))))))))) ?_ (DL.wss_cons (DL.ws_retF 0 (DL.we_var 1 rfl (Or.inl rfl) rfl) (rfl) (rfl)))))) hN (rfl) (Or.inl rfl) (rfl) (Or.inl rfl)))
  intro pre b post hl
  have hb : b ∈ bs := by rw [hl]; simp
  have e1 : allPl bs = allPl pre ++ (bkPl b ++ allPl post) := by rw [hl, allPl_app]
  rw [e1] at h1
  simp only [List.length_append] at h1
  have hb100 := h.c b hb
  refine (Exists.intro _ (And.intro (DL.wg_tup (DL.wgs_cons (DL.wg_name 2 hN (rfl) (Or.inr rfl) (Or.inl rfl)) (DL.wgs_cons (DL.wg_name 3 hN (rfl) (Or.inl rfl) (Or.inl rfl)) (DL.wgs_nil) (rfl)) (rfl)) (rfl) (rfl) (rfl)) (DL.wss_cons (ws_for (l := enumL 0 b.2) (enc := enumI) (fun pre2 => ⟨[⟨p0, true, .lst ((allPl pre ++ pre2.flatMap (chPl0 b.1)).map plD)⟩], [some (.lst (bs.map bkL)), some (.ref p0), some (.str b.1), some (.lst (b.2.map chL)), none, none, none]⟩) (DL.wi_rgE (DL.wb_of (DL.we_len (DL.wb_of (DL.we_var 3 rfl (Or.inl rfl) rfl)) (DL.len_l) (G.free _ (by decide +kernel)) (rfl) (rfl))) (by first | (simp only [List.length_map]; done) | fail) (by simp only [List.length_map, List.length_append, List.length_cons, List.length_nil]; omega) (G.free _ (by decide +kernel)) (rfl) (rfl)) (DL.Wk.mk (DL.WkO.keep ?_ (DL.WkO.nil)) (DL.WkS.keep (rfl) (DL.WkS.keep (rfl) (DL.WkS.keep (rfl) (DL.WkS.keep (rfl) (DL.WkS.drop (DL.WkS.drop (DL.WkS.drop (DL.WkS.nil))))))))) ?_ (DL.wss_nil2 rfl (DL.Wk.mk (DL.WkO.keep ?_ (DL.WkO.nil)) (DL.WkS.keep (rfl) (DL.WkS.keep (rfl) (DL.WkS.drop (DL.WkS.drop (DL.WkS.drop (DL.WkS.drop (DL.WkS.drop (DL.WkS.nil))))))))))))))
  · simp
  · intro pre2 x post2 hl2
    obtain ⟨ca, cb, hc, hca, hx1, _⟩ := enumL_split hl2
    have hx : x.2 ∈ b.2 := by rw [hc]; simp
    have hx3 := h.v b hb x.2 hx
    have hc1 : x.1 = (ca.length : Int) := by omega
    have e2 : bkPl b = pre2.flatMap (chPl0 b.1) ++ (chPl0 b.1 x ++ post2.flatMap (chPl0 b.1)) := by
      rw [bkPl0, hl2]
      simp
    rw [e2] at h1
    simp only [List.length_append] at h1
    have hat := atI_mid chL hc hc1
    refine (Exists.intro _ (And.intro (DL.wg_name 4 hN (rfl) (Or.inr rfl) (Or.inl rfl)) (DL.wss_cons (ws_for (l := enumL 0 x.2) (enc := enumI) (fun pre3 => ⟨[⟨p0, true, .lst ((allPl pre ++ pre2.flatMap (chPl0 b.1) ++ pre3.flatMap (vsPl0 b.1 x.1)).map plD)⟩], [some (.lst (bs.map bkL)), some (.ref p0), some (.str b.1), some (.lst (b.2.map chL)), some (.int x.1), none, none]⟩) (DL.wi_rgE (DL.wb_of (DL.we_len (DL.wb_of (DL.we_sub' (DL.we_var 3 rfl (Or.inl rfl) rfl) (DL.wb_of (DL.we_var 4 rfl (Or.inr (Or.inl rfl)) rfl)) (DL.sub_l (hat)) (fun _ _ => rfl))) (DL.len_l) (G.free _ (by decide +kernel)) (rfl) (rfl))) (by first | (simp only [List.length_map]; done) | fail) (by simp only [List.length_map, List.length_append, List.length_cons, List.length_nil]; omega) (G.free _ (by decide +kernel)) (rfl) (rfl)) (DL.Wk.mk (DL.WkO.keep ?_ (DL.WkO.nil)) (DL.WkS.keep (rfl) (DL.WkS.keep (rfl) (DL.WkS.keep (rfl) (DL.WkS.keep (rfl) (DL.WkS.keep (rfl) (DL.WkS.drop (DL.WkS.drop (DL.WkS.nil))))))))) ?_ (DL.wss_nil2 rfl (DL.Wk.mk (DL.WkO.keep ?_ (DL.WkO.nil)) (DL.WkS.keep (rfl) (DL.WkS.keep (rfl) (DL.WkS.keep (rfl) (DL.WkS.keep (rfl) (DL.WkS.drop (DL.WkS.drop (DL.WkS.drop (DL.WkS.nil))))))))))))))
    · simp
    · intro pre3 q post3 hl3
      obtain ⟨va, vb, hv, _, hq1, _⟩ := enumL_split hl3
      have hq := h2 b hb x.2 hx q.2 (by rw [hv]; simp)
      have hat2 := atI_mid D.int hv (k := q.1) (by omega)
      have e3 : chPl0 b.1 x = pre3.flatMap (vsPl0 b.1 x.1) ++ (vsPl0 b.1 x.1 q ++ post3.flatMap (vsPl0 b.1 x.1)) := by
        show (enumL 0 x.2).flatMap (vsPl0 b.1 x.1) = _
        rw [hl3]
        simp
      rw [e3] at h1
      simp only [List.length_append] at h1
      have hvl : (vsPl0 b.1 x.1 q).length = (rgL 0 q.2).length := by simp [vsPl0]
      have hrl : (rgL 0 q.2).length = q.2.toNat := by simp [rgL]
      refine (Exists.intro _ (And.intro (DL.wg_name 5 hN (rfl) (Or.inr rfl) (Or.inl rfl)) (DL.wss_cons (DL.ws_extend 0 (DL.we_var 1 rfl (Or.inl rfl) rfl) (rfl) (wn_lcG (rgL 0 q.2) D.int (fun p => (⟨b.1, x.1 + 1, q.1 + 1, p + 1⟩ : Pl)) plD [("p", 6)] (DL.wio_wi (DL.wi_rg1 (DL.wb_of (DL.we_sub' (DL.we_sub' (DL.we_var 3 rfl (Or.inl rfl) rfl) (DL.wb_of (DL.we_var 4 rfl (Or.inr (Or.inl rfl)) rfl)) (DL.sub_l (hat)) (fun _ _ => rfl)) (DL.wb_of (DL.we_var 5 rfl (Or.inr (Or.inl rfl)) rfl)) (DL.sub_l (hat2)) (fun _ _ => rfl))) (by omega) (by omega) (G.free _ (by decide +kernel)) (rfl) (rfl))) (DL.small (by omega)) (rfl) (fun _ _ => (DL.elt_mk _ (fun _ _ _ _ _ => (DL.wg_name 6 hN (rfl) (Or.inl rfl) (Or.inr rfl))) (rfl) (fun _ _ _ _ _ => (DL.we_tup (DL.wa_cons (DL.we_var 2 rfl (Or.inr (Or.inl rfl)) rfl) (DL.wa_cons (DL.we_bin (DL.wb_of (DL.we_var 4 rfl (Or.inr (Or.inl rfl)) rfl)) (DL.wb_of (DL.we_int)) (DL.bin_add)) (DL.wa_cons (DL.we_bin (DL.wb_of (DL.we_var 5 rfl (Or.inr (Or.inl rfl)) rfl)) (DL.wb_of (DL.we_int)) (DL.bin_add)) (DL.wa_cons (DL.we_bin (DL.wb_of (DL.we_var 6 rfl (Or.inl rfl) rfl)) (DL.wb_of (DL.we_int)) (DL.bin_add)) (DL.wa_nil) (rfl)) (rfl)) (rfl)) (rfl)) (Nat.le_of_ble_eq_true rfl))) (rfl))) hN) (DL.smallE (by simp only [List.length_map, List.length_append, List.length_cons, List.length_nil]; omega)) (DL.wss_nil2 rfl (DL.Wk.mk (DL.WkO.keep ?_ (DL.WkO.nil)) (DL.WkS.keep (rfl) (DL.WkS.keep (rfl) (DL.WkS.keep (rfl) (DL.WkS.keep (rfl) (DL.WkS.keep (rfl) (DL.WkS.drop (DL.WkS.drop (DL.WkS.nil)))))))))) (rfl) (rfl) (rfl) (rfl) (rfl)))))
      simp [vsPl0, List.append_assoc]
    · simp [List.append_assoc, chPl0]
  · rw [allPl_app, bkPl0]; simp [allPl]
end
end DL
/-! V66n: runs of lines, told back; the law's editions. -/
namespace DL
open PySem PySem.Spec PyProof.Rows L2
theorem spanL_one (x : Int) : spanL (x, 1) = [x] := by
  unfold spanL rgL
  have e : (x + 1 - x).toNat = 1 := by omega
  simp [e]
theorem spanL_more (a n : Int) (h : 0 ≤ n) : spanL (a, n + 1) = spanL (a, n) ++ [a + n] := by
  unfold spanL rgL
  have e : (a + (n + 1) - a).toNat = (a + n - a).toNat + 1 := by omega
  simp only
  rw [e, List.range_succ, List.map_append]
  congr 1
  simp
  omega
theorem rle_spread : ∀ l : List Int, spread (rle l) = l ∧ ∀ q ∈ rle l, 1 ≤ q.2 := by
  refine rev_ind ⟨rfl, fun q hq => by cases hq⟩ (fun l x ih => ?_)
  rw [rle_app]
  rcases List.eq_nil_or_concat (rle l) with e | ⟨init, ⟨a, n⟩, e⟩
  · rw [e] at ih ⊢
    have h1 := ih.1
    have e1 : rleStep [] x = [(x, 1)] := rfl
    rw [e1]
    refine ⟨?_, fun q hq => ?_⟩
    · rw [spread_cons, spanL_one, ← h1]; simp [spread]
    · simp at hq; subst hq; exact Int.le_refl _
  · rw [List.concat_eq_append] at e
    rw [e] at ih ⊢
    rw [rleStep_last]
    obtain ⟨h1, h2⟩ := ih
    rw [spread_app, spread_cons] at h1
    have hn := h2 (a, n) (by simp)
    simp only at hn
    split
    · rename_i hx
      refine ⟨?_, fun q hq => ?_⟩
      · rw [spread_app, spread_cons, spanL_more a n (by omega), hx, ← h1]
        simp [spread]
      · rcases List.mem_append.mp hq with z | z
        · exact h2 q (by simp [z])
        · simp at z; subst z; show (1 : Int) ≤ n + 1; omega
    · refine ⟨?_, fun q hq => ?_⟩
      · rw [spread_app, spread_app, spread_cons, spread_cons, spanL_one, ← h1]
        simp [spread]
      · rcases List.mem_append.mp hq with z | z
        · exact h2 q z
        · simp at z; subst z; exact Int.le_refl _
theorem rle_inj {a b : List Int} (h : rle a = rle b) : a = b := by rw [← (rle_spread a).1, h, (rle_spread b).1]
theorem sameB_eq (a b : Ed) : sameB a b = decide (a.bs = b.bs ∧ a.ls = b.ls) := by
  unfold sameB
  by_cases h1 : a.bs = b.bs
  · by_cases h2 : a.ls = b.ls
    · simp [h1, h2]
    · have : rle a.ls ≠ rle b.ls := fun z => h2 (rle_inj z)
      simp [h2, this]
  · simp [h1]
theorem sameB_refl (a : Ed) : sameB a a = true := by rw [sameB_eq]; simp
theorem sameB_symm (a b : Ed) : sameB a b = sameB b a := by
  rw [sameB_eq, sameB_eq]
  exact decide_eq_decide.mpr ⟨fun ⟨p, q⟩ => ⟨p.symm, q.symm⟩, fun ⟨p, q⟩ => ⟨p.symm, q.symm⟩⟩
/-- the law's spans -/
def spanStp (way : Int) (acc : List (Int × Int)) (x : Int) : List (Int × Int) := if way % 2 = 0 then rleStep acc x else acc ++ [(x, 1)]
def spansOf (way : Int) (l : List Int) : List (Int × Int) := l.foldl (spanStp way) []
theorem spans_app (way : Int) (l : List Int) (x : Int) : spansOf way (l ++ [x]) = spanStp way (spansOf way l) x := by simp [spansOf]
theorem spans_even {way : Int} (h : way % 2 = 0) : ∀ l : List Int, spansOf way l = rle l := by
  refine rev_ind rfl (fun l x ih => ?_)
  rw [spans_app, ih, rle_app]
  unfold spanStp
  rw [if_pos h]
theorem spans_odd {way : Int} (h : ¬ way % 2 = 0) : ∀ l : List Int, spansOf way l = l.map fun x => (x, 1) := by
  refine rev_ind rfl (fun l x ih => ?_)
  rw [spans_app, ih, List.map_append]
  unfold spanStp
  rw [if_neg h]
  rfl
theorem spread_ones : ∀ l : List Int, spread (l.map fun x => (x, 1)) = l
  | [] => rfl
  | x :: l => by rw [List.map_cons, spread_cons, spanL_one, spread_ones l]; rfl
theorem spans_spread (way : Int) (l : List Int) : spread (spansOf way l) = l ∧ ∀ q ∈ spansOf way l, 1 ≤ q.2 := by
  by_cases h : way % 2 = 0
  · rw [spans_even h]; exact rle_spread l
  · rw [spans_odd h]
    refine ⟨spread_ones l, fun q hq => ?_⟩
    obtain ⟨x, _, rfl⟩ := List.mem_map.mp hq
    exact Int.le_refl _
theorem spanStp_len (way : Int) (acc : List (Int × Int)) (x : Int) : (spanStp way acc x).length ≤ acc.length + 1 := by
  unfold spanStp
  split
  · exact rleStep_len acc x
  · simp
theorem spans_len (way : Int) : ∀ l : List Int, (spansOf way l).length ≤ l.length := by
  refine rev_ind (Nat.le_refl _) (fun l x ih => ?_)
  rw [spans_app]
  have := spanStp_len way (spansOf way l) x
  simp
  omega
/-- lines as they may be -/
structure OkLs (l : List Int) : Prop where
  nd : l.Nodup
  rg : ∀ x ∈ l, 0 ≤ x ∧ x ≤ 9999
  len : l.length ≤ 400
theorem spans_ok {way : Int} {l : List Int} (h : OkLs l) : OkSpans (spansOf way l) := by
  obtain ⟨h1, h2⟩ := spans_spread way l
  refine ⟨Nat.le_trans (spans_len way l) h.len, fun q hq => ?_, by rw [h1]; exact h.nd, by rw [h1]; exact h.len⟩
  have hq1 := h2 q hq
  have hsub : ∀ x ∈ spanL q, x ∈ l := fun x hx => by
    rw [← h1]
    exact List.mem_flatMap.mpr ⟨q, hq, hx⟩
  have hmem : ∀ x, q.1 ≤ x → x < q.1 + q.2 → x ∈ l := fun x a b => hsub x (by
    unfold spanL rgL
    exact List.mem_map.mpr ⟨(x - q.1).toNat, List.mem_range.mpr (by omega), by omega⟩)
  have hlen : (spanL q).length ≤ l.length := by
    rw [← h1]
    obtain ⟨s, t, e⟩ := List.append_of_mem hq
    rw [e, spread_app, spread_cons]
    simp
    omega
  have e : (spanL q).length = q.2.toNat := by
    unfold spanL rgL
    simp
    omega
  have a1 := (h.rg _ (hmem q.1 (by omega) (by omega))).1
  have a2 := (h.rg _ (hmem (q.1 + q.2 - 1) (by omega) (by omega))).2
  have := h.len
  exact ⟨a1, hq1, by omega, a2⟩
theorem ints_dat (l : List Int) : datL (l.map D.int) = true := datL_map fun _ _ => rfl
theorem ints_shaped (l : List Int) : SeqAt.shaped (D.lst (l.map D.int)).pd = true := by
  unfold SeqAt.shaped
  rw [Bool.and_eq_true, decide_eq_true_eq]
  constructor
  · show PyData.canLayAll0 (pdL (l.map D.int)) = true
    rw [pdL_map]
    exact canLayAll_map fun _ _ => rfl
  · show PyData.depthAll (pdL (l.map D.int)) + 1 ≤ 64
    rw [pdL_map]
    have : PyData.depthAll (l.map fun x => (D.int x).pd) ≤ 0 := depthAll_map fun _ _ => Nat.le_refl _
    omega
theorem ints_eqv (a b : List Int) : PyData.eqv (D.lst (a.map D.int)).pd (D.lst (b.map D.int)).pd = decide (a = b) := by
  show PyData.eqvAll (pdL (a.map D.int)) (pdL (b.map D.int)) = _
  rw [pdL_map, pdL_map]
  exact eqvAll_map (fun i j => by show (i == j) = _; exact Bool.beq_eq_decide_eq i j) a b
theorem spans_dat (l : List (Int × Int)) : datL (l.map spanD) = true := datL_map fun _ _ => rfl
theorem spans_shaped (l : List (Int × Int)) : SeqAt.shaped (D.lst (l.map spanD)).pd = true := by
  unfold SeqAt.shaped
  rw [Bool.and_eq_true, decide_eq_true_eq]
  constructor
  · show PyData.canLayAll0 (pdL (l.map spanD)) = true
    rw [pdL_map]
    exact canLayAll_map fun _ _ => rfl
  · show PyData.depthAll (pdL (l.map spanD)) + 1 ≤ 64
    rw [pdL_map]
    have : PyData.depthAll (l.map fun x => (spanD x).pd) ≤ 1 := depthAll_map fun _ _ => Nat.le_refl _
    omega
inductive lawEdR (C : Addr) : List D → D → Prop
  | mk (bs : List Bk) (ts : List Int) (way : Int) (h : OkEd ⟨bs, ts⟩) (fw : Few bs) (hl : OkLs ts) : lawEdR C [.lst (bs.map bkL), .lst (ts.map D.int), .int way] (edD C ⟨bs, ts⟩)
theorem sc66 : FnScope ["books", "threads", "way", "spans", "thread"] ["books", "threads", "way"] (defScope (top 66)) := (⟨rfl, rfl, rfl, by decide +kernel, rfl, by decide +kernel, by decide +kernel⟩)
section
variable {P : Program} {w : World} {K : PySem.W.Frag} {mg : Str → Option Value} {base : Heap} {f CL C : Addr} {fd : FuncData} (G : G66 mg)
include G
theorem ok_lawEd (F : FD K "_law_edition" "_law_edition" (top 66) f fd) (k1 : KnC P w K mg base "Edition" C 5 [.non] (spI K C (edInR C))) (k2 : KnK P w K mg base "Edition" C 5 1 ["lines"] (spI K C (edInR C))) (k3 : Kn P w K mg base "_law_copy" 1 [] (spR K copyR)) : FnOk P w K mg base CX0 7 f fd ["books", "threads", "way"] (spR K (lawEdR C)) := by
  have hN := sc66.nd
  refine fn_okR F sc66 (fun ds d h => by cases h <;> rfl) fun cdv A outer s H E hr ds d hR => ?_
  obtain ⟨bs, ts, way, h, fw, hl⟩ := hR
  have hn : ts.length = (allPl bs).length := h.n
  have h400 : ts.length ≤ 400 := hl.len
  refine (DL.wss_cons (DL.ws_if (DL.wt_w (DL.ww_and (DL.wt_cmp (DL.wb_of (DL.we_bin (DL.wb_of (DL.we_var 2 rfl (Or.inl rfl) rfl)) (DL.wb_of (DL.we_int)) (DL.bin_mod (by decide +kernel)))) (DL.wb_of (DL.we_int)) (DL.cmp_eqI) (rfl)) (fun _ => (DL.ww_and1 (DL.wt_cmp (DL.wb_of (DL.we_var 1 rfl (Or.inl rfl) rfl)) (DL.wb_wn (DL.wn_listRg (DL.wr_1 (DL.wb_of (DL.we_len (DL.wb_of (DL.we_var 1 rfl (Or.inl rfl) rfl)) (DL.len_l) (G.free _ (by decide +kernel)) (rfl) (rfl))) (G.free _ (by decide +kernel)) (rfl) (rfl)) ?_ (G.free _ (by decide +kernel)) (rfl) (rfl) (rfl))) (DL.cmp_eqD ?_ ?_ ?_ ?_ (hr.units)) (rfl)))))) (fun _ => ?_) (fun _ => ?_)))
  · rw [List.length_map]; exact .of_le (by omega) (by omega) (by omega) (by omega)
  · exact ints_dat ts
  · exact ints_dat _
  · exact ints_shaped ts
  · exact ints_shaped _
  · rename_i hc
    rw [ints_eqv, List.length_map] at hc
    have hc2 : ts = rgL 0 (ts.length : Int) := by
      rw [Bool.and_eq_true] at hc
      exact of_decide_eq_true hc.2
    have hc3 : ts = rgL 0 (((allPl bs).map plD).length : Int) := by rw [List.length_map, ← hn]; exact hc2
    have h' : OkEd ⟨bs, rgL 0 (((allPl bs).map plD).length : Int)⟩ := hc3 ▸ h
    refine (DL.wss_cons (DL.ws_ret (DL.we_make k1 hr (DL.wa_cons (DL.we_call k3 (L2.Room.mono hr (by omega)) (DL.wa_cons (DL.we_var 0 rfl (Or.inl rfl) rfl) (DL.wa_nil) (rfl)) (DL.copyR.mk _ fw) (rfl) (rfl) (rfl) (rfl)) (DL.wa_nil) (rfl)) (by intros; first | rfl | exact DL.RepL.nil | exact DL.RepL.cons DL.Rep.non DL.RepL.nil) (DL.edInR.lnon _ h') (rfl) (rfl) (rfl) (rfl)) ?_))
    rw [← hc3]
  · rename_i hc
    have hok := spans_ok (way := way) hl
    have hsp := (spans_spread way ts).1
    have h' : OkEd ⟨bs, spread (spansOf way ts)⟩ := by rw [hsp]; exact h
    refine (DL.wss_nil (DL.Wk.refl _) (DL.wss_cons (DL.ws_asgN 3 (DL.wn_lst (DL.wa_nil) (by decide +kernel)) (fun p0 => (DL.wss_cons (ws_for (l := ts) (enc := D.int) (fun pre => ⟨[⟨p0, true, .lst ((spansOf way pre).map spanD)⟩], [some (.lst (bs.map bkL)), some (.lst (ts.map D.int)), some (.int way), some (.ref p0), none]⟩) (DL.wi_list (DL.we_var 1 rfl (Or.inl rfl) rfl)) (DL.Wk.mk (DL.WkO.keep (rfl) (DL.WkO.nil)) (DL.WkS.keep (rfl) (DL.WkS.keep (rfl) (DL.WkS.keep (rfl) (DL.WkS.keep (rfl) (DL.WkS.drop (DL.WkS.nil))))))) ?_ (DL.wss_fz 0 (rfl) (DL.FzS.keep (DL.FzS.keep (DL.FzS.keep (DL.FzS.sub (DL.FzS.keep (DL.FzS.nil)))))) (DL.wss_cons (DL.ws_ret (DL.we_makeK k2 hr (DL.wa_cons (DL.we_tuple (DL.we_call k3 (L2.Room.mono hr (by omega)) (DL.wa_cons (DL.we_var 0 rfl (Or.inl rfl) rfl) (DL.wa_nil) (rfl)) (DL.copyR.mk _ fw) (rfl) (rfl) (rfl) (rfl)) (DL.tup_l) (G.free _ (by decide +kernel)) (rfl) (rfl)) (DL.wa_nil) (rfl)) (DL.we_var 3 rfl (Or.inl rfl) rfl) (rfl) (DL.edInR.tlst _ _ h' hok) (rfl) (rfl) (rfl) (rfl) (rfl) (rfl)) ?_)))))) hN (rfl) (Or.inl rfl) (rfl) (Or.inl rfl))))
    · intro pre x post hl2
      have hp : (spansOf way pre).length ≤ 99999 := Nat.le_trans (spans_len way pre) (by rw [hl2] at h400; simp at h400; omega)
      rcases List.eq_nil_or_concat (spansOf way pre) with hr1 | ⟨init, ⟨a, n⟩, hr1⟩
      · have e2 : spansOf way (pre ++ [x]) = [(x, 1)] := by
          rw [spans_app, hr1]
          unfold spanStp
          split <;> rfl
        rw [hr1]
        refine (Exists.intro _ (And.intro (DL.wg_name 4 hN (rfl) (Or.inl rfl) (Or.inl rfl)) (DL.wss_cons (DL.ws_if (DL.wt_w (DL.ww_and (DL.wt_cmp (DL.wb_of (DL.we_bin (DL.wb_of (DL.we_var 2 rfl (Or.inl rfl) rfl)) (DL.wb_of (DL.we_int)) (DL.bin_mod (by decide +kernel)))) (DL.wb_of (DL.we_int)) (DL.cmp_eqI) (rfl)) (fun _ => (DL.ww_andF (DL.wt_cmp (DL.wb_own 0 (DL.we_var 3 rfl (Or.inl rfl) rfl) (rfl)) (DL.wb_wn (DL.wn_lst (DL.wa_nil) (by decide +kernel))) (DL.cmp_neNil (rfl) (rfl) (hr.units)) (rfl)))))) (fun _ => ?_) (fun _ => ?_)))))
        · rename_i hc
          rw [Bool.and_false] at hc
          cases hc
        · refine (DL.wss_cons (DL.ws_append 0 (DL.we_var 3 rfl (Or.inl rfl) rfl) (rfl) (DL.we_tup (DL.wa_cons (DL.we_var 4 rfl (Or.inl rfl) rfl) (DL.wa_cons (DL.we_int) (DL.wa_nil) (rfl)) (rfl)) (Nat.le_of_ble_eq_true rfl)) (by decide +kernel) (DL.wss_nil (DL.Wk.refl _) (DL.wss_nil2 rfl (DL.Wk.mk (DL.WkO.keep ?_ (DL.WkO.nil)) (DL.WkS.keep (rfl) (DL.WkS.keep (rfl) (DL.WkS.keep (rfl) (DL.WkS.keep (rfl) (DL.WkS.drop (DL.WkS.nil))))))))) (rfl) (rfl) (rfl) (rfl) (rfl)))
          rw [e2]
          rfl
      · rw [List.concat_eq_append] at hr1
        have hs := rleStep_last init a n x
        have hso := spans_app way pre x
        rw [hr1] at hp hso ⊢
        have hd := spans_dat (init ++ [(a, n)])
        have hsh := spans_shaped (init ++ [(a, n)])
        refine (Exists.intro _ (And.intro (DL.wg_name 4 hN (rfl) (Or.inl rfl) (Or.inl rfl)) (DL.wss_cons (DL.ws_if (DL.wt_w (DL.ww_and (DL.wt_cmp (DL.wb_of (DL.we_bin (DL.wb_of (DL.we_var 2 rfl (Or.inl rfl) rfl)) (DL.wb_of (DL.we_int)) (DL.bin_mod (by decide +kernel)))) (DL.wb_of (DL.we_int)) (DL.cmp_eqI) (rfl)) (fun _ => (DL.ww_and (DL.wt_cmp (DL.wb_own 0 (DL.we_var 3 rfl (Or.inl rfl) rfl) (rfl)) (DL.wb_wn (DL.wn_lst (DL.wa_nil) (by decide +kernel))) (DL.cmp_neC (hd) (hsh) (hr.units)) (rfl)) (fun _ => (DL.ww_and1 (DL.wt_cmp (DL.wb_of (DL.we_bin (DL.wb_of (DL.we_sub' (DL.we_ixO 0 (DL.we_var 3 rfl (Or.inl rfl) rfl) (rfl) (DL.wb_of (DL.we_neg (DL.wb_of (DL.we_int)))) (DL.atI_lastM _ _ _) (fun _ _ => rfl)) (DL.wb_of (DL.we_int)) (DL.sub_t (rfl)) (fun _ _ => rfl))) (DL.wb_of (DL.we_sub' (DL.we_ixO 0 (DL.we_var 3 rfl (Or.inl rfl) rfl) (rfl) (DL.wb_of (DL.we_neg (DL.wb_of (DL.we_int)))) (DL.atI_lastM _ _ _) (fun _ _ => rfl)) (DL.wb_of (DL.we_int)) (DL.sub_t (rfl)) (fun _ _ => rfl))) (DL.bin_add))) (DL.wb_of (DL.we_var 4 rfl (Or.inl rfl) rfl)) (DL.cmp_eqI) (rfl)))))))) (fun _ => ?_) (fun _ => ?_)))))
        · rename_i hc
          have hx : way % 2 = 0 ∧ a + n = x := by simpa using hc
          refine (DL.wss_cons (DL.ws_setIx 0 (DL.we_var 3 rfl (Or.inl rfl) rfl) (rfl) (DL.wb_of (DL.we_neg (DL.wb_of (DL.we_int)))) (DL.we_tup (DL.wa_cons (DL.we_sub' (DL.we_ixO 0 (DL.we_var 3 rfl (Or.inl rfl) rfl) (rfl) (DL.wb_of (DL.we_neg (DL.wb_of (DL.we_int)))) (DL.atI_lastM _ _ _) (fun _ _ => rfl)) (DL.wb_of (DL.we_int)) (DL.sub_t (rfl)) (fun _ _ => rfl)) (DL.wa_cons (DL.we_bin (DL.wb_of (DL.we_sub' (DL.we_ixO 0 (DL.we_var 3 rfl (Or.inl rfl) rfl) (rfl) (DL.wb_of (DL.we_neg (DL.wb_of (DL.we_int)))) (DL.atI_lastM _ _ _) (fun _ _ => rfl)) (DL.wb_of (DL.we_int)) (DL.sub_t (rfl)) (fun _ _ => rfl))) (DL.wb_of (DL.we_int)) (DL.bin_add)) (DL.wa_nil) (rfl)) (rfl)) (Nat.le_of_ble_eq_true rfl)) (DL.ixN_lastM _ _ _) (DL.wss_nil (DL.Wk.refl _) (DL.wss_nil2 rfl (DL.Wk.mk (DL.WkO.keep ?_ (DL.WkO.nil)) (DL.WkS.keep (rfl) (DL.WkS.keep (rfl) (DL.WkS.keep (rfl) (DL.WkS.keep (rfl) (DL.WkS.drop (DL.WkS.nil))))))))) (rfl) (rfl) (rfl) (by intros; first | rfl | exact DL.RepL.nil | exact DL.RepL.cons DL.Rep.non DL.RepL.nil)))
          rw [hso]
          unfold spanStp
          rw [if_pos hx.1, hs, if_pos hx.2, ← set_lastM init (a, n) (a, n + 1) spanD]
        · rename_i hc
          have hx : ¬ (way % 2 = 0 ∧ a + n = x) := by simpa using hc
          have e3 : spanStp way (init ++ [(a, n)]) x = init ++ [(a, n)] ++ [(x, 1)] := by
            unfold spanStp
            split
            · rename_i hw
              rw [hs, if_neg fun z => hx ⟨hw, z⟩]
            · rfl
          refine (DL.wss_cons (DL.ws_append 0 (DL.we_var 3 rfl (Or.inl rfl) rfl) (rfl) (DL.we_tup (DL.wa_cons (DL.we_var 4 rfl (Or.inl rfl) rfl) (DL.wa_cons (DL.we_int) (DL.wa_nil) (rfl)) (rfl)) (Nat.le_of_ble_eq_true rfl)) (DL.small (by simp only [List.length_map]; omega)) (DL.wss_nil (DL.Wk.refl _) (DL.wss_nil2 rfl (DL.Wk.mk (DL.WkO.keep ?_ (DL.WkO.nil)) (DL.WkS.keep (rfl) (DL.WkS.keep (rfl) (DL.WkS.keep (rfl) (DL.WkS.keep (rfl) (DL.WkS.drop (DL.WkS.nil))))))))) (rfl) (rfl) (rfl) (rfl) (rfl)))
          rw [hso, e3, List.map_append (l₁ := init ++ _)]
          rfl
    · rw [hsp]
end
end DL
/-! V66o: the law's names. -/
namespace DL
open PySem PySem.Spec PyProof.Rows L2
/-- a letter by a number -/
@[irreducible] def ltr (n : Int) : Nat := (atI letters.cps.toList (n % 26)).getD 0
theorem ltrs_len : letters.cps.toList.length = 26 := by decide +kernel
theorem ltr_at (n : Int) : atI letters.cps.toList (n % 26) = some (ltr n) := by
  have h1 := Int.emod_nonneg n (by decide : (26 : Int) ≠ 0)
  have h2 := Int.emod_lt_of_pos n (by decide : (0 : Int) < 26)
  unfold ltr
  rw [atI_nn h1 (by rw [ltrs_len]; exact h2)]
  rfl
theorem ltr_mem (n : Int) : ltr n ∈ letters.cps.toList := by
  have h := ltr_at n
  unfold atI at h
  cases e : ixN letters.cps.toList.length (n % 26) with
  | none => rw [e] at h; cases h
  | some j =>
    rw [e] at h
    exact List.mem_of_getElem? h
theorem ltr_inj {a b : Int} (h : ltr a = ltr b) : a % 26 = b % 26 := by
  have key : ∀ i : Fin 26, ∀ j : Fin 26, (atI letters.cps.toList (i.val : Int)).getD 0 = (atI letters.cps.toList (j.val : Int)).getD 0 → i = j := by decide +kernel
  have h1 := Int.emod_nonneg a (by decide : (26 : Int) ≠ 0)
  have h2 := Int.emod_lt_of_pos a (by decide : (0 : Int) < 26)
  have h3 := Int.emod_nonneg b (by decide : (26 : Int) ≠ 0)
  have h4 := Int.emod_lt_of_pos b (by decide : (0 : Int) < 26)
  have := key ⟨(a % 26).toNat, by omega⟩ ⟨(b % 26).toNat, by omega⟩ (by
    simp only [Int.toNat_of_nonneg h1, Int.toNat_of_nonneg h3]
    unfold ltr at h
    exact h)
  have e := congrArg Fin.val this
  simp only at e
  omega
abbrev sg (n : Int) : Str := ⟨#[ltr n]⟩
def rAt (row : List Int) (i : Int) : Int := (atI row i).getD 0
def stemOf (row : List Int) : Str := Txt.join "" ((cutD row none (some 5)).map sg)
def atOf (row : List Int) : Int := rAt row 5 % 6
def steps : List Int := [7, 19, 3, 23]
def stepOf (row : List Int) : Int := rAt steps (rAt row 8 % 4)
def nameK (row : List Int) (k : Int) : Str := cutS (stemOf row) none (some (atOf row)) ++ sg (rAt row 7 + stepOf row * k) ++ cutS (stemOf row) (some (atOf row)) (some (atOf row + rAt row 6 / (1 + 2 * k) % (6 - atOf row)))
def names0 (row : List Int) : List Str := (rgL 0 6).map (nameK row)
def nameX (row : List Int) : Str := nameK row 0 ++ sg (rAt row 9 / 3)
@[irreducible] def namesOf (row : List Int) : List Str :=
  if rAt row 9 % 3 = 0 ∧ ((nameK row 0).length : Int) < 6 then
    (if rAt row 9 / 78 % 2 = 0 then ((names0 row).set 1 (nameK row 0)).set 0 (nameX row) else (names0 row).set 1 (nameX row))
  else names0 row
theorem rAt_nn {row : List Int} {i : Int} (h : 0 ≤ i) (hi : i < (row.length : Int)) : atI (row.map D.int) i = some (.int (rAt row i)) := atI_map h hi
theorem cut5 {row : List Int} (h : 10 ≤ row.length) : cutD row none (some 5) = row.take 5 := by
  unfold cutD
  rw [HT.sIx_none, show (5 : Int) = ((5 : Nat) : Int) from rfl, HT.sIx_nat, List.drop_zero]
  congr 1
  omega
theorem stem_tl {row : List Int} (h : 10 ≤ row.length) : (stemOf row).cps.toList = (row.take 5).map ltr := by
  unfold stemOf
  rw [cut5 h]
  obtain ⟨a, b, c, d, e, r, hr⟩ : ∃ a b c d e r, row = a :: b :: c :: d :: e :: r := by
    match row, h with
    | a :: b :: c :: d :: e :: r, _ => exact ⟨a, b, c, d, e, r, rfl⟩
  subst hr
  rfl
theorem stem_len {row : List Int} (h : 10 ≤ row.length) : (stemOf row).length = 5 ∧ ∀ c ∈ (stemOf row).cps.toList, c ∈ letters.cps.toList := by
  constructor
  · rw [← len_le, stem_tl h]; simp; omega
  · intro c hc
    rw [stem_tl h] at hc
    obtain ⟨n, _, rfl⟩ := List.mem_map.mp hc
    exact ltr_mem n
theorem steps_at (n : Int) : atI [D.int 7, D.int 19, D.int 3, D.int 23] (n % 4) = some (.int (rAt steps (n % 4))) :=
  atI_map (l := steps) (Int.emod_nonneg n (by decide)) (by have := Int.emod_lt_of_pos n (by decide : (0 : Int) < 4); exact this)
theorem cutS_len (s : Str) (lo hi : Option Int) : (cutS s lo hi).length ≤ s.length := by
  rw [← len_le, ← len_le]
  unfold cutS
  simp
  omega
theorem nameK_len {row : List Int} (h : 10 ≤ row.length) (k : Int) : (nameK row k).length ≤ 11 := by
  have c1 := cutS_len (stemOf row) none (some (atOf row))
  have c2 := cutS_len (stemOf row) (some (atOf row)) (some (atOf row + rAt row 6 / (1 + 2 * k) % (6 - atOf row)))
  have := (stem_len h).1
  unfold nameK
  rw [str_app_len, str_app_len]
  show _ + 1 + _ ≤ 11
  omega
inductive namesR : List D → D → Prop
  | mk (row : List Int) (h : 10 ≤ row.length) : namesR [.lst (row.map D.int), .int 6] (.lst ((namesOf row).map D.str))
theorem sc61 : FnScope ["row", "many", "letters", "stem", "at", "step", "names", "k", "long", "letter", "number"] ["row", "many"] (defScope (top 61)) := (⟨rfl, rfl, rfl, by decide +kernel, rfl, by decide +kernel, by decide +kernel⟩)
section
variable {P : Program} {w : World} {K : PySem.W.Frag} {mg : Str → Option Value} {base : Heap} {f CL C : Addr} {fd : FuncData} (G : G66 mg)
include G
theorem ok_names (F : FD K "_law_names" "_law_names" (top 61) f fd) : FnOk P w K mg base CX0 1 f fd ["row", "many"] (spR K namesR) := by
  have hN := sc61.nd
  refine fn_okR F sc61 (fun ds d h => by cases h <;> rfl) fun cdv A outer s H E hr ds d hR => ?_
  obtain ⟨row, h⟩ := hR
  have r5 := rAt_nn (row := row) (i := 5) (by decide) (by omega)
  have r6 := rAt_nn (row := row) (i := 6) (by decide) (by omega)
  have r7 := rAt_nn (row := row) (i := 7) (by decide) (by omega)
  have r8 := rAt_nn (row := row) (i := 8) (by decide) (by omega)
  have r9 := rAt_nn (row := row) (i := 9) (by decide) (by omega)
  have hst := (stem_len h).1
  have rs := steps_at (rAt row 8)
  have hat0 := Int.emod_nonneg (rAt row 5) (by decide : (6 : Int) ≠ 0)
  have hat1 := Int.emod_lt_of_pos (rAt row 5) (by decide : (0 : Int) < 6)
  have h5 : (cutD row none (some 5)).length = 5 := by rw [cut5 h]; simp; omega
  have hl5 : (Str.ofString "abcdefghijklmnopqrstuvwxyz").length = 26 := by decide +kernel
  have x0 : atI (((rgL 0 6).map (nameK row)).map D.str) 0 = some (.str (nameK row 0)) := rfl
  have hn0 := nameK_len h 0
  have hr9 := ltr_at (rAt row 9 / 3)
  refine (DL.wss_cons (DL.ws_asg (DL.we_str) (DL.wg_name 2 hN (rfl) (Or.inr rfl) (Or.inl rfl)) (DL.wss_cons (DL.ws_asg (DL.we_join (DL.wb_of (DL.we_str)) (DL.wb_wn (wn_lcG (cutD row none (some 5)) D.int sg D.str [("number", 10)] (DL.wio_wi (DL.wi_castL (DL.wi_list (DL.we_wn (DL.wn_sl (DL.wl_we (DL.we_var 0 rfl (Or.inl rfl) rfl)) (DL.wo_none) (DL.wo_some (DL.wb_of (DL.we_int)))))) (DL.cutD_map _ _ _ _))) (DL.small (by omega)) (rfl) (fun _ _ => (DL.elt_mk _ (fun _ _ _ _ _ => (DL.wg_name 10 hN (rfl) (Or.inl rfl) (Or.inr rfl))) (rfl) (fun _ _ _ _ _ => (DL.we_sub' (DL.we_var 2 rfl (Or.inr (Or.inl rfl)) rfl) (DL.wb_of (DL.we_bin (DL.wb_of (DL.we_var 10 rfl (Or.inl rfl) rfl)) (DL.wb_of (DL.we_int)) (DL.bin_mod (by decide +kernel)))) (DL.sub_s (by decide +kernel) ?_) (fun _ _ => rfl))) (rfl))) hN)) ?_ (rfl) (rfl) (rfl)) (DL.wg_name 3 hN (rfl) (Or.inl rfl) (Or.inl rfl)) (DL.wss_cons (DL.ws_asg (DL.we_bin (DL.wb_of (DL.we_sub' (DL.we_var 0 rfl (Or.inl rfl) rfl) (DL.wb_of (DL.we_int)) (DL.sub_l (r5)) (fun _ _ => rfl))) (DL.wb_of (DL.we_int)) (DL.bin_mod (by decide +kernel))) (DL.wg_name 4 hN (rfl) (Or.inl rfl) (Or.inl rfl)) (DL.wss_cons (DL.ws_asg (DL.we_sub' (DL.we_wn (DL.wn_lst (DL.wa_cons (DL.we_int) (DL.wa_cons (DL.we_int) (DL.wa_cons (DL.we_int) (DL.wa_cons (DL.we_int) (DL.wa_nil) (rfl)) (rfl)) (rfl)) (rfl)) (by decide +kernel))) (DL.wb_of (DL.we_bin (DL.wb_of (DL.we_sub' (DL.we_var 0 rfl (Or.inl rfl) rfl) (DL.wb_of (DL.we_int)) (DL.sub_l (r8)) (fun _ _ => rfl))) (DL.wb_of (DL.we_int)) (DL.bin_mod (by decide +kernel)))) (DL.sub_l (rs)) (fun _ _ => rfl)) (DL.wg_name 5 hN (rfl) (Or.inl rfl) (Or.inl rfl)) (DL.wss_cons (DL.ws_asgN 6 (DL.wn_lst (DL.wa_nil) (by decide +kernel)) (fun p0 => (DL.wss_cons (ws_for (l := rgL 0 6) (enc := D.int) (fun pre => ⟨[⟨p0, true, .lst ((pre.map (nameK row)).map D.str)⟩], [some (.lst (row.map D.int)), some (.int 6), some (.str letters), some (.str (stemOf row)), some (.int (atOf row)), some (.int (stepOf row)), some (.ref p0), none, none, none, none]⟩) (DL.wi_rg1 (DL.wb_of (DL.we_var 1 rfl (Or.inl rfl) rfl)) (by decide +kernel) (by decide +kernel) (G.free _ (by decide +kernel)) (rfl) (rfl)) (DL.Wk.mk (DL.WkO.keep (rfl) (DL.WkO.nil)) (DL.WkS.keep (rfl) (DL.WkS.keep (rfl) (DL.WkS.keep (rfl) (DL.WkS.keep (rfl) (DL.WkS.keep (rfl) (DL.WkS.keep (rfl) (DL.WkS.keep (rfl) (DL.WkS.drop (DL.WkS.drop (DL.WkS.drop (DL.WkS.drop (DL.WkS.nil))))))))))))) ?_ (DL.wss_cons (ws_ifJ ⟨[⟨p0, true, .lst ((namesOf row).map D.str)⟩], [some (.lst (row.map D.int)), some (.int 6), some (.str letters), some (.str (stemOf row)), some (.int (atOf row)), some (.int (stepOf row)), some (.ref p0), none, none, none, none]⟩ (DL.wt_w (DL.ww_and (DL.wt_cmp (DL.wb_of (DL.we_var 1 rfl (Or.inl rfl) rfl)) (DL.wb_of (DL.we_int)) (DL.cmp_gt) (rfl)) (fun _ => (DL.ww_and (DL.wt_cmp (DL.wb_of (DL.we_bin (DL.wb_of (DL.we_sub' (DL.we_var 0 rfl (Or.inl rfl) rfl) (DL.wb_of (DL.we_int)) (DL.sub_l (r9)) (fun _ _ => rfl))) (DL.wb_of (DL.we_int)) (DL.bin_mod (by decide +kernel)))) (DL.wb_of (DL.we_int)) (DL.cmp_eqI) (rfl)) (fun _ => (DL.ww_and1 (DL.wt_cmp (DL.wb_of (DL.we_len (DL.wb_of (DL.we_ixO 0 (DL.we_var 6 rfl (Or.inl rfl) rfl) (rfl) (DL.wb_of (DL.we_int)) (x0) (fun _ _ => rfl))) (DL.len_s (DL.smallE (by omega))) (G.free _ (by decide +kernel)) (rfl) (rfl))) (DL.wb_of (DL.we_int)) (DL.cmp_lt) (rfl)))))))) (fun _ => (DL.wss_cons (DL.ws_setIx 0 (DL.we_var 6 rfl (Or.inl rfl) rfl) (rfl) (DL.wb_of (DL.we_int)) (DL.we_bin (DL.wb_of (DL.we_ixO 0 (DL.we_var 6 rfl (Or.inl rfl) rfl) (rfl) (DL.wb_of (DL.we_int)) (x0) (fun _ _ => rfl))) (DL.wb_of (DL.we_sub' (DL.we_var 2 rfl (Or.inr (Or.inl rfl)) rfl) (DL.wb_of (DL.we_bin (DL.wb_of (DL.we_bin (DL.wb_of (DL.we_sub' (DL.we_var 0 rfl (Or.inl rfl) rfl) (DL.wb_of (DL.we_int)) (DL.sub_l (r9)) (fun _ _ => rfl))) (DL.wb_of (DL.we_int)) (DL.bin_fdiv (⟨by decide, by decide⟩)))) (DL.wb_of (DL.we_int)) (DL.bin_mod (by decide +kernel)))) (DL.sub_s (by decide +kernel) (hr9)) (fun _ _ => rfl))) (DL.bin_adds ?_)) (rfl) (DL.wss_cons (DL.ws_if (DL.wt_cmp (DL.wb_of (DL.we_bin (DL.wb_of (DL.we_bin (DL.wb_of (DL.we_sub' (DL.we_var 0 rfl (Or.inl rfl) rfl) (DL.wb_of (DL.we_int)) (DL.sub_l (r9)) (fun _ _ => rfl))) (DL.wb_of (DL.we_int)) (DL.bin_fdiv (⟨by decide, by decide⟩)))) (DL.wb_of (DL.we_int)) (DL.bin_mod (by decide +kernel)))) (DL.wb_of (DL.we_int)) (DL.cmp_eqI) (rfl)) (fun _ => ?_) (fun _ => ?_))) (rfl) (rfl) (rfl) (by intros; first | rfl | exact DL.RepL.nil | exact DL.RepL.cons DL.Rep.non DL.RepL.nil)))) (fun _ => (DL.wss_nil2 rfl (DL.Wk.mk (DL.WkO.keep ?_ (DL.WkO.nil)) (DL.WkS.keep (rfl) (DL.WkS.keep (rfl) (DL.WkS.keep (rfl) (DL.WkS.keep (rfl) (DL.WkS.keep (rfl) (DL.WkS.keep (rfl) (DL.WkS.keep (rfl) (DL.WkS.drop (DL.WkS.drop (DL.WkS.drop (DL.WkS.drop (DL.WkS.nil))))))))))))))) (DL.wss_cons (DL.ws_retF 0 (DL.we_var 6 rfl (Or.inl rfl) rfl) (rfl) (rfl)))))))) hN (rfl) (Or.inl rfl) (rfl) (Or.inl rfl))) (rfl) (rfl) (rfl))) (rfl) (rfl) (rfl))) (rfl) (rfl) (rfl))) (rfl) (rfl) (rfl)))
  · exact ltr_at _
  · rw [List.length_map, h5]
    have e0 : (Str.ofString "").length = 0 := rfl
    have := sum_le (l := ((cutD row none (some 5)).map sg).map fun x => x.length) (k := 1) (fun x hx => by
      rw [List.map_map] at hx
      obtain ⟨y, _, rfl⟩ := List.mem_map.mp hx
      exact Nat.le_refl 1)
    rw [List.length_map, List.length_map, h5] at this
    omega
  · intro pre k post hl
    have hk := rgL_mem hl
    have hpre : pre.length ≤ 6 := by
      have := congrArg List.length hl
      simp [rgL] at this
      omega
    have hlt := ltr_at (rAt row 7 + stepOf row * k)
    have c1 := cutS_len (stemOf row) none (some (atOf row))
    have c2 := cutS_len (stemOf row) (some (atOf row)) (some (atOf row + rAt row 6 / (1 + 2 * k) % (6 - atOf row)))
    refine (Exists.intro _ (And.intro (DL.wg_name 7 hN (rfl) (Or.inl rfl) (Or.inl rfl)) (DL.wss_cons (DL.ws_asg (DL.we_bin (DL.wb_of (DL.we_bin (DL.wb_of (DL.we_sub' (DL.we_var 0 rfl (Or.inl rfl) rfl) (DL.wb_of (DL.we_int)) (DL.sub_l (r6)) (fun _ _ => rfl))) (DL.wb_of (DL.we_bin (DL.wb_of (DL.we_int)) (DL.wb_of (DL.we_bin (DL.wb_of (DL.we_int)) (DL.wb_of (DL.we_var 7 rfl (Or.inl rfl) rfl)) (DL.bin_mul (Or.inl ⟨by omega, by omega⟩)))) (DL.bin_add))) (DL.bin_fdiv (⟨by omega, by omega⟩)))) (DL.wb_of (DL.we_bin (DL.wb_of (DL.we_int)) (DL.wb_of (DL.we_var 4 rfl (Or.inl rfl) rfl)) (DL.bin_sub))) (DL.bin_mod ?_)) (DL.wg_name 8 hN (rfl) (Or.inl rfl) (Or.inl rfl)) (DL.wss_cons (DL.ws_asg (DL.we_sub' (DL.we_var 2 rfl (Or.inr (Or.inl rfl)) rfl) (DL.wb_of (DL.we_bin (DL.wb_of (DL.we_bin (DL.wb_of (DL.we_sub' (DL.we_var 0 rfl (Or.inl rfl) rfl) (DL.wb_of (DL.we_int)) (DL.sub_l (r7)) (fun _ _ => rfl))) (DL.wb_of (DL.we_bin (DL.wb_of (DL.we_var 5 rfl (Or.inl rfl) rfl)) (DL.wb_of (DL.we_var 7 rfl (Or.inl rfl) rfl)) (DL.bin_mul (Or.inr ⟨by omega, by omega⟩)))) (DL.bin_add))) (DL.wb_of (DL.we_int)) (DL.bin_mod (by decide +kernel)))) (DL.sub_s (by decide +kernel) (hlt)) (fun _ _ => rfl)) (DL.wg_name 9 hN (rfl) (Or.inl rfl) (Or.inl rfl)) (DL.wss_cons (DL.ws_append 0 (DL.we_var 6 rfl (Or.inl rfl) rfl) (rfl) (DL.we_bin (DL.wb_of (DL.we_bin (DL.wb_of (DL.we_slS (DL.we_var 3 rfl (Or.inl rfl) rfl) (DL.wo_none) (DL.wo_some (DL.wb_of (DL.we_var 4 rfl (Or.inl rfl) rfl))) (DL.smallE (by omega)))) (DL.wb_of (DL.we_var 9 rfl (Or.inl rfl) rfl)) (DL.bin_adds ?_))) (DL.wb_of (DL.we_slS (DL.we_var 3 rfl (Or.inl rfl) rfl) (DL.wo_some (DL.wb_of (DL.we_var 4 rfl (Or.inl rfl) rfl))) (DL.wo_some (DL.wb_of (DL.we_bin (DL.wb_of (DL.we_var 4 rfl (Or.inl rfl) rfl)) (DL.wb_of (DL.we_var 8 rfl (Or.inl rfl) rfl)) (DL.bin_add)))) (DL.smallE (by omega)))) (DL.bin_adds ?_)) (DL.small (by simp only [List.length_map]; omega)) (DL.wss_nil2 rfl (DL.Wk.mk (DL.WkO.keep ?_ (DL.WkO.nil)) (DL.WkS.keep (rfl) (DL.WkS.keep (rfl) (DL.WkS.keep (rfl) (DL.WkS.keep (rfl) (DL.WkS.keep (rfl) (DL.WkS.keep (rfl) (DL.WkS.keep (rfl) (DL.WkS.drop (DL.WkS.drop (DL.WkS.drop (DL.WkS.drop (DL.WkS.nil)))))))))))))) (rfl) (rfl) (rfl) (rfl) (rfl))) (rfl) (rfl) (rfl))) (rfl) (rfl) (rfl)))))
    · show 0 < 6 - rAt row 5 % 6
      omega
    · show _ + 1 ≤ _
      exact smallE (by omega)
    · rw [str_app_len]
      show _ + 1 + _ ≤ _
      exact smallE (by omega)
    · rw [List.map_append, List.map_append]; rfl
  · show _ + 1 ≤ _
    exact smallE (by omega)
  · rename_i hc2 hc
    have hc : rAt row 9 / 78 % 2 = 0 := of_decide_eq_true hc
    have hx : rAt row 9 % 3 = 0 ∧ ((nameK row 0).length : Int) < 6 := by simpa using hc2
    refine (DL.wss_cons (DL.ws_setIx2 0 (DL.we_tup (DL.wa_cons (DL.we_ixO 0 (DL.we_var 6 rfl (Or.inl rfl) rfl) (rfl) (DL.wb_of (DL.we_int)) (rfl) (fun _ _ => rfl)) (DL.wa_cons (DL.we_ixO 0 (DL.we_var 6 rfl (Or.inl rfl) rfl) (rfl) (DL.wb_of (DL.we_int)) (rfl) (fun _ _ => rfl)) (DL.wa_nil) (rfl)) (rfl)) (Nat.le_of_ble_eq_true rfl)) (DL.we_var 6 rfl (Or.inl rfl) rfl) (rfl) (DL.wb_of (DL.we_int)) (rfl) (DL.we_var 6 rfl (Or.inl rfl) rfl) (DL.wb_of (DL.we_int)) (rfl) (DL.wss_nil (DL.Wk.refl _) (DL.wss_nil2 rfl (DL.Wk.mk (DL.WkO.keep ?_ (DL.WkO.nil)) (DL.WkS.keep (rfl) (DL.WkS.keep (rfl) (DL.WkS.keep (rfl) (DL.WkS.keep (rfl) (DL.WkS.keep (rfl) (DL.WkS.keep (rfl) (DL.WkS.keep (rfl) (DL.WkS.drop (DL.WkS.drop (DL.WkS.drop (DL.WkS.drop (DL.WkS.nil))))))))))))))) (rfl) (rfl) (rfl) (rfl) (rfl) (rfl) (rfl) (rfl) (by intros; first | rfl | exact DL.RepL.nil | exact DL.RepL.cons DL.Rep.non DL.RepL.nil) (by intros; first | rfl | exact DL.RepL.nil | exact DL.RepL.cons DL.Rep.non DL.RepL.nil)))
    unfold namesOf names0
    rw [if_pos hx, if_pos hc]
    rfl
  · rename_i hc2 hc
    have hc : ¬ rAt row 9 / 78 % 2 = 0 := of_decide_eq_false hc
    have hx : rAt row 9 % 3 = 0 ∧ ((nameK row 0).length : Int) < 6 := by simpa using hc2
    refine (DL.wss_nil (DL.Wk.refl _) (DL.wss_nil2 rfl (DL.Wk.mk (DL.WkO.keep ?_ (DL.WkO.nil)) (DL.WkS.keep (rfl) (DL.WkS.keep (rfl) (DL.WkS.keep (rfl) (DL.WkS.keep (rfl) (DL.WkS.keep (rfl) (DL.WkS.keep (rfl) (DL.WkS.keep (rfl) (DL.WkS.drop (DL.WkS.drop (DL.WkS.drop (DL.WkS.drop (DL.WkS.nil)))))))))))))))
    unfold namesOf names0
    rw [if_pos hx, if_neg hc]
    rfl
  · rename_i hc2
    have hx : ¬ (rAt row 9 % 3 = 0 ∧ ((nameK row 0).length : Int) < 6) := by simpa using hc2
    unfold namesOf names0
    rw [if_neg hx]
end
end DL
/-! V66p: the law's books. -/
namespace DL
open PySem PySem.Spec PyProof.Rows L2
def digStp (st : List Int × Int) (_v : Int) : List Int × Int := (st.1 ++ [1 + st.2 % 4], st.2 / 4)
def digFold (n : Int) (vs : List Int) : List Int × Int := vs.foldl digStp ([], n)
theorem digFold_app (n : Int) (vs : List Int) (v : Int) : digFold n (vs ++ [v]) = digStp (digFold n vs) v := by simp [digFold]
theorem digFold_len (n : Int) : ∀ vs : List Int, (digFold n vs).1.length = vs.length := by
  refine rev_ind rfl (fun vs v ih => ?_)
  rw [digFold_app]
  unfold digStp
  simp [ih]
@[irreducible] def chOf (n : Int) : List Int := (digFold (n / 5) (rgL 0 (1 + n % 5))).1
def chsOf (row : List Int) (k : Int) : List (List Int) := (rgL 0 (1 + rAt row (12 + k) % 3)).map fun j => chOf (rAt row (18 + 3 * k + j))
def bkOf (row : List Int) (k : Int) : Bk := ((atI (namesOf row) k).getD "", chsOf row k)
@[irreducible] def manyOf (row : List Int) : Int := if rAt row 10 % 16 = 6 then 6 else 1 + rAt row 11 % 4
def booksOfRow (row : List Int) : List Bk :=
  if rAt row 10 % 16 = 5 then [((atI (namesOf row) 0).getD "", (rgL 0 12).map fun _ => List.replicate 30 1), ((atI (namesOf row) 1).getD "", [List.replicate 10 4])]
  else (rgL 0 (manyOf row)).map (bkOf row)
@[irreducible] def booksOf (cell salt : Int) : List Bk := booksOfRow (rowOf cell 60 salt)
theorem rowOf_len (cell salt : Int) : (rowOf cell 60 salt).length = 60 := by
  unfold rowOf
  rw [rowFold_len]
  simp [rgL]
theorem names_len (row : List Int) : (namesOf row).length = 6 := by
  unfold namesOf names0
  split
  · split <;> simp [rgL]
  · simp [rgL]
theorem names_at (row : List Int) {k : Int} (h0 : 0 ≤ k) (h1 : k < 6) : atI ((namesOf row).map D.str) k = some (.str ((atI (namesOf row) k).getD "")) := by
  have e : k < ((namesOf row).length : Int) := by rw [names_len]; exact h1
  rw [atI_nn h0 (by rw [List.length_map]; exact e), atI_nn h0 e]
  simp
inductive booksR : List D → D → Prop
  | mk (cell salt : Int) (h : 0 ≤ salt ∧ salt ≤ 100) : booksR [.int cell, .int salt] (.lst ((booksOf cell salt).map bkL))
theorem sc62 : FnScope ["cell", "salt", "row", "names", "many", "books", "k", "chapters", "j", "number", "size", "v"] ["cell", "salt"] (defScope (top 62)) := (⟨rfl, rfl, rfl, by decide +kernel, rfl, by decide +kernel, by decide +kernel⟩)
section
variable {P : Program} {w : World} {K : PySem.W.Frag} {mg : Str → Option Value} {base : Heap} {f CL C : Addr} {fd : FuncData} (G : G66 mg)
include G
theorem ok_books (F : FD K "_law_books" "_law_books" (top 62) f fd) (k1 : Kn P w K mg base "_law_row" 1 [] (spR K rowR)) (k2 : Kn P w K mg base "_law_names" 1 [] (spR K namesR)) : FnOk P w K mg base CX0 2 f fd ["cell", "salt"] (spR K booksR) := by
  have hN := sc62.nd
  refine fn_okR F sc62 (fun ds d h => by cases h <;> rfl) fun cdv A outer s H E hr ds d hR => ?_
  obtain ⟨cell, salt, h⟩ := hR
  have hlen := rowOf_len cell salt
  have r10 := rAt_nn (row := rowOf cell 60 salt) (i := 10) (by decide) (by omega)
  have r11 := rAt_nn (row := rowOf cell 60 salt) (i := 11) (by decide) (by omega)
  have n0 := names_at (rowOf cell 60 salt) (k := 0) (by decide) (by decide)
  have n1 := names_at (rowOf cell 60 salt) (k := 1) (by decide) (by decide)
  refine (DL.wss_cons (DL.ws_asg (DL.we_call k1 hr (DL.wa_cons (DL.we_var 0 rfl (Or.inl rfl) rfl) (DL.wa_cons (DL.we_int) (DL.wa_cons (DL.we_var 1 rfl (Or.inl rfl) rfl) (DL.wa_nil) (rfl)) (rfl)) (rfl)) (DL.rowR.mk _ _ _ (by decide +kernel) h) (rfl) (rfl) (rfl) (rfl)) (DL.wg_name 2 hN (rfl) (Or.inl rfl) (Or.inl rfl)) (DL.wss_cons (DL.ws_asg (DL.we_call k2 hr (DL.wa_cons (DL.we_var 2 rfl (Or.inl rfl) rfl) (DL.wa_cons (DL.we_int) (DL.wa_nil) (rfl)) (rfl)) (DL.namesR.mk _ (by omega)) (rfl) (rfl) (rfl) (rfl)) (DL.wg_name 3 hN (rfl) (Or.inl rfl) (Or.inl rfl)) (DL.wss_cons (DL.ws_if (DL.wt_cmp (DL.wb_of (DL.we_bin (DL.wb_of (DL.we_sub' (DL.we_var 2 rfl (Or.inl rfl) rfl) (DL.wb_of (DL.we_int)) (DL.sub_l (r10)) (fun _ _ => rfl))) (DL.wb_of (DL.we_int)) (DL.bin_mod (by decide +kernel)))) (DL.wb_of (DL.we_int)) (DL.cmp_eqI) (rfl)) (fun _ => ?_) (fun _ => ?_))) (rfl) (rfl) (rfl))) (rfl) (rfl) (rfl)))
  · rename_i hc
    have hc : rAt (rowOf cell 60 salt) 10 % 16 = 5 := of_decide_eq_true hc
    refine (DL.wss_cons (DL.ws_ret (DL.we_wn (DL.wn_lst (DL.wa_cons (DL.we_tup (DL.wa_cons (DL.we_sub' (DL.we_var 3 rfl (Or.inl rfl) rfl) (DL.wb_of (DL.we_int)) (DL.sub_l (n0)) (fun _ _ => rfl)) (DL.wa_cons (DL.we_wn (wn_lc (l := rgL 0 12) (enc := D.int) (f := fun _ => chL (List.replicate 30 1)) (own := [("k", 6)]) (DL.wio_wi (DL.wi_rg1 (DL.wb_of (DL.we_int)) (by decide +kernel) (by decide +kernel) (G.free _ (by decide +kernel)) (rfl) (rfl))) (by decide +kernel) (rfl) (fun _ _ => (DL.elt_mk _ (fun _ _ _ _ _ => (DL.wg_name 6 hN (rfl) (Or.inl rfl) (Or.inr rfl))) (rfl) (fun _ _ _ _ _ => (DL.we_wn (DL.wn_rep (DL.wn_lst (DL.wa_cons (DL.we_int) (DL.wa_nil) (rfl)) (by decide +kernel)) (DL.wb_of (DL.we_int)) (by decide +kernel) (by decide +kernel) (by decide +kernel)))) (rfl))) hN)) (DL.wa_nil) (rfl)) (rfl)) (Nat.le_of_ble_eq_true rfl)) (DL.wa_cons (DL.we_tup (DL.wa_cons (DL.we_sub' (DL.we_var 3 rfl (Or.inl rfl) rfl) (DL.wb_of (DL.we_int)) (DL.sub_l (n1)) (fun _ _ => rfl)) (DL.wa_cons (DL.we_wn (DL.wn_lst (DL.wa_cons (DL.we_wn (DL.wn_rep (DL.wn_lst (DL.wa_cons (DL.we_int) (DL.wa_nil) (rfl)) (by decide +kernel)) (DL.wb_of (DL.we_int)) (by decide +kernel) (by decide +kernel) (by decide +kernel))) (DL.wa_nil) (rfl)) (by decide +kernel))) (DL.wa_nil) (rfl)) (rfl)) (Nat.le_of_ble_eq_true rfl)) (DL.wa_nil) (rfl)) (rfl)) (Nat.le_of_ble_eq_true rfl))) ?_))
    unfold booksOf booksOfRow
    rw [if_pos hc]
    rfl
  · rename_i hc
    have hc : ¬ rAt (rowOf cell 60 salt) 10 % 16 = 5 := of_decide_eq_false hc
    have hb : booksOf cell salt = (rgL 0 (manyOf (rowOf cell 60 salt))).map (bkOf (rowOf cell 60 salt)) := by
      unfold booksOf booksOfRow
      rw [if_neg hc]
    rw [hb]
    generalize hrow : rowOf cell 60 salt = row at *
    have hm : 0 ≤ manyOf row ∧ manyOf row ≤ 6 := by
      unfold manyOf
      split
      · decide
      · omega
    refine (DL.wss_nil (DL.Wk.refl _) (DL.wss_cons (DL.ws_asg (DL.we_bin (DL.wb_of (DL.we_int)) (DL.wb_of (DL.we_bin (DL.wb_of (DL.we_sub' (DL.we_var 2 rfl (Or.inl rfl) rfl) (DL.wb_of (DL.we_int)) (DL.sub_l (r11)) (fun _ _ => rfl))) (DL.wb_of (DL.we_int)) (DL.bin_mod (by decide +kernel)))) (DL.bin_add)) (DL.wg_name 4 hN (rfl) (Or.inl rfl) (Or.inl rfl)) (DL.wss_cons (ws_ifJ ⟨[], [some (.int cell), some (.int salt), some (.lst (row.map D.int)), some (.lst ((namesOf row).map D.str)), some (.int (manyOf row)), none, none, none, none, none, none, none]⟩ (DL.wt_cmp (DL.wb_of (DL.we_bin (DL.wb_of (DL.we_sub' (DL.we_var 2 rfl (Or.inl rfl) rfl) (DL.wb_of (DL.we_int)) (DL.sub_l (r10)) (fun _ _ => rfl))) (DL.wb_of (DL.we_int)) (DL.bin_mod (by decide +kernel)))) (DL.wb_of (DL.we_int)) (DL.cmp_eqI) (rfl)) (fun _ => (DL.wss_cons (DL.ws_asg (DL.we_int) (DL.wg_name 4 hN (rfl) (Or.inl rfl) (Or.inl rfl)) (DL.wss_nil2 rfl (DL.Wk.mk (DL.WkO.nil) (DL.WkS.keep (rfl) (DL.WkS.keep (rfl) (DL.WkS.keep (rfl) (DL.WkS.keep (rfl) (DL.WkS.keep ?_ (DL.WkS.drop (DL.WkS.drop (DL.WkS.drop (DL.WkS.drop (DL.WkS.drop (DL.WkS.drop (DL.WkS.drop (DL.WkS.nil))))))))))))))) (rfl) (rfl) (rfl)))) (fun _ => (DL.wss_nil2 rfl (DL.Wk.mk (DL.WkO.nil) (DL.WkS.keep (rfl) (DL.WkS.keep (rfl) (DL.WkS.keep (rfl) (DL.WkS.keep (rfl) (DL.WkS.keep ?_ (DL.WkS.drop (DL.WkS.drop (DL.WkS.drop (DL.WkS.drop (DL.WkS.drop (DL.WkS.drop (DL.WkS.drop (DL.WkS.nil)))))))))))))))) (DL.wss_cons (DL.ws_asgN 5 (DL.wn_lst (DL.wa_nil) (by decide +kernel)) (fun p0 => (DL.wss_cons (ws_for (l := rgL 0 (manyOf row)) (enc := D.int) (fun pre => ⟨[⟨p0, true, .lst ((pre.map (bkOf row)).map bkL)⟩], [some (.int cell), some (.int salt), some (.lst (row.map D.int)), some (.lst ((namesOf row).map D.str)), some (.int (manyOf row)), some (.ref p0), none, none, none, none, none, none]⟩) (DL.wi_rg1 (DL.wb_of (DL.we_var 4 rfl (Or.inl rfl) rfl)) (by omega) (by omega) (G.free _ (by decide +kernel)) (rfl) (rfl)) (DL.Wk.mk (DL.WkO.keep (rfl) (DL.WkO.nil)) (DL.WkS.keep (rfl) (DL.WkS.keep (rfl) (DL.WkS.keep (rfl) (DL.WkS.keep (rfl) (DL.WkS.keep (rfl) (DL.WkS.keep (rfl) (DL.WkS.drop (DL.WkS.drop (DL.WkS.drop (DL.WkS.drop (DL.WkS.drop (DL.WkS.drop (DL.WkS.nil)))))))))))))) ?_ (DL.wss_cons (DL.ws_retF 0 (DL.we_var 5 rfl (Or.inl rfl) rfl) (rfl) (rfl)))))) hN (rfl) (Or.inl rfl) (rfl) (Or.inl rfl))))) (rfl) (rfl) (rfl))))
    · rename_i hc6
      have hc6 : rAt row 10 % 16 = 6 := of_decide_eq_true hc6
      unfold manyOf
      rw [if_pos hc6]
    · rename_i hc6
      have hc6 : ¬ rAt row 10 % 16 = 6 := of_decide_eq_false hc6
      unfold manyOf
      rw [if_neg hc6]
    · intro pre k post hl
      have hk := rgL_mem hl
      have hpre : pre.length ≤ 6 := by
        have := congrArg List.length hl
        simp [rgL] at this
        omega
      have rk := rAt_nn (row := row) (i := 12 + k) (by omega) (by omega)
      have nk := names_at row (k := k) (by omega) (by omega)
      have h3 := Int.emod_nonneg (rAt row (12 + k)) (by decide : (3 : Int) ≠ 0)
      have h4 := Int.emod_lt_of_pos (rAt row (12 + k)) (by decide : (0 : Int) < 3)
      refine (Exists.intro _ (And.intro (DL.wg_name 6 hN (rfl) (Or.inl rfl) (Or.inl rfl)) (DL.wss_cons (DL.ws_asgN 7 (DL.wn_lst (DL.wa_nil) (by decide +kernel)) (fun p1 => (DL.wss_cons (ws_for (l := rgL 0 (1 + rAt row (12 + k) % 3)) (enc := D.int) (fun pre2 => ⟨[⟨p0, true, .lst ((pre.map (bkOf row)).map bkL)⟩, ⟨p1, true, .lst ((pre2.map fun j => chOf (rAt row (18 + 3 * k + j))).map chL)⟩], [some (.int cell), some (.int salt), some (.lst (row.map D.int)), some (.lst ((namesOf row).map D.str)), some (.int (manyOf row)), some (.ref p0), some (.int k), some (.ref p1), none, none, none, none]⟩) (DL.wi_rg1 (DL.wb_of (DL.we_bin (DL.wb_of (DL.we_int)) (DL.wb_of (DL.we_bin (DL.wb_of (DL.we_sub' (DL.we_var 2 rfl (Or.inl rfl) rfl) (DL.wb_of (DL.we_bin (DL.wb_of (DL.we_int)) (DL.wb_of (DL.we_var 6 rfl (Or.inl rfl) rfl)) (DL.bin_add))) (DL.sub_l (rk)) (fun _ _ => rfl))) (DL.wb_of (DL.we_int)) (DL.bin_mod (by decide +kernel)))) (DL.bin_add))) (by omega) (by omega) (G.free _ (by decide +kernel)) (rfl) (rfl)) (DL.Wk.mk (DL.WkO.keep (rfl) (DL.WkO.keep (rfl) (DL.WkO.nil))) (DL.WkS.keep (rfl) (DL.WkS.keep (rfl) (DL.WkS.keep (rfl) (DL.WkS.keep (rfl) (DL.WkS.keep (rfl) (DL.WkS.keep (rfl) (DL.WkS.keep (rfl) (DL.WkS.keep (rfl) (DL.WkS.drop (DL.WkS.drop (DL.WkS.drop (DL.WkS.drop (DL.WkS.nil)))))))))))))) ?_ (DL.wss_fz 1 (rfl) (DL.FzS.keep (DL.FzS.keep (DL.FzS.keep (DL.FzS.keep (DL.FzS.keep (DL.FzS.keep (DL.FzS.keep (DL.FzS.sub (DL.FzS.keep (DL.FzS.keep (DL.FzS.keep (DL.FzS.keep (DL.FzS.nil))))))))))))) (DL.wss_cons (DL.ws_append 0 (DL.we_var 5 rfl (Or.inl rfl) rfl) (rfl) (DL.we_tup (DL.wa_cons (DL.we_sub' (DL.we_var 3 rfl (Or.inl rfl) rfl) (DL.wb_of (DL.we_var 6 rfl (Or.inl rfl) rfl)) (DL.sub_l (nk)) (fun _ _ => rfl)) (DL.wa_cons (DL.we_var 7 rfl (Or.inl rfl) rfl) (DL.wa_nil) (rfl)) (rfl)) (Nat.le_of_ble_eq_true rfl)) (DL.small (by simp only [List.length_map]; omega)) (DL.wss_nil2 rfl (DL.Wk.mk (DL.WkO.keep ?_ (DL.WkO.nil)) (DL.WkS.keep (rfl) (DL.WkS.keep (rfl) (DL.WkS.keep (rfl) (DL.WkS.keep (rfl) (DL.WkS.keep (rfl) (DL.WkS.keep (rfl) (DL.WkS.drop (DL.WkS.drop (DL.WkS.drop (DL.WkS.drop (DL.WkS.drop (DL.WkS.drop (DL.WkS.nil))))))))))))))) (rfl) (rfl) (rfl) (rfl) (rfl))))))) hN (rfl) (Or.inl rfl) (rfl) (Or.inl rfl)))))
      · intro pre2 j post2 hl2
        have hj := rgL_mem hl2
        have hpre2 : pre2.length ≤ 3 := by
          have := congrArg List.length hl2
          simp [rgL] at this
          omega
        have rj := rAt_nn (row := row) (i := 18 + 3 * k + j) (by omega) (by omega)
        generalize hnum : rAt row (18 + 3 * k + j) = num at *
        have h5 := Int.emod_nonneg num (by decide : (5 : Int) ≠ 0)
        have h6 := Int.emod_lt_of_pos num (by decide : (0 : Int) < 5)
        refine (Exists.intro _ (And.intro (DL.wg_name 8 hN (rfl) (Or.inl rfl) (Or.inl rfl)) (DL.wss_cons (DL.ws_asg (DL.we_sub' (DL.we_var 2 rfl (Or.inl rfl) rfl) (DL.wb_of (DL.we_bin (DL.wb_of (DL.we_bin (DL.wb_of (DL.we_int)) (DL.wb_of (DL.we_bin (DL.wb_of (DL.we_int)) (DL.wb_of (DL.we_var 6 rfl (Or.inl rfl) rfl)) (DL.bin_mul (Or.inl ⟨by omega, by omega⟩)))) (DL.bin_add))) (DL.wb_of (DL.we_var 8 rfl (Or.inl rfl) rfl)) (DL.bin_add))) (DL.sub_l (rj)) (fun _ _ => rfl)) (DL.wg_name 9 hN (rfl) (Or.inl rfl) (Or.inl rfl)) (DL.wss_cons (DL.ws_asg (DL.we_bin (DL.wb_of (DL.we_int)) (DL.wb_of (DL.we_bin (DL.wb_of (DL.we_var 9 rfl (Or.inl rfl) rfl)) (DL.wb_of (DL.we_int)) (DL.bin_mod (by decide +kernel)))) (DL.bin_add)) (DL.wg_name 10 hN (rfl) (Or.inl rfl) (Or.inl rfl)) (DL.wss_cons (DL.ws_asg (DL.we_bin (DL.wb_of (DL.we_var 9 rfl (Or.inl rfl) rfl)) (DL.wb_of (DL.we_int)) (DL.bin_fdiv (⟨by decide, by decide⟩))) (DL.wg_name 9 hN (rfl) (Or.inl rfl) (Or.inl rfl)) (DL.wss_cons (DL.ws_appendN 1 (DL.we_var 7 rfl (Or.inl rfl) rfl) (rfl) (DL.wn_lst (DL.wa_nil) (by decide +kernel)) (DL.small (by simp only [List.length_map]; omega)) (fun p2 => (DL.wss_cons (ws_for (l := rgL 0 (1 + num % 5)) (enc := D.int) (fun pre3 => ⟨[⟨p0, true, .lst ((pre.map (bkOf row)).map bkL)⟩, ⟨p1, true, .lst ((pre2.map fun j => chOf (rAt row (18 + 3 * k + j))).map chL ++ [.ref p2])⟩, ⟨p2, true, chL (digFold (num / 5) pre3).1⟩], [some (.int cell), some (.int salt), some (.lst (row.map D.int)), some (.lst ((namesOf row).map D.str)), some (.int (manyOf row)), some (.ref p0), some (.int k), some (.ref p1), some (.int j), some (.int (digFold (num / 5) pre3).2), some (.int (1 + num % 5)), none]⟩) (DL.wi_rg1 (DL.wb_of (DL.we_var 10 rfl (Or.inl rfl) rfl)) (by omega) (by omega) (G.free _ (by decide +kernel)) (rfl) (rfl)) (DL.Wk.mk (DL.WkO.keep (rfl) (DL.WkO.keep (rfl) (DL.WkO.keep (rfl) (DL.WkO.nil)))) (DL.WkS.keep (rfl) (DL.WkS.keep (rfl) (DL.WkS.keep (rfl) (DL.WkS.keep (rfl) (DL.WkS.keep (rfl) (DL.WkS.keep (rfl) (DL.WkS.keep (rfl) (DL.WkS.keep (rfl) (DL.WkS.keep (rfl) (DL.WkS.keep (rfl) (DL.WkS.keep (rfl) (DL.WkS.drop (DL.WkS.nil)))))))))))))) ?_ (DL.wss_fzL 2 1 (rfl) (rfl) (by decide) (DL.FzL.lastM _ _ _) (DL.wss_nil2 rfl (DL.Wk.mk (DL.WkO.keep (rfl) (DL.WkO.keep ?_ (DL.WkO.nil))) (DL.WkS.keep (rfl) (DL.WkS.keep (rfl) (DL.WkS.keep (rfl) (DL.WkS.keep (rfl) (DL.WkS.keep (rfl) (DL.WkS.keep (rfl) (DL.WkS.keep (rfl) (DL.WkS.keep (rfl) (DL.WkS.drop (DL.WkS.drop (DL.WkS.drop (DL.WkS.drop (DL.WkS.nil))))))))))))))))))) (rfl) (rfl) (rfl) (rfl) (rfl))) (rfl) (rfl) (rfl))) (rfl) (rfl) (rfl))) (rfl) (rfl) (rfl)))))
        · intro pre3 v post3 hl3
          have hpre3 : pre3.length ≤ 5 := by
            have := congrArg List.length hl3
            simp [rgL] at this
            omega
          have hlen3 := digFold_len (num / 5) pre3
          refine (Exists.intro _ (And.intro (DL.wg_name 11 hN (rfl) (Or.inl rfl) (Or.inl rfl)) (DL.wss_cons (DL.ws_append 2 (DL.we_ixO 1 (DL.we_var 7 rfl (Or.inl rfl) rfl) (rfl) (DL.wb_of (DL.we_neg (DL.wb_of (DL.we_int)))) (DL.atI_lastA _ _) (fun _ _ => rfl)) (rfl) (DL.we_bin (DL.wb_of (DL.we_int)) (DL.wb_of (DL.we_bin (DL.wb_of (DL.we_var 9 rfl (Or.inl rfl) rfl)) (DL.wb_of (DL.we_int)) (DL.bin_mod (by decide +kernel)))) (DL.bin_add)) (DL.small (by simp only [List.length_map]; omega)) (DL.wss_cons (DL.ws_asg (DL.we_bin (DL.wb_of (DL.we_var 9 rfl (Or.inl rfl) rfl)) (DL.wb_of (DL.we_int)) (DL.bin_fdiv (⟨by decide, by decide⟩))) (DL.wg_name 9 hN (rfl) (Or.inl rfl) (Or.inl rfl)) (DL.wss_nil2 rfl (DL.Wk.mk (DL.WkO.keep (rfl) (DL.WkO.keep (rfl) (DL.WkO.keep ?_ (DL.WkO.nil)))) (DL.WkS.keep (rfl) (DL.WkS.keep (rfl) (DL.WkS.keep (rfl) (DL.WkS.keep (rfl) (DL.WkS.keep (rfl) (DL.WkS.keep (rfl) (DL.WkS.keep (rfl) (DL.WkS.keep (rfl) (DL.WkS.keep (rfl) (DL.WkS.keep ?_ (DL.WkS.keep (rfl) (DL.WkS.drop (DL.WkS.nil))))))))))))))) (rfl) (rfl) (rfl))) (rfl) (rfl) (rfl) (rfl) (rfl)))))
          · rw [digFold_app]
            show _ = Ob.mk p2 true (.lst (((digFold (num / 5) pre3).1 ++ [1 + (digFold (num / 5) pre3).2 % 4]).map D.int))
            rw [List.map_append]
            rfl
          · rw [digFold_app]; rfl
        · rw [List.map_append (l₁ := pre2)]
          show _ = Ob.mk p1 true (.lst ((_ ++ [chOf (rAt row (18 + 3 * k + j))]).map chL))
          rw [hnum, chOf]
      · rw [List.map_append, List.map_append]
        rfl
end
end DL
/-! V66q: names and books are as they may be. -/
namespace DL
open PySem PySem.Spec PyProof.Rows L2
theorem cutS_tl (s : Str) (lo hi : Option Int) : (cutS s lo hi).cps.toList = (s.cps.toList.drop (HT.sIx s.length 0 lo)).take (HT.sIx s.length s.length hi - HT.sIx s.length 0 lo) := rfl
theorem str_app_tl (a b : Str) : (a ++ b).cps.toList = a.cps.toList ++ b.cps.toList := TL.tl_append a b
theorem str_ext {a b : Str} (h : a.cps.toList = b.cps.toList) : a = b := by
  cases a; cases b
  simpa using h
section
variable {row : List Int} (h : 10 ≤ row.length)
include h
theorem at_rg : 0 ≤ atOf row ∧ atOf row < 6 := ⟨Int.emod_nonneg _ (by decide), Int.emod_lt_of_pos _ (by decide)⟩
theorem nameK_tl (k : Int) : ∃ r : List Nat, (nameK row k).cps.toList = (stemOf row).cps.toList.take (atOf row).toNat ++ ltr (rAt row 7 + stepOf row * k) :: r ∧ r.length ≤ 5 - (atOf row).toNat ∧ ∀ c ∈ r, c ∈ letters.cps.toList := by
  obtain ⟨a0, a1⟩ := at_rg h
  have h5 := (stem_len h).1
  have hm := (stem_len h).2
  have h5' : (stemOf row).cps.toList.length = 5 := by rw [len_le]; exact h5
  refine ⟨(cutS (stemOf row) (some (atOf row)) (some (atOf row + rAt row 6 / (1 + 2 * k) % (6 - atOf row)))).cps.toList, ?_, ?_, ?_⟩
  · unfold nameK
    rw [str_app_tl, str_app_tl, cutS_tl (stemOf row) none, HT.sIx_none]
    have e : HT.sIx (stemOf row).length (stemOf row).length (some (atOf row)) = (atOf row).toNat := by
      have := HT.sIx_nat 5 5 (atOf row).toNat
      rw [Int.toNat_of_nonneg a0] at this
      rw [h5, this]
      omega
    rw [e, List.drop_zero]
    simp
  · have e : HT.sIx (stemOf row).length 0 (some (atOf row)) = (atOf row).toNat := by
      have := HT.sIx_nat 5 0 (atOf row).toNat
      rw [Int.toNat_of_nonneg a0] at this
      rw [h5, this]
      omega
    rw [cutS_tl, e, List.length_take, List.length_drop]
    omega
  · intro c hc
    rw [cutS_tl] at hc
    exact hm c (List.mem_of_mem_drop (List.mem_of_mem_take hc))
theorem take_len : ((stemOf row).cps.toList.take (atOf row).toNat).length = (atOf row).toNat := by
  obtain ⟨a0, a1⟩ := at_rg h
  have h5 := (stem_len h).1
  rw [List.length_take, len_le, h5]
  omega
/-- the letter at the place -/
theorem nameK_at (k : Int) : (nameK row k).cps.toList[(atOf row).toNat]? = some (ltr (rAt row 7 + stepOf row * k)) := by
  obtain ⟨r, e, _⟩ := nameK_tl h k
  rw [e]
  have := take_len h
  rw [List.getElem?_append_right (by omega), this]
  simp
theorem nameX_at : (nameX row).cps.toList[(atOf row).toNat]? = some (ltr (rAt row 7 + stepOf row * 0)) := by
  have e := nameK_at h 0
  unfold nameX
  rw [str_app_tl, List.getElem?_append_left (List.getElem?_eq_some_iff.mp e).1]
  exact e
theorem step_in : stepOf row = 7 ∨ stepOf row = 19 ∨ stepOf row = 3 ∨ stepOf row = 23 := by
  have h1 := Int.emod_nonneg (rAt row 8) (by decide : (4 : Int) ≠ 0)
  have h2 := Int.emod_lt_of_pos (rAt row 8) (by decide : (0 : Int) < 4)
  unfold stepOf
  rcases (by omega : rAt row 8 % 4 = 0 ∨ rAt row 8 % 4 = 1 ∨ rAt row 8 % 4 = 2 ∨ rAt row 8 % 4 = 3) with e | e | e | e <;> rw [e]
  · exact .inl rfl
  · exact .inr (.inl rfl)
  · exact .inr (.inr (.inl rfl))
  · exact .inr (.inr (.inr rfl))
theorem ltr_ne {i j : Int} (hi : 0 ≤ i ∧ i < 6) (hj : 0 ≤ j ∧ j < 6) (hij : i ≠ j) : ltr (rAt row 7 + stepOf row * i) ≠ ltr (rAt row 7 + stepOf row * j) := fun z => by
  have e := ltr_inj z
  rcases step_in h with s | s | s | s <;> rw [s] at e <;> omega
theorem nameK_ne {i j : Int} (hi : 0 ≤ i ∧ i < 6) (hj : 0 ≤ j ∧ j < 6) (hij : i ≠ j) : nameK row i ≠ nameK row j := fun z => by
  have e1 := nameK_at h i
  rw [z, nameK_at h j] at e1
  exact ltr_ne h hi hj hij (Option.some.inj e1).symm
theorem nameX_ne {j : Int} (hj : 0 ≤ j ∧ j < 6) : nameX row ≠ nameK row j := fun z => by
  by_cases e : j = 0
  · subst e
    have this : (nameX row).cps.toList.length = (nameK row 0).cps.toList.length := by rw [z]
    unfold nameX at this
    rw [str_app_tl, List.length_append] at this
    simp at this
  · have e1 := nameX_at h
    rw [z, nameK_at h j] at e1
    exact ltr_ne h ⟨Int.le_refl 0, by decide⟩ hj (fun z => e z.symm) (Option.some.inj e1).symm
theorem nameK_ok (k : Int) : okName (nameK row k) := by
  obtain ⟨r, e, hr, hm⟩ := nameK_tl h k
  obtain ⟨a0, a1⟩ := at_rg h
  have ht := take_len h
  have hl : (nameK row k).length = (atOf row).toNat + (r.length + 1) := by rw [← len_le, e, List.length_append, List.length_cons, ht]
  refine ⟨by omega, by omega, fun c hc => ?_⟩
  rw [e] at hc
  rcases List.mem_append.mp hc with z | z
  · exact (stem_len h).2 c (List.mem_of_mem_take z)
  · rcases List.mem_cons.mp z with y | y
    · rw [y]; exact ltr_mem _
    · exact hm c y
theorem nameX_ok (hx : ((nameK row 0).length : Int) < 6) : okName (nameX row) := by
  obtain ⟨a, b, c⟩ := nameK_ok h 0
  have hl : (nameX row).length = (nameK row 0).length + 1 := by
    unfold nameX
    rw [str_app_len]
    rfl
  refine ⟨by omega, by omega, fun x hx => ?_⟩
  unfold nameX at hx
  rw [str_app_tl] at hx
  rcases List.mem_append.mp hx with z | z
  · exact c x z
  · simp at z
    rw [z]
    exact ltr_mem _
theorem names_list : names0 row = [nameK row 0, nameK row 1, nameK row 2, nameK row 3, nameK row 4, nameK row 5] := rfl
theorem names_ok : (namesOf row).Nodup ∧ ∀ s ∈ namesOf row, okName s := by
  have ne := fun (i j : Int) (hi : 0 ≤ i ∧ i < 6) (hj : 0 ≤ j ∧ j < 6) (hij : i ≠ j) => nameK_ne h hi hj hij
  have nx := fun (j : Int) (hj : 0 ≤ j ∧ j < 6) => nameX_ne h hj
  have nx' := fun (j : Int) (hj : 0 ≤ j ∧ j < 6) => (nameX_ne h hj).symm
  have ok := nameK_ok h
  unfold namesOf
  rw [names_list h]
  split
  · rename_i hc
    have okx := nameX_ok h hc.2
    split
    · show [nameX row, nameK row 0, nameK row 2, nameK row 3, nameK row 4, nameK row 5].Nodup ∧ _
      constructor
      · simp [ne 0 2, ne 0 3, ne 0 4, ne 0 5, ne 2 3, ne 2 4, ne 2 5, ne 3 4, ne 3 5, ne 4 5, nx 0, nx 2, nx 3, nx 4, nx 5]
      · intro s hs
        rcases (by simpa using hs : s = nameX row ∨ s = nameK row 0 ∨ s = nameK row 2 ∨ s = nameK row 3 ∨ s = nameK row 4 ∨ s = nameK row 5) with z | z | z | z | z | z <;> rw [z] <;> first | exact okx | exact ok _
    · show [nameK row 0, nameX row, nameK row 2, nameK row 3, nameK row 4, nameK row 5].Nodup ∧ _
      constructor
      · simp [ne 0 2, ne 0 3, ne 0 4, ne 0 5, ne 2 3, ne 2 4, ne 2 5, ne 3 4, ne 3 5, ne 4 5, nx' 0, nx 2, nx 3, nx 4, nx 5]
      · intro s hs
        rcases (by simpa using hs : s = nameK row 0 ∨ s = nameX row ∨ s = nameK row 2 ∨ s = nameK row 3 ∨ s = nameK row 4 ∨ s = nameK row 5) with z | z | z | z | z | z <;> rw [z] <;> first | exact okx | exact ok _
  · constructor
    · simp [ne 0 1, ne 0 2, ne 0 3, ne 0 4, ne 0 5, ne 1 2, ne 1 3, ne 1 4, ne 1 5, ne 2 3, ne 2 4, ne 2 5, ne 3 4, ne 3 5, ne 4 5]
    · intro s hs
      rcases (by simpa using hs : s = nameK row 0 ∨ s = nameK row 1 ∨ s = nameK row 2 ∨ s = nameK row 3 ∨ s = nameK row 4 ∨ s = nameK row 5) with z | z | z | z | z | z <;> rw [z] <;> exact ok _
end
/-! ### books -/
theorem names_take (row : List Int) {m : Int} (h0 : 0 ≤ m) (h1 : m ≤ 6) : (rgL 0 m).map (fun k => (atI (namesOf row) k).getD "") = (namesOf row).take m.toNat := by
  refine List.ext_getElem? fun i => ?_
  have hl := names_len row
  unfold rgL
  rw [List.map_map, List.getElem?_map, List.getElem?_take]
  by_cases hi : i < m.toNat
  · rw [List.getElem?_range (by omega), if_pos hi]
    have e : atI (namesOf row) (0 + (i : Int)) = some ((namesOf row)[i]'(by omega)) := by
      rw [atI_nn (by omega) (by omega)]
      simp
    simp only [Option.map_some, Function.comp]
    rw [e, List.getElem?_eq_getElem (by omega)]
    rfl
  · rw [List.getElem?_eq_none (by rw [List.length_range]; omega), if_neg hi]
    rfl
theorem chOf_ok (n : Int) : 1 ≤ (chOf n).length ∧ (chOf n).length ≤ 5 ∧ ∀ x ∈ chOf n, 1 ≤ x ∧ x ≤ 4 := by
  have h1 := Int.emod_nonneg n (by decide : (5 : Int) ≠ 0)
  have h2 := Int.emod_lt_of_pos n (by decide : (0 : Int) < 5)
  have hl : (chOf n).length = (1 + n % 5).toNat := by
    unfold chOf
    rw [digFold_len]
    simp [rgL]
  refine ⟨by omega, by omega, ?_⟩
  unfold chOf
  have key : ∀ vs : List Int, ∀ x ∈ (digFold (n / 5) vs).1, 1 ≤ x ∧ x ≤ 4 := by
    refine rev_ind (fun x hx => by cases hx) (fun vs v ih x hx => ?_)
    rw [digFold_app] at hx
    unfold digStp at hx
    rcases List.mem_append.mp hx with z | z
    · exact ih x z
    · simp at z
      subst z
      omega
  exact key _
theorem sumI_le {l : List Int} {k : Int} (h : ∀ x ∈ l, x ≤ k) : l.sum ≤ (l.length : Int) * k := by
  induction l with
  | nil => simp
  | cons x l ih =>
    have h1 := h x (by simp)
    have h2 := ih fun y hy => h y (by simp [hy])
    rw [List.sum_cons, List.length_cons]
    have e : ((l.length + 1 : Nat) : Int) * k = (l.length : Int) * k + k := by push_cast; rw [Int.add_mul, Int.one_mul]
    rw [e]
    omega
theorem chSize_le {c : List Int} (h : c.length ≤ 5) (h4 : ∀ x ∈ c, 1 ≤ x ∧ x ≤ 4) : chSize c ≤ 20 := by
  have := sumI_le (l := c) (k := 4) fun x hx => (h4 x hx).2
  unfold chSize
  omega
theorem booksOf_ok (cell salt : Int) : OkBooks (booksOf cell salt) := by
  have hl := rowOf_len cell salt
  obtain ⟨nd, ok⟩ := names_ok (row := rowOf cell 60 salt) (by omega)
  unfold booksOf
  generalize rowOf cell 60 salt = row at *
  have nl := names_len row
  have get : ∀ k : Int, 0 ≤ k → k < 6 → (atI (namesOf row) k).getD "" ∈ namesOf row := fun k a b => by
    rw [atI_nn a (by omega)]
    simp
  unfold booksOfRow
  split
  · have hne : (atI (namesOf row) 0).getD "" ≠ (atI (namesOf row) 1).getD "" := by
      rw [atI_nn (by decide) (by omega), atI_nn (by decide) (by omega)]
      simp only [Option.getD_some]
      intro z
      have := (List.nodup_iff_pairwise_ne.mp nd)
      rw [List.pairwise_iff_getElem] at this
      exact this 0 1 (by omega) (by omega) (by decide) z
    have le1 : ∀ {a b : Nat}, Nat.ble a b = true → a ≤ b := fun h => Nat.le_of_ble_eq_true h
    refine ⟨le1 rfl, le1 rfl, ?_, ?_, ?_, ?_⟩
    · simp [hne]
    · intro b hb
      have rep : ∀ (m : Nat) (v n : Int), n ∈ List.replicate m v → n = v := fun m v n hn => (List.mem_replicate.mp hn).2
      rcases List.mem_cons.mp hb with z | z
      · rw [z]
        refine ⟨ok _ (get 0 (by decide) (by decide)), le1 rfl, le1 rfl, fun c hc => ?_⟩
        obtain ⟨_, _, rfl⟩ := List.mem_map.mp hc
        exact ⟨le1 rfl, le1 rfl, fun n hn => by rw [rep 30 1 n hn]; decide⟩
      · rw [List.mem_singleton.mp z]
        refine ⟨ok _ (get 1 (by decide) (by decide)), le1 rfl, le1 rfl, fun c hc => ?_⟩
        rw [List.mem_singleton.mp hc]
        exact ⟨le1 rfl, le1 rfl, fun n hn => by rw [rep 10 4 n hn]; decide⟩
    · show (13 : Int) ≤ 40
      decide
    · show (400 : Int) ≤ 400
      decide
  · have hm : 1 ≤ manyOf row ∧ manyOf row ≤ 6 := by
      unfold manyOf
      split
      · decide
      · omega
    have hmap : ((rgL 0 (manyOf row)).map (bkOf row)).map (·.1) = (namesOf row).take (manyOf row).toNat := by
      rw [← names_take row (by omega) hm.2, List.map_map]
      rfl
    have hlen : ((rgL 0 (manyOf row)).map (bkOf row)).length = (manyOf row).toNat := by simp [rgL]
    have hch : ∀ k, 1 ≤ (chsOf row k).length ∧ (chsOf row k).length ≤ 3 := fun k => by
      unfold chsOf
      simp [rgL]
      omega
    refine ⟨by omega, by omega, ?_, ?_, ?_, ?_⟩
    · rw [hmap]
      exact nd.sublist (List.take_sublist _ _)
    · intro b hb
      obtain ⟨k, hk, rfl⟩ := List.mem_map.mp hb
      have hk2 : 0 ≤ k ∧ k < manyOf row := by
        unfold rgL at hk
        obtain ⟨i, hi, e⟩ := List.mem_map.mp hk
        rw [List.mem_range] at hi
        omega
      obtain ⟨c1, c2⟩ := hch k
      refine ⟨ok _ (get k hk2.1 (by omega)), c1, Nat.le_trans c2 (by decide), fun c hc => ?_⟩
      obtain ⟨j, _, rfl⟩ := List.mem_map.mp hc
      obtain ⟨a, b, c⟩ := chOf_ok (rAt row (18 + 3 * k + j))
      exact ⟨a, by omega, c⟩
    · have := sumI_le (l := ((rgL 0 (manyOf row)).map (bkOf row)).map bkMany) (k := 3) fun x hx => by
        rw [List.map_map] at hx
        obtain ⟨k, _, rfl⟩ := List.mem_map.mp hx
        show ((chsOf row k).length : Int) ≤ 3
        have := (hch k).2
        omega
      rw [List.length_map, hlen] at this
      omega
    · have := sumI_le (l := ((rgL 0 (manyOf row)).map (bkOf row)).map bkSize) (k := 60) fun x hx => by
        rw [List.map_map] at hx
        obtain ⟨k, _, rfl⟩ := List.mem_map.mp hx
        show ((chsOf row k).map chSize).sum ≤ 60
        have h1 := sumI_le (l := (chsOf row k).map chSize) (k := 20) fun y hy => by
          obtain ⟨c, hc, rfl⟩ := List.mem_map.mp hy
          obtain ⟨j, _, rfl⟩ := List.mem_map.mp hc
          obtain ⟨a, b, c⟩ := chOf_ok (rAt row (18 + 3 * k + j))
          exact chSize_le b c
        rw [List.length_map] at h1
        have := (hch k).2
        omega
      rw [List.length_map, hlen] at this
      omega
end DL
/-! V66r: sizes; threads. -/
namespace DL
open PySem PySem.Spec PyProof.Rows L2
theorem lenV (n : Str) (c : Int) : ∀ (l : List Int) (k : Int), (∀ x ∈ l, 0 ≤ x) → (((enumL k l).flatMap (vsPl n c)).length : Int) = l.sum
  | [], _, _ => rfl
  | x :: l, k, h => by
    have ih := lenV n c l (k + 1) fun y hy => h y (by simp [hy])
    have hx := h x (by simp)
    have e : (vsPl n c (k, x)).length = x.toNat := by simp [vsPl, rgL]
    rw [enumL, List.flatMap_cons, List.length_append, List.sum_cons, e]
    omega
theorem lenC (n : Str) : ∀ (l : List (List Int)) (k : Int), (∀ c ∈ l, ∀ x ∈ c, 0 ≤ x) → (((enumL k l).flatMap (chPl n)).length : Int) = (l.map chSize).sum
  | [], _, _ => rfl
  | c :: l, k, h => by
    have ih := lenC n l (k + 1) fun y hy => h y (by simp [hy])
    have hc := lenV n k c 1 (h c (by simp))
    have e : chPl n (k, c) = (enumL 1 c).flatMap (vsPl n k) := rfl
    rw [enumL, List.flatMap_cons, List.length_append, List.map_cons, List.sum_cons, e]
    have e2 : chSize c = c.sum := rfl
    omega
theorem lenB : ∀ bs : List Bk, (∀ b ∈ bs, ∀ c ∈ b.2, ∀ x ∈ c, 0 ≤ x) → ((allPl bs).length : Int) = (bs.map bkSize).sum
  | [], _ => rfl
  | b :: bs, h => by
    have ih := lenB bs fun y hy => h y (by simp [hy])
    have hb := lenC b.1 b.2 1 (h b (by simp))
    have e : allPl (b :: bs) = bkPl b ++ allPl bs := by simp [allPl]
    have e2 : bkPl b = (enumL 1 b.2).flatMap (chPl b.1) := rfl
    have e3 : bkSize b = (b.2.map chSize).sum := rfl
    rw [e, List.length_append, List.map_cons, List.sum_cons, e2]
    omega
theorem OkBooks.parts {bs : List Bk} (h : OkBooks bs) : ∀ b ∈ bs, ∀ c ∈ b.2, ∀ n ∈ c, (1 : Int) ≤ n ∧ n ≤ 4 := fun b hb c hc => ((h.ok b hb).2.2.2 c hc).2.2
theorem OkBooks.len {bs : List Bk} (h : OkBooks bs) : ((allPl bs).length : Int) = (bs.map bkSize).sum := lenB bs fun b hb c hc x hx => by have := h.parts b hb c hc x hx; omega
theorem OkBooks.places {bs : List Bk} (h : OkBooks bs) : OkPlaces bs := ⟨by have := h.len; have := h.size; omega, h.parts⟩
theorem OkBooks.few {bs : List Bk} (h : OkBooks bs) : Few bs := ⟨by have := h.hi; omega, fun b hb => by have := (h.ok b hb).2.2.1; omega, fun b hb c hc => by have := ((h.ok b hb).2.2.2 c hc).2.1; omega⟩
theorem OkBooks.pos {bs : List Bk} (h : OkBooks bs) : 1 ≤ (allPl bs).length := by
  have hl := h.lo
  match bs, h, hl with
  | b :: bs, h, _ =>
    obtain ⟨_, h1, _, hc⟩ := h.ok b (by simp)
    obtain ⟨n, cs⟩ := b
    match cs, h1, hc with
    | c :: cs, _, hc =>
      obtain ⟨h2, _, hv⟩ := hc c (by simp)
      match c, h2, hv with
      | v :: c, _, hv =>
        have := hv v (by simp)
        have e : (vsPl n 1 (1, v)).length = v.toNat := by simp [vsPl, rgL]
        have : 1 ≤ (vsPl n 1 (1, v)).length := by omega
        simp only [allPl, List.flatMap_cons, bkPl, chPl, enumL, List.length_append]
        omega
/-! ### threads -/
def thIn (size : Int) (st : List Int) (t : Int) : List Int := if t ∉ st ∧ (st.length : Int) < size then st ++ [t] else st
def firstOf (st : List Int) (span low way number : Int) : Int := if way = 1 ∧ st ≠ [] then lastOr st + 1 + number % 3 else low + number % span
def wid : List Int := [1, 3, 9, 60]
def manyTh (span number : Int) : Int := 1 + number / span % rAt wid (number / (60 * span) % 4)
def thRun (size : Int) (st ts : List Int) : List Int := ts.foldl (thIn size) st
def thStp (size span low way : Int) (st : List Int) (number : Int) : List Int := thRun size st (rgL (firstOf st span low way number) (firstOf st span low way number + manyTh span number))
def thFold (size span low way : Int) (row : List Int) : List Int := row.foldl (thStp size span low way) []
@[irreducible] def threadsOf (row : List Int) (size span low way : Int) : List Int :=
  if way = 0 then (rgL 0 size).map (low + ·)
  else thFold size span low way row ++ (rgL 0 (size - ((thFold size span low way row).length : Int))).map (low + 5000 + ·)
theorem thFold_app (size span low way : Int) (row : List Int) (n : Int) : thFold size span low way (row ++ [n]) = thStp size span low way (thFold size span low way row) n := by simp [thFold]
theorem thRun_app (size : Int) (st ts : List Int) (t : Int) : thRun size st (ts ++ [t]) = thIn size (thRun size st ts) t := by simp [thRun]
theorem wid_rg (n : Int) : 1 ≤ rAt wid (n % 4) ∧ rAt wid (n % 4) ≤ 60 := by
  have h1 := Int.emod_nonneg n (by decide : (4 : Int) ≠ 0)
  have h2 := Int.emod_lt_of_pos n (by decide : (0 : Int) < 4)
  rcases (by omega : n % 4 = 0 ∨ n % 4 = 1 ∨ n % 4 = 2 ∨ n % 4 = 3) with e | e | e | e <;> rw [e] <;> decide
theorem wid_at (n : Int) : atI [D.int 1, D.int 3, D.int 9, D.int 60] (n % 4) = some (.int (rAt wid (n % 4))) :=
  atI_map (l := wid) (Int.emod_nonneg n (by decide)) (by have := Int.emod_lt_of_pos n (by decide : (0 : Int) < 4); exact this)
theorem manyTh_rg (span number : Int) : 1 ≤ manyTh span number ∧ manyTh span number ≤ 60 := by
  obtain ⟨h1, h2⟩ := wid_rg (number / (60 * span))
  have h3 := Int.emod_nonneg (number / span) (by omega : rAt wid (number / (60 * span) % 4) ≠ 0)
  have h4 := Int.emod_lt_of_pos (number / span) (by omega : 0 < rAt wid (number / (60 * span) % 4))
  unfold manyTh
  omega
/-- threads as they are when n rows are done -/
structure ThOk (size low : Int) (n : Nat) (st : List Int) : Prop where
  nd : st.Nodup
  len : (st.length : Int) ≤ size
  rg : ∀ t ∈ st, low ≤ t ∧ t ≤ low + 400 + 62 * (n : Int)
theorem firstOf_rg {size low span way number : Int} {n : Nat} {st : List Int} (h : ThOk size low n st) (hs : 1 ≤ span ∧ span ≤ 403) : low ≤ firstOf st span low way number ∧ firstOf st span low way number + 59 ≤ low + 400 + 62 * ((n + 1 : Nat) : Int) := by
  unfold firstOf
  split
  · rename_i hc
    have := h.rg _ (lastOr_mem hc.2)
    omega
  · have h1 := Int.emod_nonneg number (by omega : span ≠ 0)
    have h2 := Int.emod_lt_of_pos number (by omega : 0 < span)
    omega
theorem thIn_ok {size low : Int} {n : Nat} {st : List Int} {t : Int} (h : ThOk size low n st) (ht : low ≤ t ∧ t ≤ low + 400 + 62 * (n : Int)) : ThOk size low n (thIn size st t) := by
  unfold thIn
  split
  · rename_i hc
    refine ⟨?_, by simp; omega, fun x hx => ?_⟩
    · rw [List.nodup_append]
      refine ⟨h.nd, by simp, fun a ha b hb => ?_⟩
      simp at hb
      subst hb
      exact fun z => hc.1 (z ▸ ha)
    · rcases List.mem_append.mp hx with z | z
      · exact h.rg x z
      · simp at z
        subst z
        exact ht
  · exact h
theorem thRun_ok {size low : Int} {n : Nat} {st : List Int} (h : ThOk size low n st) : ∀ ts : List Int, (∀ t ∈ ts, low ≤ t ∧ t ≤ low + 400 + 62 * (n : Int)) → ThOk size low n (thRun size st ts) := by
  refine rev_ind (fun _ => h) (fun ts t ih ht => ?_)
  rw [thRun_app]
  exact thIn_ok (ih fun x hx => ht x (by simp [hx])) (ht t (by simp))
theorem rgL_of_mem {i j x : Int} (h : x ∈ rgL i j) : i ≤ x ∧ x < j := by
  unfold rgL at h
  obtain ⟨k, hk, e⟩ := List.mem_map.mp h
  rw [List.mem_range] at hk
  omega
theorem ThOk.up {size low : Int} {n : Nat} {st : List Int} (h : ThOk size low n st) : ThOk size low (n + 1) st := ⟨h.nd, h.len, fun t ht => by have := h.rg t ht; omega⟩
theorem thFold_ok {size span low way : Int} (hs : 1 ≤ span ∧ span ≤ 403) (h0 : 0 ≤ size) : ∀ row : List Int, ThOk size low row.length (thFold size span low way row) := by
  refine rev_ind ⟨List.nodup_nil, h0, fun t ht => by cases ht⟩ (fun row number ih => ?_)
  rw [thFold_app, List.length_append, List.length_singleton]
  unfold thStp
  refine thRun_ok ih.up _ fun t ht => ?_
  have h1 := rgL_of_mem ht
  have h2 := firstOf_rg (way := way) (number := number) ih hs
  have h3 := manyTh_rg span number
  omega
theorem threadsOf_ok {row : List Int} {size span low way : Int} (hr : row.length ≤ 40) (hs : 1 ≤ span ∧ span ≤ 403) (h0 : 0 ≤ size ∧ size ≤ 400) (hl : 0 ≤ low ∧ low ≤ 4599) :
    OkLs (threadsOf row size span low way) ∧ ((threadsOf row size span low way).length : Int) = size ∧ ∀ t ∈ threadsOf row size span low way, t ≤ 9998 := by
  have add_nd : ∀ (c m : Int), ((rgL 0 m).map (c + ·)).Nodup := fun c m => by
    unfold rgL
    rw [List.map_map, List.nodup_iff_pairwise_ne, List.pairwise_map]
    exact (List.nodup_iff_pairwise_ne.mp List.nodup_range).imp fun {a b} hab z => hab (by simp at z; omega)
  have ok := thFold_ok (way := way) (low := low) hs h0.1 row
  unfold threadsOf
  split
  · have hlen : (((rgL 0 size).map (low + ·)).length : Int) = size := by simp [rgL]; omega
    have hr : ∀ t ∈ (rgL 0 size).map (low + ·), 0 ≤ t ∧ t ≤ 9998 := fun t ht => by
      obtain ⟨x, hx, rfl⟩ := List.mem_map.mp ht
      have := rgL_of_mem hx
      omega
    exact ⟨⟨add_nd low size, fun x hx => by have := hr x hx; omega, by omega⟩, hlen, fun t ht => (hr t ht).2⟩
  · generalize thFold size span low way row = st at *
    have hlen : ((st ++ (rgL 0 (size - (st.length : Int))).map (low + 5000 + ·)).length : Int) = size := by
      have := ok.len
      simp [rgL]
      omega
    have hr2 : ∀ t ∈ st ++ (rgL 0 (size - (st.length : Int))).map (low + 5000 + ·), 0 ≤ t ∧ t ≤ 9998 := fun t ht => by
      rcases List.mem_append.mp ht with z | z
      · have := ok.rg t z
        omega
      · obtain ⟨x, hx, rfl⟩ := List.mem_map.mp z
        have := rgL_of_mem hx
        omega
    refine ⟨⟨?_, fun x hx => by have := hr2 x hx; omega, by omega⟩, hlen, fun t ht => (hr2 t ht).2⟩
    rw [List.nodup_append]
    refine ⟨ok.nd, add_nd _ _, fun a ha b hb z => ?_⟩
    have h1 := ok.rg a ha
    obtain ⟨x, hx, rfl⟩ := List.mem_map.mp hb
    have := rgL_of_mem hx
    omega
end DL
/-! V66s: threads walked. -/
namespace DL
open PySem PySem.Spec PyProof.Rows L2
theorem rgL_len (i j : Int) : (rgL i j).length = (j - i).toNat := by simp [rgL]
inductive threadsR : List D → D → Prop
  | mk (row : List Int) (size span low way : Int) (hr : row.length ≤ 40) (hs : 1 ≤ span ∧ span ≤ 403) (h0 : 0 ≤ size ∧ size ≤ 400) (hl : 0 ≤ low ∧ low ≤ 4599) :
    threadsR [.lst (row.map D.int), .int size, .int span, .int low, .int way] (.lst ((threadsOf row size span low way).map D.int))
theorem sc65 : FnScope ["row", "size", "span", "low", "way", "threads", "taken", "number", "first", "many", "thread", "n", "k"] ["row", "size", "span", "low", "way"] (defScope (top 65)) := (⟨rfl, rfl, rfl, by decide +kernel, rfl, by decide +kernel, by decide +kernel⟩)
section
variable {P : Program} {w : World} {K : PySem.W.Frag} {mg : Str → Option Value} {base : Heap} {f CL C : Addr} {fd : FuncData} (G : G66 mg)
include G
theorem ok_threads (F : FD K "_law_threads" "_law_threads" (top 65) f fd) : FnOk P w K mg base CX0 1 f fd ["row", "size", "span", "low", "way"] (spR K threadsR) := by
  have hN := sc65.nd
  refine fn_okR F sc65 (fun ds d h => by cases h <;> rfl) fun cdv A outer s H E hr ds d hR => ?_
  obtain ⟨row, size, span, low, way, hr40, hs, h0, hl⟩ := hR
  refine (DL.wss_cons (DL.ws_if (DL.wt_cmp (DL.wb_of (DL.we_var 4 rfl (Or.inl rfl) rfl)) (DL.wb_of (DL.we_int)) (DL.cmp_eqI) (rfl)) (fun _ => ?_) (fun _ => ?_)))
  · rename_i hc
    have hc : way = 0 := of_decide_eq_true hc
    refine (DL.wss_cons (DL.ws_ret (DL.we_wn (wn_lcG (rgL 0 size) D.int (low + ·) D.int [("n", 11)] (DL.wio_wi (DL.wi_rg1 (DL.wb_of (DL.we_var 1 rfl (Or.inl rfl) rfl)) (by omega) (by omega) (G.free _ (by decide +kernel)) (rfl) (rfl))) ?_ (rfl) (fun _ _ => (DL.elt_mk _ (fun _ _ _ _ _ => (DL.wg_name 11 hN (rfl) (Or.inl rfl) (Or.inr rfl))) (rfl) (fun _ _ _ _ _ => (DL.we_bin (DL.wb_of (DL.we_var 3 rfl (Or.inr (Or.inl rfl)) rfl)) (DL.wb_of (DL.we_var 11 rfl (Or.inl rfl) rfl)) (DL.bin_add))) (rfl))) hN)) ?_))
    · exact small (by rw [rgL_len]; omega)
    · rw [threadsOf, if_pos hc]
  · rename_i hc
    have hc : ¬ way = 0 := of_decide_eq_false hc
    have hfin : ((thFold size span low way row).length : Int) ≤ size := (thFold_ok (way := way) (low := low) hs h0.1 row).len
    refine (DL.wss_nil (DL.Wk.refl _) (DL.wss_cons (DL.ws_asgN 5 (DL.wn_lst (DL.wa_nil) (by decide +kernel)) (fun p0 => (DL.wss_cons (DL.ws_asgN 6 (DL.wn_dK) (fun p1 => (DL.wss_cons (ws_for (l := row) (enc := D.int) (fun pre => ⟨[⟨p0, true, .lst ((thFold size span low way pre).map D.int)⟩, ⟨p1, true, .dK (takenD (thFold size span low way pre))⟩], [some (.lst (row.map D.int)), some (.int size), some (.int span), some (.int low), some (.int way), some (.ref p0), some (.ref p1), none, none, none, none, none, none]⟩) (DL.wi_list (DL.we_var 0 rfl (Or.inl rfl) rfl)) (DL.Wk.mk (DL.WkO.keep (rfl) (DL.WkO.keep (rfl) (DL.WkO.nil))) (DL.WkS.keep (rfl) (DL.WkS.keep (rfl) (DL.WkS.keep (rfl) (DL.WkS.keep (rfl) (DL.WkS.keep (rfl) (DL.WkS.keep (rfl) (DL.WkS.keep (rfl) (DL.WkS.drop (DL.WkS.drop (DL.WkS.drop (DL.WkS.drop (DL.WkS.drop (DL.WkS.drop (DL.WkS.nil))))))))))))))) ?_ (DL.wss_cons (DL.ws_ret (DL.we_wn (DL.wn_cat (DL.wl_own 0 (DL.we_var 5 rfl (Or.inl rfl) rfl) (rfl)) (DL.wl_wn (wn_lcG (rgL 0 (size - ((thFold size span low way row).map D.int).length)) D.int (low + 5000 + ·) D.int [("k", 12)] (DL.wio_wi (DL.wi_rg1 (DL.wb_of (DL.we_bin (DL.wb_of (DL.we_var 1 rfl (Or.inl rfl) rfl)) (DL.wb_of (DL.we_len (DL.wb_own 0 (DL.we_var 5 rfl (Or.inl rfl) rfl) (rfl)) (DL.len_l) (G.free _ (by decide +kernel)) (rfl) (rfl))) (DL.bin_sub))) (by simp only [List.length_map, List.length_append, List.length_cons, List.length_nil]; omega) (by omega) (G.free _ (by decide +kernel)) (rfl) (rfl))) ?_ (rfl) (fun _ _ => (DL.elt_mk _ (fun _ _ _ _ _ => (DL.wg_name 12 hN (rfl) (Or.inl rfl) (Or.inr rfl))) (rfl) (fun _ _ _ _ _ => (DL.we_bin (DL.wb_of (DL.we_bin (DL.wb_of (DL.we_var 3 rfl (Or.inr (Or.inl rfl)) rfl)) (DL.wb_of (DL.we_int)) (DL.bin_add))) (DL.wb_of (DL.we_var 12 rfl (Or.inl rfl) rfl)) (DL.bin_add))) (rfl))) hN)) ?_)) ?_))))) hN (rfl) (Or.inl rfl) (rfl) (Or.inl rfl)))) hN (rfl) (Or.inl rfl) (rfl) (Or.inl rfl))))
    · intro pre number post hl2
      have hpl : pre.length ≤ 39 := by rw [hl2] at hr40; simp at hr40; omega
      have ok := thFold_ok (way := way) (low := low) hs h0.1 pre
      have hst := thFold_app size span low way pre number
      generalize thFold size span low way pre = st at *
      obtain ⟨f1, f2⟩ := firstOf_rg (way := way) (number := number) ok hs
      obtain ⟨m1, m2⟩ := manyTh_rg span number
      have w1 := wid_rg (number / (60 * span))
      have w2 := wid_at (number / (60 * span))
      have hd := ints_dat st
      have hsh := ints_shaped st
      have hlen := ok.len
      refine (Exists.intro _ (And.intro (DL.wg_name 7 hN (rfl) (Or.inl rfl) (Or.inl rfl)) (DL.wss_cons (DL.ws_asg (DL.we_bin (DL.wb_of (DL.we_var 3 rfl (Or.inr (Or.inl rfl)) rfl)) (DL.wb_of (DL.we_bin (DL.wb_of (DL.we_var 7 rfl (Or.inl rfl) rfl)) (DL.wb_of (DL.we_var 2 rfl (Or.inl rfl) rfl)) (DL.bin_mod (by omega)))) (DL.bin_add)) (DL.wg_name 8 hN (rfl) (Or.inl rfl) (Or.inl rfl)) (DL.wss_cons (ws_ifJ ⟨[⟨p0, true, .lst (st.map D.int)⟩, ⟨p1, true, .dK (takenD st)⟩], [some (.lst (row.map D.int)), some (.int size), some (.int span), some (.int low), some (.int way), some (.ref p0), some (.ref p1), some (.int number), some (.int (firstOf st span low way number)), none, none, none, none]⟩ (DL.wt_w (DL.ww_and (DL.wt_cmp (DL.wb_of (DL.we_var 4 rfl (Or.inl rfl) rfl)) (DL.wb_of (DL.we_int)) (DL.cmp_eqI) (rfl)) (fun _ => (DL.ww_and1 (DL.wt_cmp (DL.wb_own 0 (DL.we_var 5 rfl (Or.inl rfl) rfl) (rfl)) (DL.wb_wn (DL.wn_lst (DL.wa_nil) (by decide +kernel))) (DL.cmp_neNil (hd) (hsh) (hr.units)) (rfl)))))) (fun _ => (DL.wss_cons (DL.ws_asg (DL.we_bin (DL.wb_of (DL.we_bin (DL.wb_of (DL.we_ixO 0 (DL.we_var 5 rfl (Or.inl rfl) rfl) (rfl) (DL.wb_of (DL.we_neg (DL.wb_of (DL.we_int)))) (DL.atI_lastI ?_) (fun _ _ => rfl))) (DL.wb_of (DL.we_int)) (DL.bin_add))) (DL.wb_of (DL.we_bin (DL.wb_of (DL.we_var 7 rfl (Or.inl rfl) rfl)) (DL.wb_of (DL.we_int)) (DL.bin_mod (by decide +kernel)))) (DL.bin_add)) (DL.wg_name 8 hN (rfl) (Or.inl rfl) (Or.inl rfl)) (DL.wss_nil2 rfl (DL.Wk.mk (DL.WkO.keep (rfl) (DL.WkO.keep (rfl) (DL.WkO.nil))) (DL.WkS.keep (rfl) (DL.WkS.keep (rfl) (DL.WkS.keep (rfl) (DL.WkS.keep (rfl) (DL.WkS.keep (rfl) (DL.WkS.keep (rfl) (DL.WkS.keep (rfl) (DL.WkS.keep (rfl) (DL.WkS.keep ?_ (DL.WkS.drop (DL.WkS.drop (DL.WkS.drop (DL.WkS.drop (DL.WkS.nil)))))))))))))))) (rfl) (rfl) (rfl)))) (fun _ => (DL.wss_nil2 rfl (DL.Wk.mk (DL.WkO.keep (rfl) (DL.WkO.keep (rfl) (DL.WkO.nil))) (DL.WkS.keep (rfl) (DL.WkS.keep (rfl) (DL.WkS.keep (rfl) (DL.WkS.keep (rfl) (DL.WkS.keep (rfl) (DL.WkS.keep (rfl) (DL.WkS.keep (rfl) (DL.WkS.keep (rfl) (DL.WkS.keep ?_ (DL.WkS.drop (DL.WkS.drop (DL.WkS.drop (DL.WkS.drop (DL.WkS.nil))))))))))))))))) (DL.wss_cons (DL.ws_asg (DL.we_bin (DL.wb_of (DL.we_int)) (DL.wb_of (DL.we_bin (DL.wb_of (DL.we_bin (DL.wb_of (DL.we_var 7 rfl (Or.inl rfl) rfl)) (DL.wb_of (DL.we_var 2 rfl (Or.inl rfl) rfl)) (DL.bin_fdiv (⟨by omega, by omega⟩)))) (DL.wb_of (DL.we_sub' (DL.we_wn (DL.wn_lst (DL.wa_cons (DL.we_int) (DL.wa_cons (DL.we_int) (DL.wa_cons (DL.we_int) (DL.wa_cons (DL.we_int) (DL.wa_nil) (rfl)) (rfl)) (rfl)) (rfl)) (by decide +kernel))) (DL.wb_of (DL.we_bin (DL.wb_of (DL.we_bin (DL.wb_of (DL.we_var 7 rfl (Or.inl rfl) rfl)) (DL.wb_of (DL.we_bin (DL.wb_of (DL.we_int)) (DL.wb_of (DL.we_var 2 rfl (Or.inl rfl) rfl)) (DL.bin_mul (Or.inl ⟨by omega, by omega⟩)))) (DL.bin_fdiv (⟨by omega, by omega⟩)))) (DL.wb_of (DL.we_int)) (DL.bin_mod (by decide +kernel)))) (DL.sub_l (w2)) (fun _ _ => rfl))) (DL.bin_mod (by omega)))) (DL.bin_add)) (DL.wg_name 9 hN (rfl) (Or.inl rfl) (Or.inl rfl)) (DL.wss_cons (ws_for (l := rgL (firstOf st span low way number) (firstOf st span low way number + manyTh span number)) (enc := D.int) (fun pre2 => ⟨[⟨p0, true, .lst ((thRun size st pre2).map D.int)⟩, ⟨p1, true, .dK (takenD (thRun size st pre2))⟩], [some (.lst (row.map D.int)), some (.int size), some (.int span), some (.int low), some (.int way), some (.ref p0), some (.ref p1), some (.int number), some (.int (firstOf st span low way number)), some (.int (manyTh span number)), none, none, none]⟩) (DL.wi_rg2 (DL.wb_of (DL.we_var 8 rfl (Or.inl rfl) rfl)) (DL.wb_of (DL.we_bin (DL.wb_of (DL.we_var 8 rfl (Or.inl rfl) rfl)) (DL.wb_of (DL.we_var 9 rfl (Or.inl rfl) rfl)) (DL.bin_add))) (by omega) (by omega) (by omega) (by omega) (G.free _ (by decide +kernel)) (rfl) (rfl) (rfl)) (DL.Wk.mk (DL.WkO.keep (rfl) (DL.WkO.keep (rfl) (DL.WkO.nil))) (DL.WkS.keep (rfl) (DL.WkS.keep (rfl) (DL.WkS.keep (rfl) (DL.WkS.keep (rfl) (DL.WkS.keep (rfl) (DL.WkS.keep (rfl) (DL.WkS.keep (rfl) (DL.WkS.keep (rfl) (DL.WkS.keep (rfl) (DL.WkS.keep (rfl) (DL.WkS.drop (DL.WkS.drop (DL.WkS.drop (DL.WkS.nil))))))))))))))) ?_ (DL.wss_nil2 rfl (DL.Wk.mk (DL.WkO.keep ?_ (DL.WkO.keep ?_ (DL.WkO.nil))) (DL.WkS.keep (rfl) (DL.WkS.keep (rfl) (DL.WkS.keep (rfl) (DL.WkS.keep (rfl) (DL.WkS.keep (rfl) (DL.WkS.keep (rfl) (DL.WkS.keep (rfl) (DL.WkS.drop (DL.WkS.drop (DL.WkS.drop (DL.WkS.drop (DL.WkS.drop (DL.WkS.drop (DL.WkS.nil)))))))))))))))))) (rfl) (rfl) (rfl))))) (rfl) (rfl) (rfl)))))
      · rename_i hx
        intro z
        rw [z] at hx
        simp at hx
      · rename_i hx
        have hx2 : way = 1 ∧ st ≠ [] := by simpa using hx
        unfold firstOf
        rw [if_pos hx2]
      · rename_i hx
        have hx2 : ¬ (way = 1 ∧ st ≠ []) := by simpa using hx
        unfold firstOf
        rw [if_neg hx2]
      · intro pre2 t post2 hl3
        have ok2 := thRun_ok ok.up pre2 (fun x hx => by
          have := rgL_of_mem (i := firstOf st span low way number) (j := firstOf st span low way number + manyTh span number) (x := x) (by rw [hl3]; simp [hx])
          omega)
        have hrun := thRun_app size st pre2 t
        generalize thRun size st pre2 = su at *
        have hlen2 := ok2.len
        have hget := taken_get t su
        have htl := taken_len su
        have hnot : (!(getD' (takenD su) (Sum.inl t)).isSome && decide (((su.map D.int).length : Int) < size)) = decide (t ∉ su ∧ (su.length : Int) < size) := by
          rw [hget, List.length_map]
          by_cases q1 : t ∈ su <;> by_cases q2 : (su.length : Int) < size <;> simp [q1, q2]
        refine (Exists.intro _ (And.intro (DL.wg_name 10 hN (rfl) (Or.inl rfl) (Or.inl rfl)) (DL.wss_cons (DL.ws_if (DL.wt_w (DL.ww_and (DL.wt_cmp (DL.wb_of (DL.we_var 10 rfl (Or.inl rfl) rfl)) (DL.wb_own 1 (DL.we_var 6 rfl (Or.inl rfl) rfl) (rfl)) (DL.cmp_ninI (DL.room_u hr)) (rfl)) (fun _ => (DL.ww_and1 (DL.wt_cmp (DL.wb_of (DL.we_len (DL.wb_own 0 (DL.we_var 5 rfl (Or.inl rfl) rfl) (rfl)) (DL.len_l) (G.free _ (by decide +kernel)) (rfl) (rfl))) (DL.wb_of (DL.we_var 1 rfl (Or.inl rfl) rfl)) (DL.cmp_lt) (rfl)))))) (fun _ => ?_) (fun _ => ?_)))))
        · rename_i hx
          rw [hnot] at hx
          have hx2 := of_decide_eq_true hx
          have e1 : thIn size su t = su ++ [t] := by unfold thIn; rw [if_pos hx2]
          refine (DL.wss_cons (DL.ws_putK' 1 (DL.we_var 6 rfl (Or.inl rfl) rfl) (rfl) (DL.wb_of (DL.we_var 10 rfl (Or.inl rfl) rfl)) (rfl) (DL.we_bl) (DL.small (by omega)) (DL.room_u hr) (DL.wss_cons (DL.ws_append 0 (DL.we_var 5 rfl (Or.inl rfl) rfl) (rfl) (DL.we_var 10 rfl (Or.inl rfl) rfl) (DL.small (by simp only [List.length_map]; omega)) (DL.wss_nil (DL.Wk.refl _) (DL.wss_nil2 rfl (DL.Wk.mk (DL.WkO.keep ?_ (DL.WkO.keep ?_ (DL.WkO.nil))) (DL.WkS.keep (rfl) (DL.WkS.keep (rfl) (DL.WkS.keep (rfl) (DL.WkS.keep (rfl) (DL.WkS.keep (rfl) (DL.WkS.keep (rfl) (DL.WkS.keep (rfl) (DL.WkS.keep (rfl) (DL.WkS.keep (rfl) (DL.WkS.keep (rfl) (DL.WkS.drop (DL.WkS.drop (DL.WkS.drop (DL.WkS.nil))))))))))))))))) (rfl) (rfl) (rfl) (rfl) (rfl))) (rfl)))
          · rw [hrun, e1, List.map_append]; rfl
          · rw [hrun, e1, taken_put hx2.1]
        · rename_i hx
          rw [hnot] at hx
          have hx2 := of_decide_eq_false hx
          have e1 : thIn size su t = su := by unfold thIn; rw [if_neg hx2]
          refine (DL.wss_nil (DL.Wk.refl _) (DL.wss_nil2 rfl (DL.Wk.mk (DL.WkO.keep ?_ (DL.WkO.keep ?_ (DL.WkO.nil))) (DL.WkS.keep (rfl) (DL.WkS.keep (rfl) (DL.WkS.keep (rfl) (DL.WkS.keep (rfl) (DL.WkS.keep (rfl) (DL.WkS.keep (rfl) (DL.WkS.keep (rfl) (DL.WkS.keep (rfl) (DL.WkS.keep (rfl) (DL.WkS.keep (rfl) (DL.WkS.drop (DL.WkS.drop (DL.WkS.drop (DL.WkS.nil)))))))))))))))))
          · rw [hrun, e1]
          · rw [hrun, e1]
      · rw [hst]; rfl
      · rw [hst]; rfl
    · exact small (by rw [rgL_len]; omega)
    · rw [List.length_map, List.length_map, List.length_map, rgL_len]; exact smallE (by omega)
    · rw [threadsOf, if_neg hc, List.length_map, List.map_append]
end
end DL
/-! V66t: two editions. -/
namespace DL
open PySem PySem.Spec PyProof.Rows L2
structure Tw where
  bs : List Bk
  fs : List Int
  os : List Bk
  ss : List Int
abbrev twD (t : Tw) : D := .tup [.lst (t.bs.map bkL), .lst (t.fs.map D.int), .lst (t.os.map bkL), .lst (t.ss.map D.int)]
def wayOf (sc : List Int) : Int := cellAt sc 4
@[irreducible] def twBs (sc : List Int) : List Bk := booksOf (cellAt sc 0) 7
@[irreducible] def twOs (sc : List Int) : List Bk := if wayOf sc % 8 = 7 then twBs sc else booksOf (cellAt sc 1) 9
def szOf (bs : List Bk) : Int := (((allPl bs).map plD).length : Int)
def twSpan (sc : List Int) : Int := (if szOf (twOs sc) > szOf (twBs sc) then szOf (twOs sc) else szOf (twBs sc)) + 3
def twLow (sc : List Int) : Int := rAt [0, wayOf sc / 144 % 4600] (wayOf sc / 72 % 2)
@[irreducible] def twFs (sc : List Int) : List Int := threadsOf (rowOf (cellAt sc 2) 40 19) (szOf (twBs sc)) (twSpan sc) (twLow sc) (wayOf sc / 8 % 3)
@[irreducible] def twSs (sc : List Int) : List Int := if wayOf sc % 16 = 15 then twFs sc else threadsOf (rowOf (cellAt sc 3) 40 23) (szOf (twOs sc)) (twSpan sc) (twLow sc) (wayOf sc / 24 % 3)
def twOf (sc : List Int) : Tw := ⟨twBs sc, twFs sc, twOs sc, twSs sc⟩
theorem twBs_ok (sc : List Int) : OkBooks (twBs sc) := by unfold twBs; exact booksOf_ok _ _
theorem twOs_ok (sc : List Int) : OkBooks (twOs sc) := by
  unfold twOs
  split
  · exact twBs_ok sc
  · exact booksOf_ok _ _
theorem row40 (cell salt : Int) : (rowOf cell 40 salt).length = 40 := by
  unfold rowOf
  rw [rowFold_len]
  simp [rgL]
theorem szOf_rg {bs : List Bk} (h : OkBooks bs) : 0 ≤ szOf bs ∧ szOf bs ≤ 400 := by
  unfold szOf
  rw [List.length_map]
  have := h.places.sz
  omega
theorem twSpan_rg (sc : List Int) : 1 ≤ twSpan sc ∧ twSpan sc ≤ 403 := by
  have h1 := szOf_rg (twBs_ok sc)
  have h2 := szOf_rg (twOs_ok sc)
  unfold twSpan
  split <;> omega
theorem low_at (a n : Int) : atI [D.int 0, D.int a] (n % 2) = some (.int (rAt [0, a] (n % 2))) :=
  atI_map (l := [0, a]) (Int.emod_nonneg n (by decide)) (by have := Int.emod_lt_of_pos n (by decide : (0 : Int) < 2); exact this)
theorem twLow_rg (sc : List Int) : 0 ≤ twLow sc ∧ twLow sc ≤ 4599 := by
  have h1 := Int.emod_nonneg (wayOf sc / 72) (by decide : (2 : Int) ≠ 0)
  have h2 := Int.emod_lt_of_pos (wayOf sc / 72) (by decide : (0 : Int) < 2)
  have h3 := Int.emod_nonneg (wayOf sc / 144) (by decide : (4600 : Int) ≠ 0)
  have h4 := Int.emod_lt_of_pos (wayOf sc / 144) (by decide : (0 : Int) < 4600)
  unfold twLow
  rcases (by omega : wayOf sc / 72 % 2 = 0 ∨ wayOf sc / 72 % 2 = 1) with e | e <;> rw [e]
  · show (0 : Int) ≤ 0 ∧ (0 : Int) ≤ 4599
    decide
  · show 0 ≤ wayOf sc / 144 % 4600 ∧ wayOf sc / 144 % 4600 ≤ 4599
    omega
theorem twFs_ok (sc : List Int) : OkLs (twFs sc) ∧ ((twFs sc).length : Int) = szOf (twBs sc) ∧ ∀ t ∈ twFs sc, t ≤ 9998 := by
  unfold twFs
  exact threadsOf_ok (by rw [row40]; decide) (twSpan_rg sc) (szOf_rg (twBs_ok sc)) (twLow_rg sc)
theorem twSs_ok (sc : List Int) : OkLs (twSs sc) ∧ ((twSs sc).length : Int) = szOf (twOs sc) ∧ ∀ t ∈ twSs sc, t ≤ 9998 := by
  unfold twSs
  split
  · rename_i h
    have e : twOs sc = twBs sc := by
      unfold twOs
      rw [if_pos (by omega)]
    rw [e]
    exact twFs_ok sc
  · exact threadsOf_ok (by rw [row40]; decide) (twSpan_rg sc) (szOf_rg (twOs_ok sc)) (twLow_rg sc)
theorem okEd_of {bs : List Bk} {ls : List Int} (hb : OkBooks bs) (hl : OkLs ls) (hn : (ls.length : Int) = szOf bs) : OkEd ⟨bs, ls⟩ :=
  ⟨hb, hb.places, hl.len, by unfold szOf at hn; rw [List.length_map] at hn; show ls.length = (allPl bs).length; omega⟩
inductive twoR : List D → D → Prop
  | mk (sc : List Int) : twoR [.lst (sc.map D.int)] (twD (twOf sc))
theorem sc67 : FnScope ["script", "books", "others", "way", "size", "many", "span", "low", "first", "second"] ["script"] (defScope (top 67)) := (⟨rfl, rfl, rfl, by decide +kernel, rfl, by decide +kernel, by decide +kernel⟩)
section
variable {P : Program} {w : World} {K : PySem.W.Frag} {mg : Str → Option Value} {base : Heap} {f CL C : Addr} {fd : FuncData} (G : G66 mg)
include G
theorem ok_two (F : FD K "_law_two" "_law_two" (top 67) f fd) (k1 : Kn P w K mg base "_law_cell_at" 1 [] (spR K cellAtR)) (k2 : Kn P w K mg base "_law_books" 2 [] (spR K booksR)) (k3 : Kn P w K mg base "_law_spots" 1 [] (spR K spotsR)) (k4 : Kn P w K mg base "_law_row" 1 [] (spR K rowR)) (k5 : Kn P w K mg base "_law_threads" 1 [] (spR K threadsR)) : FnOk P w K mg base CX0 3 f fd ["script"] (spR K twoR) := by
  have hN := sc67.nd
  refine fn_okR F sc67 (fun ds d h => by cases h <;> rfl) fun cdv A outer s H E hr ds d hR => ?_
  obtain ⟨sc⟩ := hR
  have hb := twBs_ok sc
  have ho := twOs_ok sc
  have hlow := low_at (wayOf sc / 144 % 4600) (wayOf sc / 72)
  have z1 := szOf_rg hb
  have z2 := szOf_rg ho
  have hsp := twSpan_rg sc
  have hlw := twLow_rg sc
  have r1 := row40 (cellAt sc 2) 19
  have r2 := row40 (cellAt sc 3) 23
  refine (DL.wss_cons (DL.ws_asg (DL.we_call k2 hr (DL.wa_cons (DL.we_call k1 (L2.Room.mono hr (by omega)) (DL.wa_cons (DL.we_var 0 rfl (Or.inl rfl) rfl) (DL.wa_cons (DL.we_int) (DL.wa_nil) (rfl)) (rfl)) (DL.cellAtR.mk _ _ (by decide +kernel)) (rfl) (rfl) (rfl) (rfl)) (DL.wa_cons (DL.we_int) (DL.wa_nil) (rfl)) (rfl)) (DL.booksR.mk _ _ (by decide +kernel)) (rfl) (rfl) (rfl) (rfl)) (DL.wg_name 1 hN (rfl) (Or.inl rfl) (Or.inl rfl)) (DL.wss_cons (DL.ws_asg (DL.we_call k2 hr (DL.wa_cons (DL.we_call k1 (L2.Room.mono hr (by omega)) (DL.wa_cons (DL.we_var 0 rfl (Or.inl rfl) rfl) (DL.wa_cons (DL.we_int) (DL.wa_nil) (rfl)) (rfl)) (DL.cellAtR.mk _ _ (by decide +kernel)) (rfl) (rfl) (rfl) (rfl)) (DL.wa_cons (DL.we_int) (DL.wa_nil) (rfl)) (rfl)) (DL.booksR.mk _ _ (by decide +kernel)) (rfl) (rfl) (rfl) (rfl)) (DL.wg_name 2 hN (rfl) (Or.inl rfl) (Or.inl rfl)) (DL.wss_cons (DL.ws_asg (DL.we_call k1 (L2.Room.mono hr (by omega)) (DL.wa_cons (DL.we_var 0 rfl (Or.inl rfl) rfl) (DL.wa_cons (DL.we_int) (DL.wa_nil) (rfl)) (rfl)) (DL.cellAtR.mk _ _ (by decide +kernel)) (rfl) (rfl) (rfl) (rfl)) (DL.wg_name 3 hN (rfl) (Or.inl rfl) (Or.inl rfl)) (DL.wss_cons (ws_ifJ ⟨[], [some (.lst (sc.map D.int)), some (.lst ((twBs sc).map bkL)), some (.lst ((twOs sc).map bkL)), some (.int (wayOf sc)), none, none, none, none, none, none]⟩ (DL.wt_cmp (DL.wb_of (DL.we_bin (DL.wb_of (DL.we_var 3 rfl (Or.inl rfl) rfl)) (DL.wb_of (DL.we_int)) (DL.bin_mod (by decide +kernel)))) (DL.wb_of (DL.we_int)) (DL.cmp_eqI) (rfl)) (fun _ => (DL.wss_cons (DL.ws_asg (DL.we_var 1 rfl (Or.inl rfl) rfl) (DL.wg_name 2 hN (rfl) (Or.inl rfl) (Or.inl rfl)) (DL.wss_nil2 rfl (DL.Wk.mk (DL.WkO.nil) (DL.WkS.keep (rfl) (DL.WkS.keep ?_ (DL.WkS.keep ?_ (DL.WkS.keep (rfl) (DL.WkS.drop (DL.WkS.drop (DL.WkS.drop (DL.WkS.drop (DL.WkS.drop (DL.WkS.drop (DL.WkS.nil))))))))))))) (rfl) (rfl) (rfl)))) (fun _ => (DL.wss_nil2 rfl (DL.Wk.mk (DL.WkO.nil) (DL.WkS.keep (rfl) (DL.WkS.keep ?_ (DL.WkS.keep ?_ (DL.WkS.keep (rfl) (DL.WkS.drop (DL.WkS.drop (DL.WkS.drop (DL.WkS.drop (DL.WkS.drop (DL.WkS.drop (DL.WkS.nil)))))))))))))) (DL.wss_cons (DL.ws_asg (DL.we_len (DL.wb_of (DL.we_call k3 (L2.Room.mono hr (by omega)) (DL.wa_cons (DL.we_var 1 rfl (Or.inl rfl) rfl) (DL.wa_nil) (rfl)) (DL.spotsR.mk _ ?_ ?_) (rfl) (rfl) (rfl) (rfl))) (DL.len_l) (G.free _ (by decide +kernel)) (rfl) (rfl)) (DL.wg_name 4 hN (rfl) (Or.inl rfl) (Or.inl rfl)) (DL.wss_cons (DL.ws_asg (DL.we_len (DL.wb_of (DL.we_call k3 (L2.Room.mono hr (by omega)) (DL.wa_cons (DL.we_var 2 rfl (Or.inl rfl) rfl) (DL.wa_nil) (rfl)) (DL.spotsR.mk _ ?_ ?_) (rfl) (rfl) (rfl) (rfl))) (DL.len_l) (G.free _ (by decide +kernel)) (rfl) (rfl)) (DL.wg_name 5 hN (rfl) (Or.inl rfl) (Or.inl rfl)) (DL.wss_cons (DL.ws_asg (DL.we_bin (DL.wb_of (DL.we_max (DL.wb_of (DL.we_var 4 rfl (Or.inl rfl) rfl)) (DL.wb_of (DL.we_var 5 rfl (Or.inl rfl) rfl)) (G.free _ (by decide +kernel)) (rfl) (rfl) (rfl) (rfl) (rfl))) (DL.wb_of (DL.we_int)) (DL.bin_add)) (DL.wg_name 6 hN (rfl) (Or.inl rfl) (Or.inl rfl)) (DL.wss_cons (DL.ws_asg (DL.we_sub' (DL.we_wn (DL.wn_lst (DL.wa_cons (DL.we_int) (DL.wa_cons (DL.we_bin (DL.wb_of (DL.we_bin (DL.wb_of (DL.we_var 3 rfl (Or.inl rfl) rfl)) (DL.wb_of (DL.we_int)) (DL.bin_fdiv (⟨by decide, by decide⟩)))) (DL.wb_of (DL.we_int)) (DL.bin_mod (by decide +kernel))) (DL.wa_nil) (rfl)) (rfl)) (Nat.le_of_ble_eq_true rfl))) (DL.wb_of (DL.we_bin (DL.wb_of (DL.we_bin (DL.wb_of (DL.we_var 3 rfl (Or.inl rfl) rfl)) (DL.wb_of (DL.we_int)) (DL.bin_fdiv (⟨by decide, by decide⟩)))) (DL.wb_of (DL.we_int)) (DL.bin_mod (by decide +kernel)))) (DL.sub_l (hlow)) (fun _ _ => rfl)) (DL.wg_name 7 hN (rfl) (Or.inl rfl) (Or.inl rfl)) (DL.wss_cons (DL.ws_asg (DL.we_call k5 (L2.Room.mono hr (by omega)) (DL.wa_cons (DL.we_call k4 (L2.Room.mono hr (by omega)) (DL.wa_cons (DL.we_call k1 (L2.Room.mono hr (by omega)) (DL.wa_cons (DL.we_var 0 rfl (Or.inl rfl) rfl) (DL.wa_cons (DL.we_int) (DL.wa_nil) (rfl)) (rfl)) (DL.cellAtR.mk _ _ (by decide +kernel)) (rfl) (rfl) (rfl) (rfl)) (DL.wa_cons (DL.we_int) (DL.wa_cons (DL.we_int) (DL.wa_nil) (rfl)) (rfl)) (rfl)) (DL.rowR.mk _ _ _ (by decide +kernel) (by decide +kernel)) (rfl) (rfl) (rfl) (rfl)) (DL.wa_cons (DL.we_var 4 rfl (Or.inl rfl) rfl) (DL.wa_cons (DL.we_var 6 rfl (Or.inl rfl) rfl) (DL.wa_cons (DL.we_var 7 rfl (Or.inl rfl) rfl) (DL.wa_cons (DL.we_bin (DL.wb_of (DL.we_bin (DL.wb_of (DL.we_var 3 rfl (Or.inl rfl) rfl)) (DL.wb_of (DL.we_int)) (DL.bin_fdiv (⟨by decide, by decide⟩)))) (DL.wb_of (DL.we_int)) (DL.bin_mod (by decide +kernel))) (DL.wa_nil) (rfl)) (rfl)) (rfl)) (rfl)) (rfl)) (DL.threadsR.mk _ _ _ _ _ (by omega) hsp z1 hlw) (rfl) (rfl) (rfl) (rfl)) (DL.wg_name 8 hN (rfl) (Or.inl rfl) (Or.inl rfl)) (DL.wss_cons (DL.ws_asg (DL.we_call k5 (L2.Room.mono hr (by omega)) (DL.wa_cons (DL.we_call k4 (L2.Room.mono hr (by omega)) (DL.wa_cons (DL.we_call k1 (L2.Room.mono hr (by omega)) (DL.wa_cons (DL.we_var 0 rfl (Or.inl rfl) rfl) (DL.wa_cons (DL.we_int) (DL.wa_nil) (rfl)) (rfl)) (DL.cellAtR.mk _ _ (by decide +kernel)) (rfl) (rfl) (rfl) (rfl)) (DL.wa_cons (DL.we_int) (DL.wa_cons (DL.we_int) (DL.wa_nil) (rfl)) (rfl)) (rfl)) (DL.rowR.mk _ _ _ (by decide +kernel) (by decide +kernel)) (rfl) (rfl) (rfl) (rfl)) (DL.wa_cons (DL.we_var 5 rfl (Or.inl rfl) rfl) (DL.wa_cons (DL.we_var 6 rfl (Or.inl rfl) rfl) (DL.wa_cons (DL.we_var 7 rfl (Or.inl rfl) rfl) (DL.wa_cons (DL.we_bin (DL.wb_of (DL.we_bin (DL.wb_of (DL.we_var 3 rfl (Or.inl rfl) rfl)) (DL.wb_of (DL.we_int)) (DL.bin_fdiv (⟨by decide, by decide⟩)))) (DL.wb_of (DL.we_int)) (DL.bin_mod (by decide +kernel))) (DL.wa_nil) (rfl)) (rfl)) (rfl)) (rfl)) (rfl)) (DL.threadsR.mk _ _ _ _ _ (by omega) hsp z2 hlw) (rfl) (rfl) (rfl) (rfl)) (DL.wg_name 9 hN (rfl) (Or.inl rfl) (Or.inl rfl)) (DL.wss_cons (ws_ifJ ⟨[], [some (.lst (sc.map D.int)), some (.lst ((twBs sc).map bkL)), some (.lst ((twOs sc).map bkL)), some (.int (wayOf sc)), none, none, none, none, some (.lst ((twFs sc).map D.int)), some (.lst ((twSs sc).map D.int))]⟩ (DL.wt_cmp (DL.wb_of (DL.we_bin (DL.wb_of (DL.we_var 3 rfl (Or.inl rfl) rfl)) (DL.wb_of (DL.we_int)) (DL.bin_mod (by decide +kernel)))) (DL.wb_of (DL.we_int)) (DL.cmp_eqI) (rfl)) (fun _ => (DL.wss_cons (DL.ws_asgN 9 (DL.wn_list (DL.we_var 8 rfl (Or.inl rfl) rfl) (DL.lst_l) (G.free _ (by decide +kernel)) (rfl) (rfl)) (fun p0 => (DL.wss_fz 0 (rfl) (DL.FzS.keep (DL.FzS.keep (DL.FzS.keep (DL.FzS.keep (DL.FzS.keep (DL.FzS.keep (DL.FzS.keep (DL.FzS.keep (DL.FzS.keep (DL.FzS.sub (DL.FzS.nil))))))))))) (DL.wss_nil2 rfl (DL.Wk.mk (DL.WkO.nil) (DL.WkS.keep (rfl) (DL.WkS.keep (rfl) (DL.WkS.keep (rfl) (DL.WkS.keep (rfl) (DL.WkS.drop (DL.WkS.drop (DL.WkS.drop (DL.WkS.drop (DL.WkS.keep ?_ (DL.WkS.keep ?_ (DL.WkS.nil))))))))))))))) hN (rfl) (Or.inl rfl) (rfl) (Or.inl rfl)))) (fun _ => (DL.wss_nil2 rfl (DL.Wk.mk (DL.WkO.nil) (DL.WkS.keep (rfl) (DL.WkS.keep (rfl) (DL.WkS.keep (rfl) (DL.WkS.keep (rfl) (DL.WkS.drop (DL.WkS.drop (DL.WkS.drop (DL.WkS.drop (DL.WkS.keep ?_ (DL.WkS.keep ?_ (DL.WkS.nil)))))))))))))) (DL.wss_cons (DL.ws_ret (DL.we_tup (DL.wa_cons (DL.we_var 1 rfl (Or.inl rfl) rfl) (DL.wa_cons (DL.we_var 8 rfl (Or.inl rfl) rfl) (DL.wa_cons (DL.we_var 2 rfl (Or.inl rfl) rfl) (DL.wa_cons (DL.we_var 9 rfl (Or.inl rfl) rfl) (DL.wa_nil) (rfl)) (rfl)) (rfl)) (rfl)) (Nat.le_of_ble_eq_true rfl)) (rfl))))) (rfl) (rfl) (rfl))) (rfl) (rfl) (rfl))) (rfl) (rfl) (rfl))) (rfl) (rfl) (rfl))) (rfl) (rfl) (rfl))) (rfl) (rfl) (rfl))))) (rfl) (rfl) (rfl))) (rfl) (rfl) (rfl))) (rfl) (rfl) (rfl)))
  · rw [twBs]
  · rename_i hc
    have hc : wayOf sc % 8 = 7 := of_decide_eq_true hc
    rw [twOs, if_pos hc, twBs]
  · rw [twBs]
  · rename_i hc
    have hc : ¬ wayOf sc % 8 = 7 := of_decide_eq_false hc
    rw [twOs, if_neg hc]
  · exact hb.few
  · exact hb.places
  · exact ho.few
  · exact ho.places
  · rw [twFs]; rfl
  · rename_i hc
    have hc : wayOf sc % 16 = 15 := of_decide_eq_true hc
    rw [twSs, if_pos hc, twFs]; rfl
  · rw [twFs]; rfl
  · rename_i hc
    have hc : ¬ wayOf sc % 16 = 15 := of_decide_eq_false hc
    rw [twSs, if_neg hc]; rfl
end
end DL
/-! V66u: divisions. -/
namespace DL
open PySem PySem.Spec PyProof.Rows L2
abbrev Dv := Int × Int × Int × Int
abbrev dvD (q : Dv) : D := .tup [.int q.1, .int q.2.1, .int q.2.2.1, .int q.2.2.2]
def prevOf (c : List Int) (v : Int) : Int := (atI c (v - 1)).getD 0
def dvV1 (b c : Int) (ch : List Int) (V : Int × Int) : List Dv := if 1 < V.2 ∧ (ch.length : Int) < 30 then [(0, b, c, V.1)] else []
def dvV2 (b c : Int) (ch : List Int) (V : Int × Int) : List Dv := if 0 < V.1 ∧ prevOf ch V.1 + V.2 < 5 then [(1, b, c, V.1)] else []
def dvV (b c : Int) (ch : List Int) (V : Int × Int) : List Dv :=
  dvV1 b c ch V ++ dvV2 b c ch V
def nextLen (bk : List (List Int)) (c : Int) : Int := (((atI bk (c + 1)).getD []).length : Int)
def dvE (b : Int) (bk : List (List Int)) (C : Int × List Int) : List Dv := if 1 < (C.2.length : Int) ∧ C.1 + 1 < (bk.length : Int) ∧ nextLen bk C.1 < 30 then [(2, b, C.1, 0)] else []
def dvC (b : Int) (bk : List (List Int)) (C : Int × List Int) : List Dv := (enumL 0 C.2).flatMap (dvV b C.1 C.2) ++ dvE b bk C
def dvB (B : Int × Bk) : List Dv := (enumL 0 B.2.2).flatMap (dvC B.1 B.2.2)
@[irreducible] def divs (bs : List Bk) : List Dv := (enumL 0 bs).flatMap dvB
theorem dvV_len (b c : Int) (ch : List Int) (V : Int × Int) : (dvV b c ch V).length ≤ 2 := by
  unfold dvV dvV1 dvV2
  split <;> split <;> simp
theorem dvE_len (b : Int) (bk : List (List Int)) (C : Int × List Int) : (dvE b bk C).length ≤ 1 := by
  unfold dvE
  split <;> simp
theorem flat_len {α β : Type} {f : α → List β} {k : Nat} {l : List α} (h : ∀ x ∈ l, (f x).length ≤ k) : (l.flatMap f).length ≤ l.length * k := by
  induction l with
  | nil => simp
  | cons x l ih =>
    have h1 := h x (by simp)
    have h2 := ih fun y hy => h y (by simp [hy])
    rw [List.flatMap_cons, List.length_append, List.length_cons, Nat.add_mul]
    omega
theorem dvC_len (b : Int) (bk : List (List Int)) (C : Int × List Int) (h : C.2.length ≤ 30) : (dvC b bk C).length ≤ 61 := by
  have h1 := flat_len (f := dvV b C.1 C.2) (k := 2) (l := enumL 0 C.2) fun x _ => dvV_len b C.1 C.2 x
  rw [enumL_length] at h1
  have h2 := dvE_len b bk C
  unfold dvC
  rw [List.length_append]
  omega
theorem dvB_len (B : Int × Bk) (h : B.2.2.length ≤ 12) (hc : ∀ c ∈ B.2.2, c.length ≤ 30) : (dvB B).length ≤ 732 := by
  have h1 := flat_len (f := dvC B.1 B.2.2) (k := 61) (l := enumL 0 B.2.2) fun x hx => dvC_len B.1 B.2.2 x (hc x.2 (by
    obtain ⟨a, b, e⟩ := List.append_of_mem hx
    obtain ⟨c, d, e2, _⟩ := enumL_split e
    rw [e2]; simp))
  rw [enumL_length] at h1
  unfold dvB
  omega
theorem enumL_mem {τ : Type} {k : Int} {l : List τ} {q : Int × τ} (h : q ∈ enumL k l) : q.2 ∈ l := by
  obtain ⟨a, b, e⟩ := List.append_of_mem h
  obtain ⟨c, d, e2, _⟩ := enumL_split e
  rw [e2]; simp
inductive divsR : List D → D → Prop
  | mk (bs : List Bk) (h : OkBooks bs) : divsR [.lst (bs.map bkL)] (.lst ((divs bs).map dvD))
theorem sc69 : FnScope ["books", "found", "b", "book", "c", "chapter", "v", "parts"] ["books"] (defScope (top 69)) := (⟨rfl, rfl, rfl, by decide +kernel, rfl, by decide +kernel, by decide +kernel⟩)
section
variable {P : Program} {w : World} {K : PySem.W.Frag} {mg : Str → Option Value} {base : Heap} {f CL C : Addr} {fd : FuncData} (G : G66 mg)
include G
theorem ok_copyT (F : FD K "_law_copy" "_law_copy" (top 63) f fd) : FnOk P w K mg base CX0 1 f fd ["books"] (spT K copyR) := by
  have hN := sc63.nd
  refine fn_okT F sc63 (fun ds d h => by cases h <;> rfl) rfl fun cdv A outer s H E hr ds d hR => ?_
  obtain ⟨bs, h1, h2, h3⟩ := hR
  refine (wu_lc (l := bs) (enc := bkL) (f := bkL) (own := [("name", 1), ("chapters", 2)]) (DL.wio_wi (DL.wi_list (DL.we_var 0 rfl (Or.inl rfl) rfl))) (DL.small (by omega)) (rfl) (fun _ _ => (DL.eltT_mk _ (fun _ _ _ _ _ => (DL.wg_tup (DL.wgs_cons (DL.wg_name 1 hN (rfl) (Or.inl rfl) (Or.inr rfl)) (DL.wgs_cons (DL.wg_name 2 hN (rfl) (Or.inl rfl) (Or.inr rfl)) (DL.wgs_nil) (rfl)) (rfl)) (rfl) (rfl) (rfl))) (rfl) (fun _ _ _ _ _ => (DL.wu_tup2 (DL.we_var 1 rfl (Or.inl rfl) rfl) (rfl) ?_ (rfl) (rfl))) (rfl))) hN)
  rename_i b hb _ _ _ _ _
  have hb1 := h2 b hb
  refine (wu_lc (l := b.2) (enc := chL) (f := chL) (own := [("chapter", 3)]) (DL.wio_wi (DL.wi_list (DL.we_var 2 rfl (Or.inl rfl) rfl))) (DL.small (by omega)) (rfl) (fun _ _ => (DL.eltT_mk _ (fun _ _ _ _ _ => (DL.wg_name 3 hN (rfl) (Or.inl rfl) (Or.inr rfl))) (rfl) (fun _ _ _ _ _ => (DL.wu_wn (DL.wn_list (DL.we_var 3 rfl (Or.inl rfl) rfl) (DL.lst_l) (G.free _ (by decide +kernel)) (rfl) (rfl)) ?_)) (rfl))) hN)
  rw [List.all_map, List.all_eq_true]
  intro _ _
  rfl
theorem ok_divs (F : FD K "_law_divisions" "_law_divisions" (top 69) f fd) : FnOk P w K mg base CX0 1 f fd ["books"] (spR K divsR) := by
  have hN := sc69.nd
  refine fn_okR F sc69 (fun ds d h => by cases h <;> rfl) fun cdv A outer s H E hr ds d hR => ?_
  obtain ⟨bs, h⟩ := hR
  have hb6 := h.hi
  refine (DL.wss_cons (DL.ws_asgN 1 (DL.wn_lst (DL.wa_nil) (by decide +kernel)) (fun p0 => (DL.wss_cons (ws_for (l := enumL 0 bs) (enc := enumEnc bkL) (fun pre => ⟨[⟨p0, true, .lst ((pre.flatMap dvB).map dvD)⟩], [some (.lst (bs.map bkL)), some (.ref p0), none, none, none, none, none, none]⟩) (DL.wi_enumL (DL.we_var 0 rfl (Or.inl rfl) rfl) (G.free _ (by decide +kernel)) (rfl) (rfl)) (DL.Wk.mk (DL.WkO.keep (rfl) (DL.WkO.nil)) (DL.WkS.keep (rfl) (DL.WkS.keep (rfl) (DL.WkS.drop (DL.WkS.drop (DL.WkS.drop (DL.WkS.drop (DL.WkS.drop (DL.WkS.drop (DL.WkS.nil)))))))))) ?_ (DL.wss_cons (DL.ws_retF 0 (DL.we_var 1 rfl (Or.inl rfl) rfl) (rfl) ?_))))) hN (rfl) (Or.inl rfl) (rfl) (Or.inl rfl)))
  · intro pre B post hl
    obtain ⟨ba, bb, hB, hpre, _, _⟩ := enumL_split hl
    have hBm : B.2 ∈ bs := by rw [hB]; simp
    obtain ⟨_, hc1, hc12, hch⟩ := h.ok B.2 hBm
    have hpl : pre.length ≤ 6 := by
      have := congrArg List.length hl
      rw [enumL_length] at this
      simp at this
      omega
    have hA : (pre.flatMap dvB).length ≤ 6 * 732 := by
      have h1 := flat_len (f := dvB) (k := 732) (l := pre) fun x hx => by
        have hm : x.2 ∈ bs := enumL_mem (k := 0) (by rw [hl]; simp [hx])
        obtain ⟨_, _, a, b⟩ := h.ok x.2 hm
        exact dvB_len x a fun c hc => (b c hc).2.1
      omega
    refine (Exists.intro _ (And.intro (DL.wg_tup (DL.wgs_cons (DL.wg_name 2 hN (rfl) (Or.inl rfl) (Or.inl rfl)) (DL.wgs_cons (DL.wg_name 3 hN (rfl) (Or.inl rfl) (Or.inl rfl)) (DL.wgs_nil) (rfl)) (rfl)) (rfl) (rfl) (rfl)) (DL.wss_cons (ws_for (l := enumL 0 B.2.2) (enc := enumEnc chL) (fun pre2 => ⟨[⟨p0, true, .lst ((pre.flatMap dvB ++ pre2.flatMap (dvC B.1 B.2.2)).map dvD)⟩], [some (.lst (bs.map bkL)), some (.ref p0), some (.int B.1), some (bkL B.2), none, none, none, none]⟩) (DL.wi_enumL (DL.we_sub' (DL.we_var 3 rfl (Or.inl rfl) rfl) (DL.wb_of (DL.we_int)) (DL.sub_t (rfl)) (fun _ _ => rfl)) (G.free _ (by decide +kernel)) (rfl) (rfl)) (DL.Wk.mk (DL.WkO.keep ?_ (DL.WkO.nil)) (DL.WkS.keep (rfl) (DL.WkS.keep (rfl) (DL.WkS.keep (rfl) (DL.WkS.keep (rfl) (DL.WkS.drop (DL.WkS.drop (DL.WkS.drop (DL.WkS.drop (DL.WkS.nil)))))))))) ?_ (DL.wss_nil2 rfl (DL.Wk.mk (DL.WkO.keep ?_ (DL.WkO.nil)) (DL.WkS.keep (rfl) (DL.WkS.keep (rfl) (DL.WkS.drop (DL.WkS.drop (DL.WkS.drop (DL.WkS.drop (DL.WkS.drop (DL.WkS.drop (DL.WkS.nil)))))))))))))))
    · simp
    · intro pre2 C post2 hl2
      obtain ⟨ca, cb, hC, hpre2, hC1, _⟩ := enumL_split hl2
      have hCm : C.2 ∈ B.2.2 := by rw [hC]; simp
      obtain ⟨hv1, hv30, hv4⟩ := hch C.2 hCm
      have hcl : C.1 = (ca.length : Int) := by omega
      have hcb : B.2.2.length = ca.length + (cb.length + 1) := by rw [hC]; simp
      have hA1 : (pre2.flatMap (dvC B.1 B.2.2)).length ≤ 12 * 61 := by
        have h1 := flat_len (f := dvC B.1 B.2.2) (k := 61) (l := pre2) fun x hx => dvC_len B.1 B.2.2 x (hch x.2 (enumL_mem (k := 0) (by rw [hl2]; simp [hx]))).2.1
        have : pre2.length ≤ 12 := by rw [hpre2, enumL_length]; omega
        omega
      have hA3 : ((enumL 0 C.2).flatMap (dvV B.1 C.1 C.2)).length ≤ 30 * 2 := by
        have h1 := flat_len (f := dvV B.1 C.1 C.2) (k := 2) (l := enumL 0 C.2) fun x hx => dvV_len B.1 C.1 C.2 x
        rw [enumL_length] at h1
        omega
      rcases cb with _ | ⟨nx, cb⟩
      · have hcf : decide (C.1 + 1 < ((B.2.2.map chL).length : Int)) = false := decide_eq_false (by rw [List.length_map, hcb]; simp; omega)
        refine (Exists.intro _ (And.intro (DL.wg_tup (DL.wgs_cons (DL.wg_name 4 hN (rfl) (Or.inl rfl) (Or.inl rfl)) (DL.wgs_cons (DL.wg_name 5 hN (rfl) (Or.inl rfl) (Or.inl rfl)) (DL.wgs_nil) (rfl)) (rfl)) (rfl) (rfl) (rfl)) (DL.wss_cons (ws_for (l := enumL 0 C.2) (enc := enumEnc D.int) (fun pre3 => ⟨[⟨p0, true, .lst ((pre.flatMap dvB ++ pre2.flatMap (dvC B.1 B.2.2) ++ pre3.flatMap (dvV B.1 C.1 C.2)).map dvD)⟩], [some (.lst (bs.map bkL)), some (.ref p0), some (.int B.1), some (bkL B.2), some (.int C.1), some (chL C.2), none, none]⟩) (DL.wi_enumL (DL.we_var 5 rfl (Or.inl rfl) rfl) (G.free _ (by decide +kernel)) (rfl) (rfl)) (DL.Wk.mk (DL.WkO.keep ?_ (DL.WkO.nil)) (DL.WkS.keep (rfl) (DL.WkS.keep (rfl) (DL.WkS.keep (rfl) (DL.WkS.keep (rfl) (DL.WkS.keep (rfl) (DL.WkS.keep (rfl) (DL.WkS.drop (DL.WkS.drop (DL.WkS.nil)))))))))) ?_ (DL.wss_cons (ws_ifJ ⟨[⟨p0, true, .lst ((pre.flatMap dvB ++ pre2.flatMap (dvC B.1 B.2.2) ++ dvC B.1 B.2.2 C).map dvD)⟩], [some (.lst (bs.map bkL)), some (.ref p0), some (.int B.1), some (bkL B.2), some (.int C.1), some (chL C.2), none, none]⟩ (DL.wt_w (DL.ww_and (DL.wt_cmp (DL.wb_of (DL.we_len (DL.wb_of (DL.we_var 5 rfl (Or.inl rfl) rfl)) (DL.len_l) (G.free _ (by decide +kernel)) (rfl) (rfl))) (DL.wb_of (DL.we_int)) (DL.cmp_gt) (rfl)) (fun _ => (DL.ww_andFC (DL.wt_cmp (DL.wb_of (DL.we_bin (DL.wb_of (DL.we_var 4 rfl (Or.inl rfl) rfl)) (DL.wb_of (DL.we_int)) (DL.bin_add))) (DL.wb_of (DL.we_len (DL.wb_of (DL.we_sub' (DL.we_var 3 rfl (Or.inl rfl) rfl) (DL.wb_of (DL.we_int)) (DL.sub_t (rfl)) (fun _ _ => rfl))) (DL.len_l) (G.free _ (by decide +kernel)) (rfl) (rfl))) (DL.cmp_lt) (rfl)) (hcf))))) (fun _ => (DL.wss_cons (DL.ws_append 0 (DL.we_var 1 rfl (Or.inl rfl) rfl) (rfl) (DL.we_tup (DL.wa_cons (DL.we_int) (DL.wa_cons (DL.we_var 2 rfl (Or.inl rfl) rfl) (DL.wa_cons (DL.we_var 4 rfl (Or.inl rfl) rfl) (DL.wa_cons (DL.we_int) (DL.wa_nil) (rfl)) (rfl)) (rfl)) (rfl)) (Nat.le_of_ble_eq_true rfl)) (DL.small (by simp only [List.length_map, List.length_append, List.length_cons, List.length_nil]; omega)) (DL.wss_nil2 rfl (DL.Wk.mk (DL.WkO.keep ?_ (DL.WkO.nil)) (DL.WkS.keep (rfl) (DL.WkS.keep (rfl) (DL.WkS.keep (rfl) (DL.WkS.keep (rfl) (DL.WkS.keep (rfl) (DL.WkS.keep (rfl) (DL.WkS.drop (DL.WkS.drop (DL.WkS.nil))))))))))) (rfl) (rfl) (rfl) (rfl) (rfl)))) (fun _ => (DL.wss_nil2 rfl (DL.Wk.mk (DL.WkO.keep ?_ (DL.WkO.nil)) (DL.WkS.keep (rfl) (DL.WkS.keep (rfl) (DL.WkS.keep (rfl) (DL.WkS.keep (rfl) (DL.WkS.keep (rfl) (DL.WkS.keep (rfl) (DL.WkS.drop (DL.WkS.drop (DL.WkS.nil)))))))))))) (DL.wss_nil2 rfl (DL.Wk.mk (DL.WkO.keep ?_ (DL.WkO.nil)) (DL.WkS.keep (rfl) (DL.WkS.keep (rfl) (DL.WkS.keep (rfl) (DL.WkS.keep (rfl) (DL.WkS.drop (DL.WkS.drop (DL.WkS.drop (DL.WkS.drop (DL.WkS.nil)))))))))))))))))
        · simp
        · intro pre3 V post3 hl3
          obtain ⟨va, vb, hV, hpre3, hV1, _⟩ := enumL_split hl3
          have hvl : V.1 = (va.length : Int) := by omega
          have hvc : C.2.length = va.length + (vb.length + 1) := by rw [hV]; simp
          have hat := atI_some (l := C.2) (i := V.1 - 1) (by omega) (by omega)
          have hA2 : (pre3.flatMap (dvV B.1 C.1 C.2)).length ≤ 30 * 2 := by
            have h1 := flat_len (f := dvV B.1 C.1 C.2) (k := 2) (l := pre3) fun x hx => dvV_len B.1 C.1 C.2 x
            have : pre3.length ≤ 30 := by rw [hpre3, enumL_length]; omega
            omega
          have l1 : (dvV1 B.1 C.1 C.2 V).length ≤ 1 := by unfold dvV1; split <;> simp
          refine (Exists.intro _ (And.intro (DL.wg_tup (DL.wgs_cons (DL.wg_name 6 hN (rfl) (Or.inl rfl) (Or.inl rfl)) (DL.wgs_cons (DL.wg_name 7 hN (rfl) (Or.inl rfl) (Or.inl rfl)) (DL.wgs_nil) (rfl)) (rfl)) (rfl) (rfl) (rfl)) (DL.wss_cons (ws_ifJ ⟨[⟨p0, true, .lst ((pre.flatMap dvB ++ pre2.flatMap (dvC B.1 B.2.2) ++ pre3.flatMap (dvV B.1 C.1 C.2) ++ dvV1 B.1 C.1 C.2 V).map dvD)⟩], [some (.lst (bs.map bkL)), some (.ref p0), some (.int B.1), some (bkL B.2), some (.int C.1), some (chL C.2), some (.int V.1), some (.int V.2)]⟩ (DL.wt_w (DL.ww_and (DL.wt_cmp (DL.wb_of (DL.we_var 7 rfl (Or.inl rfl) rfl)) (DL.wb_of (DL.we_int)) (DL.cmp_gt) (rfl)) (fun _ => (DL.ww_and1 (DL.wt_cmp (DL.wb_of (DL.we_len (DL.wb_of (DL.we_var 5 rfl (Or.inl rfl) rfl)) (DL.len_l) (G.free _ (by decide +kernel)) (rfl) (rfl))) (DL.wb_of (DL.we_int)) (DL.cmp_lt) (rfl)))))) (fun _ => (DL.wss_cons (DL.ws_append 0 (DL.we_var 1 rfl (Or.inl rfl) rfl) (rfl) (DL.we_tup (DL.wa_cons (DL.we_int) (DL.wa_cons (DL.we_var 2 rfl (Or.inl rfl) rfl) (DL.wa_cons (DL.we_var 4 rfl (Or.inl rfl) rfl) (DL.wa_cons (DL.we_var 6 rfl (Or.inl rfl) rfl) (DL.wa_nil) (rfl)) (rfl)) (rfl)) (rfl)) (Nat.le_of_ble_eq_true rfl)) (DL.small (by simp only [List.length_map, List.length_append, List.length_cons, List.length_nil]; omega)) (DL.wss_nil2 rfl (DL.Wk.mk (DL.WkO.keep ?_ (DL.WkO.nil)) (DL.WkS.keep (rfl) (DL.WkS.keep (rfl) (DL.WkS.keep (rfl) (DL.WkS.keep (rfl) (DL.WkS.keep (rfl) (DL.WkS.keep (rfl) (DL.WkS.keep (rfl) (DL.WkS.keep (rfl) (DL.WkS.nil))))))))))) (rfl) (rfl) (rfl) (rfl) (rfl)))) (fun _ => (DL.wss_nil2 rfl (DL.Wk.mk (DL.WkO.keep ?_ (DL.WkO.nil)) (DL.WkS.keep (rfl) (DL.WkS.keep (rfl) (DL.WkS.keep (rfl) (DL.WkS.keep (rfl) (DL.WkS.keep (rfl) (DL.WkS.keep (rfl) (DL.WkS.keep (rfl) (DL.WkS.keep (rfl) (DL.WkS.nil)))))))))))) (DL.wss_cons (ws_ifJ ⟨[⟨p0, true, .lst ((pre.flatMap dvB ++ pre2.flatMap (dvC B.1 B.2.2) ++ pre3.flatMap (dvV B.1 C.1 C.2) ++ (dvV1 B.1 C.1 C.2 V ++ dvV2 B.1 C.1 C.2 V)).map dvD)⟩], [some (.lst (bs.map bkL)), some (.ref p0), some (.int B.1), some (bkL B.2), some (.int C.1), some (chL C.2), some (.int V.1), some (.int V.2)]⟩ (DL.wt_w (DL.ww_and (DL.wt_cmp (DL.wb_of (DL.we_var 6 rfl (Or.inl rfl) rfl)) (DL.wb_of (DL.we_int)) (DL.cmp_gt) (rfl)) (fun _ => (DL.ww_and1 (DL.wt_cmp (DL.wb_of (DL.we_bin (DL.wb_of (DL.we_sub' (DL.we_var 5 rfl (Or.inl rfl) rfl) (DL.wb_of (DL.we_bin (DL.wb_of (DL.we_var 6 rfl (Or.inl rfl) rfl)) (DL.wb_of (DL.we_int)) (DL.bin_sub))) (DL.sub_l (hat)) (fun _ _ => rfl))) (DL.wb_of (DL.we_var 7 rfl (Or.inl rfl) rfl)) (DL.bin_add))) (DL.wb_of (DL.we_int)) (DL.cmp_lt) (rfl)))))) (fun _ => (DL.wss_cons (DL.ws_append 0 (DL.we_var 1 rfl (Or.inl rfl) rfl) (rfl) (DL.we_tup (DL.wa_cons (DL.we_int) (DL.wa_cons (DL.we_var 2 rfl (Or.inl rfl) rfl) (DL.wa_cons (DL.we_var 4 rfl (Or.inl rfl) rfl) (DL.wa_cons (DL.we_var 6 rfl (Or.inl rfl) rfl) (DL.wa_nil) (rfl)) (rfl)) (rfl)) (rfl)) (Nat.le_of_ble_eq_true rfl)) (DL.small (by simp only [List.length_map, List.length_append, List.length_cons, List.length_nil]; omega)) (DL.wss_nil2 rfl (DL.Wk.mk (DL.WkO.keep ?_ (DL.WkO.nil)) (DL.WkS.keep (rfl) (DL.WkS.keep (rfl) (DL.WkS.keep (rfl) (DL.WkS.keep (rfl) (DL.WkS.keep (rfl) (DL.WkS.keep (rfl) (DL.WkS.keep (rfl) (DL.WkS.keep (rfl) (DL.WkS.nil))))))))))) (rfl) (rfl) (rfl) (rfl) (rfl)))) (fun _ => (DL.wss_nil2 rfl (DL.Wk.mk (DL.WkO.keep ?_ (DL.WkO.nil)) (DL.WkS.keep (rfl) (DL.WkS.keep (rfl) (DL.WkS.keep (rfl) (DL.WkS.keep (rfl) (DL.WkS.keep (rfl) (DL.WkS.keep (rfl) (DL.WkS.keep (rfl) (DL.WkS.keep (rfl) (DL.WkS.nil)))))))))))) (DL.wss_nil2 rfl (DL.Wk.mk (DL.WkO.keep ?_ (DL.WkO.nil)) (DL.WkS.keep (rfl) (DL.WkS.keep (rfl) (DL.WkS.keep (rfl) (DL.WkS.keep (rfl) (DL.WkS.keep (rfl) (DL.WkS.keep (rfl) (DL.WkS.drop (DL.WkS.drop (DL.WkS.nil)))))))))))))))))
          · rename_i hx
            have hx : 1 < V.2 ∧ (C.2.length : Int) < 30 := by simpa using hx
            rw [dvV1, if_pos hx, List.map_append (l₂ := [_])]
            rfl
          · rename_i hx
            have hx : ¬ (1 < V.2 ∧ (C.2.length : Int) < 30) := by simpa using hx
            rw [dvV1, if_neg hx, List.append_nil]
          · rename_i hx
            have hx : 0 < V.1 ∧ prevOf C.2 V.1 + V.2 < 5 := by simpa [prevOf] using hx
            rw [dvV2, if_pos hx, ← List.append_assoc, List.map_append (l₂ := [_])]
            rfl
          · rename_i hx
            have hx : ¬ (0 < V.1 ∧ prevOf C.2 V.1 + V.2 < 5) := by simpa [prevOf] using hx
            rw [dvV2, if_neg hx, List.append_nil]
          · rw [List.flatMap_append (xs := pre3)]
            simp [dvV]
        · rename_i hx
          rw [Bool.and_false] at hx
          cases hx
        · have hx : ¬ (1 < (C.2.length : Int) ∧ C.1 + 1 < (B.2.2.length : Int) ∧ nextLen B.2.2 C.1 < 30) := fun z => by
            rw [hcb] at z
            simp at z
            omega
          rw [dvC, dvE, if_neg hx, List.append_nil]
        · simp [List.append_assoc]
      · have hnx : atI (B.2.2.map chL) (C.1 + 1) = some (chL nx) := atI_mid chL (pre := ca ++ [C.2]) (post := cb) (x := nx) (by rw [hC]; simp) (by simp; omega)
        have hnl : nextLen B.2.2 C.1 = (nx.length : Int) := by
          unfold nextLen
          have e : atI B.2.2 (C.1 + 1) = some nx := by
            rw [atI_nn (by omega) (by rw [hcb]; simp; omega)]
            simp only [hC]
            congr 1
            rw [List.getElem_append_right (by omega)]
            have : (C.1 + 1).toNat - ca.length = 1 := by omega
            simp [this]
          rw [e]
          rfl
        refine (Exists.intro _ (And.intro (DL.wg_tup (DL.wgs_cons (DL.wg_name 4 hN (rfl) (Or.inl rfl) (Or.inl rfl)) (DL.wgs_cons (DL.wg_name 5 hN (rfl) (Or.inl rfl) (Or.inl rfl)) (DL.wgs_nil) (rfl)) (rfl)) (rfl) (rfl) (rfl)) (DL.wss_cons (ws_for (l := enumL 0 C.2) (enc := enumEnc D.int) (fun pre3 => ⟨[⟨p0, true, .lst ((pre.flatMap dvB ++ pre2.flatMap (dvC B.1 B.2.2) ++ pre3.flatMap (dvV B.1 C.1 C.2)).map dvD)⟩], [some (.lst (bs.map bkL)), some (.ref p0), some (.int B.1), some (bkL B.2), some (.int C.1), some (chL C.2), none, none]⟩) (DL.wi_enumL (DL.we_var 5 rfl (Or.inl rfl) rfl) (G.free _ (by decide +kernel)) (rfl) (rfl)) (DL.Wk.mk (DL.WkO.keep ?_ (DL.WkO.nil)) (DL.WkS.keep (rfl) (DL.WkS.keep (rfl) (DL.WkS.keep (rfl) (DL.WkS.keep (rfl) (DL.WkS.keep (rfl) (DL.WkS.keep (rfl) (DL.WkS.drop (DL.WkS.drop (DL.WkS.nil)))))))))) ?_ (DL.wss_cons (ws_ifJ ⟨[⟨p0, true, .lst ((pre.flatMap dvB ++ pre2.flatMap (dvC B.1 B.2.2) ++ dvC B.1 B.2.2 C).map dvD)⟩], [some (.lst (bs.map bkL)), some (.ref p0), some (.int B.1), some (bkL B.2), some (.int C.1), some (chL C.2), none, none]⟩ (DL.wt_w (DL.ww_and (DL.wt_cmp (DL.wb_of (DL.we_len (DL.wb_of (DL.we_var 5 rfl (Or.inl rfl) rfl)) (DL.len_l) (G.free _ (by decide +kernel)) (rfl) (rfl))) (DL.wb_of (DL.we_int)) (DL.cmp_gt) (rfl)) (fun _ => (DL.ww_and (DL.wt_cmp (DL.wb_of (DL.we_bin (DL.wb_of (DL.we_var 4 rfl (Or.inl rfl) rfl)) (DL.wb_of (DL.we_int)) (DL.bin_add))) (DL.wb_of (DL.we_len (DL.wb_of (DL.we_sub' (DL.we_var 3 rfl (Or.inl rfl) rfl) (DL.wb_of (DL.we_int)) (DL.sub_t (rfl)) (fun _ _ => rfl))) (DL.len_l) (G.free _ (by decide +kernel)) (rfl) (rfl))) (DL.cmp_lt) (rfl)) (fun _ => (DL.ww_and1 (DL.wt_cmp (DL.wb_of (DL.we_len (DL.wb_of (DL.we_sub' (DL.we_sub' (DL.we_var 3 rfl (Or.inl rfl) rfl) (DL.wb_of (DL.we_int)) (DL.sub_t (rfl)) (fun _ _ => rfl)) (DL.wb_of (DL.we_bin (DL.wb_of (DL.we_var 4 rfl (Or.inl rfl) rfl)) (DL.wb_of (DL.we_int)) (DL.bin_add))) (DL.sub_l (hnx)) (fun _ _ => rfl))) (DL.len_l) (G.free _ (by decide +kernel)) (rfl) (rfl))) (DL.wb_of (DL.we_int)) (DL.cmp_lt) (rfl)))))))) (fun _ => (DL.wss_cons (DL.ws_append 0 (DL.we_var 1 rfl (Or.inl rfl) rfl) (rfl) (DL.we_tup (DL.wa_cons (DL.we_int) (DL.wa_cons (DL.we_var 2 rfl (Or.inl rfl) rfl) (DL.wa_cons (DL.we_var 4 rfl (Or.inl rfl) rfl) (DL.wa_cons (DL.we_int) (DL.wa_nil) (rfl)) (rfl)) (rfl)) (rfl)) (Nat.le_of_ble_eq_true rfl)) (DL.small (by simp only [List.length_map, List.length_append, List.length_cons, List.length_nil]; omega)) (DL.wss_nil2 rfl (DL.Wk.mk (DL.WkO.keep ?_ (DL.WkO.nil)) (DL.WkS.keep (rfl) (DL.WkS.keep (rfl) (DL.WkS.keep (rfl) (DL.WkS.keep (rfl) (DL.WkS.keep (rfl) (DL.WkS.keep (rfl) (DL.WkS.drop (DL.WkS.drop (DL.WkS.nil))))))))))) (rfl) (rfl) (rfl) (rfl) (rfl)))) (fun _ => (DL.wss_nil2 rfl (DL.Wk.mk (DL.WkO.keep ?_ (DL.WkO.nil)) (DL.WkS.keep (rfl) (DL.WkS.keep (rfl) (DL.WkS.keep (rfl) (DL.WkS.keep (rfl) (DL.WkS.keep (rfl) (DL.WkS.keep (rfl) (DL.WkS.drop (DL.WkS.drop (DL.WkS.nil)))))))))))) (DL.wss_nil2 rfl (DL.Wk.mk (DL.WkO.keep ?_ (DL.WkO.nil)) (DL.WkS.keep (rfl) (DL.WkS.keep (rfl) (DL.WkS.keep (rfl) (DL.WkS.keep (rfl) (DL.WkS.drop (DL.WkS.drop (DL.WkS.drop (DL.WkS.drop (DL.WkS.nil)))))))))))))))))
        · simp
        · intro pre3 V post3 hl3
          obtain ⟨va, vb, hV, hpre3, hV1, _⟩ := enumL_split hl3
          have hvl : V.1 = (va.length : Int) := by omega
          have hvc : C.2.length = va.length + (vb.length + 1) := by rw [hV]; simp
          have hat := atI_some (l := C.2) (i := V.1 - 1) (by omega) (by omega)
          have hA2 : (pre3.flatMap (dvV B.1 C.1 C.2)).length ≤ 30 * 2 := by
            have h1 := flat_len (f := dvV B.1 C.1 C.2) (k := 2) (l := pre3) fun x hx => dvV_len B.1 C.1 C.2 x
            have : pre3.length ≤ 30 := by rw [hpre3, enumL_length]; omega
            omega
          have l1 : (dvV1 B.1 C.1 C.2 V).length ≤ 1 := by unfold dvV1; split <;> simp
          refine (Exists.intro _ (And.intro (DL.wg_tup (DL.wgs_cons (DL.wg_name 6 hN (rfl) (Or.inl rfl) (Or.inl rfl)) (DL.wgs_cons (DL.wg_name 7 hN (rfl) (Or.inl rfl) (Or.inl rfl)) (DL.wgs_nil) (rfl)) (rfl)) (rfl) (rfl) (rfl)) (DL.wss_cons (ws_ifJ ⟨[⟨p0, true, .lst ((pre.flatMap dvB ++ pre2.flatMap (dvC B.1 B.2.2) ++ pre3.flatMap (dvV B.1 C.1 C.2) ++ dvV1 B.1 C.1 C.2 V).map dvD)⟩], [some (.lst (bs.map bkL)), some (.ref p0), some (.int B.1), some (bkL B.2), some (.int C.1), some (chL C.2), some (.int V.1), some (.int V.2)]⟩ (DL.wt_w (DL.ww_and (DL.wt_cmp (DL.wb_of (DL.we_var 7 rfl (Or.inl rfl) rfl)) (DL.wb_of (DL.we_int)) (DL.cmp_gt) (rfl)) (fun _ => (DL.ww_and1 (DL.wt_cmp (DL.wb_of (DL.we_len (DL.wb_of (DL.we_var 5 rfl (Or.inl rfl) rfl)) (DL.len_l) (G.free _ (by decide +kernel)) (rfl) (rfl))) (DL.wb_of (DL.we_int)) (DL.cmp_lt) (rfl)))))) (fun _ => (DL.wss_cons (DL.ws_append 0 (DL.we_var 1 rfl (Or.inl rfl) rfl) (rfl) (DL.we_tup (DL.wa_cons (DL.we_int) (DL.wa_cons (DL.we_var 2 rfl (Or.inl rfl) rfl) (DL.wa_cons (DL.we_var 4 rfl (Or.inl rfl) rfl) (DL.wa_cons (DL.we_var 6 rfl (Or.inl rfl) rfl) (DL.wa_nil) (rfl)) (rfl)) (rfl)) (rfl)) (Nat.le_of_ble_eq_true rfl)) (DL.small (by simp only [List.length_map, List.length_append, List.length_cons, List.length_nil]; omega)) (DL.wss_nil2 rfl (DL.Wk.mk (DL.WkO.keep ?_ (DL.WkO.nil)) (DL.WkS.keep (rfl) (DL.WkS.keep (rfl) (DL.WkS.keep (rfl) (DL.WkS.keep (rfl) (DL.WkS.keep (rfl) (DL.WkS.keep (rfl) (DL.WkS.keep (rfl) (DL.WkS.keep (rfl) (DL.WkS.nil))))))))))) (rfl) (rfl) (rfl) (rfl) (rfl)))) (fun _ => (DL.wss_nil2 rfl (DL.Wk.mk (DL.WkO.keep ?_ (DL.WkO.nil)) (DL.WkS.keep (rfl) (DL.WkS.keep (rfl) (DL.WkS.keep (rfl) (DL.WkS.keep (rfl) (DL.WkS.keep (rfl) (DL.WkS.keep (rfl) (DL.WkS.keep (rfl) (DL.WkS.keep (rfl) (DL.WkS.nil)))))))))))) (DL.wss_cons (ws_ifJ ⟨[⟨p0, true, .lst ((pre.flatMap dvB ++ pre2.flatMap (dvC B.1 B.2.2) ++ pre3.flatMap (dvV B.1 C.1 C.2) ++ (dvV1 B.1 C.1 C.2 V ++ dvV2 B.1 C.1 C.2 V)).map dvD)⟩], [some (.lst (bs.map bkL)), some (.ref p0), some (.int B.1), some (bkL B.2), some (.int C.1), some (chL C.2), some (.int V.1), some (.int V.2)]⟩ (DL.wt_w (DL.ww_and (DL.wt_cmp (DL.wb_of (DL.we_var 6 rfl (Or.inl rfl) rfl)) (DL.wb_of (DL.we_int)) (DL.cmp_gt) (rfl)) (fun _ => (DL.ww_and1 (DL.wt_cmp (DL.wb_of (DL.we_bin (DL.wb_of (DL.we_sub' (DL.we_var 5 rfl (Or.inl rfl) rfl) (DL.wb_of (DL.we_bin (DL.wb_of (DL.we_var 6 rfl (Or.inl rfl) rfl)) (DL.wb_of (DL.we_int)) (DL.bin_sub))) (DL.sub_l (hat)) (fun _ _ => rfl))) (DL.wb_of (DL.we_var 7 rfl (Or.inl rfl) rfl)) (DL.bin_add))) (DL.wb_of (DL.we_int)) (DL.cmp_lt) (rfl)))))) (fun _ => (DL.wss_cons (DL.ws_append 0 (DL.we_var 1 rfl (Or.inl rfl) rfl) (rfl) (DL.we_tup (DL.wa_cons (DL.we_int) (DL.wa_cons (DL.we_var 2 rfl (Or.inl rfl) rfl) (DL.wa_cons (DL.we_var 4 rfl (Or.inl rfl) rfl) (DL.wa_cons (DL.we_var 6 rfl (Or.inl rfl) rfl) (DL.wa_nil) (rfl)) (rfl)) (rfl)) (rfl)) (Nat.le_of_ble_eq_true rfl)) (DL.small (by simp only [List.length_map, List.length_append, List.length_cons, List.length_nil]; omega)) (DL.wss_nil2 rfl (DL.Wk.mk (DL.WkO.keep ?_ (DL.WkO.nil)) (DL.WkS.keep (rfl) (DL.WkS.keep (rfl) (DL.WkS.keep (rfl) (DL.WkS.keep (rfl) (DL.WkS.keep (rfl) (DL.WkS.keep (rfl) (DL.WkS.keep (rfl) (DL.WkS.keep (rfl) (DL.WkS.nil))))))))))) (rfl) (rfl) (rfl) (rfl) (rfl)))) (fun _ => (DL.wss_nil2 rfl (DL.Wk.mk (DL.WkO.keep ?_ (DL.WkO.nil)) (DL.WkS.keep (rfl) (DL.WkS.keep (rfl) (DL.WkS.keep (rfl) (DL.WkS.keep (rfl) (DL.WkS.keep (rfl) (DL.WkS.keep (rfl) (DL.WkS.keep (rfl) (DL.WkS.keep (rfl) (DL.WkS.nil)))))))))))) (DL.wss_nil2 rfl (DL.Wk.mk (DL.WkO.keep ?_ (DL.WkO.nil)) (DL.WkS.keep (rfl) (DL.WkS.keep (rfl) (DL.WkS.keep (rfl) (DL.WkS.keep (rfl) (DL.WkS.keep (rfl) (DL.WkS.keep (rfl) (DL.WkS.drop (DL.WkS.drop (DL.WkS.nil)))))))))))))))))
          · rename_i hx
            have hx : 1 < V.2 ∧ (C.2.length : Int) < 30 := by simpa using hx
            rw [dvV1, if_pos hx, List.map_append (l₂ := [_])]
            rfl
          · rename_i hx
            have hx : ¬ (1 < V.2 ∧ (C.2.length : Int) < 30) := by simpa using hx
            rw [dvV1, if_neg hx, List.append_nil]
          · rename_i hx
            have hx : 0 < V.1 ∧ prevOf C.2 V.1 + V.2 < 5 := by simpa [prevOf] using hx
            rw [dvV2, if_pos hx, ← List.append_assoc, List.map_append (l₂ := [_])]
            rfl
          · rename_i hx
            have hx : ¬ (0 < V.1 ∧ prevOf C.2 V.1 + V.2 < 5) := by simpa [prevOf] using hx
            rw [dvV2, if_neg hx, List.append_nil]
          · rw [List.flatMap_append (xs := pre3)]
            simp [dvV]
        · rename_i hx
          have hx : 1 < (C.2.length : Int) ∧ C.1 + 1 < (B.2.2.length : Int) ∧ nextLen B.2.2 C.1 < 30 := by rw [hnl]; simpa using hx
          rw [dvC, dvE, if_pos hx, ← List.append_assoc, List.map_append (l₂ := [_])]
          rfl
        · rename_i hx
          have hx : ¬ (1 < (C.2.length : Int) ∧ C.1 + 1 < (B.2.2.length : Int) ∧ nextLen B.2.2 C.1 < 30) := by rw [hnl]; simpa using hx
          rw [dvC, dvE, if_neg hx, List.append_nil]
        · simp [List.append_assoc]
    · simp [dvB]
  · rw [divs]
end
end DL
/-! V66v: a division. -/
namespace DL
open PySem PySem.Spec PyProof.Rows L2
/-- what a division is -/
inductive DvOk (bs : List Bk) : Dv → Prop
  | cut (A B : List Bk) (n : Str) (Cs Es : List (List Int)) (va vb : List Int) (x : Int) (hb : bs = A ++ (n, Cs ++ (va ++ x :: vb) :: Es) :: B) (hx : 1 < x) (h30 : (va ++ x :: vb).length < 30) : DvOk bs (0, (A.length : Int), (Cs.length : Int), (va.length : Int))
  | join (A B : List Bk) (n : Str) (Cs Es : List (List Int)) (va vb : List Int) (y x : Int) (hb : bs = A ++ (n, Cs ++ (va ++ y :: x :: vb) :: Es) :: B) (hx : y + x < 5) : DvOk bs (1, (A.length : Int), (Cs.length : Int), (va.length : Int) + 1)
  | move (A B : List Bk) (n : Str) (Cs Es : List (List Int)) (va : List Int) (x : Int) (ch : List Int) (hb : bs = A ++ (n, Cs ++ (va ++ [x]) :: ch :: Es) :: B) (hx : 1 ≤ va.length) (h30 : ch.length < 30) : DvOk bs (2, (A.length : Int), (Cs.length : Int), 0)
theorem divs_ok {bs : List Bk} {q : Dv} (h : q ∈ divs bs) : DvOk bs q := by
  unfold divs at h
  obtain ⟨⟨b, bk⟩, hB, h⟩ := List.mem_flatMap.mp h
  obtain ⟨pre, post, e⟩ := List.append_of_mem hB
  obtain ⟨A, B, hA, _, hb1, _⟩ := enumL_split e
  unfold dvB at h
  obtain ⟨⟨c, ch⟩, hC, h⟩ := List.mem_flatMap.mp h
  obtain ⟨pre2, post2, e2⟩ := List.append_of_mem hC
  obtain ⟨Cs, Es, hCs, _, hc1, _⟩ := enumL_split e2
  simp only at hA hb1 hCs hc1
  have hb1 : b = (A.length : Int) := by omega
  have hc1 : c = (Cs.length : Int) := by omega
  unfold dvC at h
  obtain ⟨n, chs⟩ := bk
  simp only at hCs
  rcases List.mem_append.mp h with h | h
  · obtain ⟨⟨v, x⟩, hV, h⟩ := List.mem_flatMap.mp h
    obtain ⟨pre3, post3, e3⟩ := List.append_of_mem hV
    obtain ⟨va, vb, hv, _, hv1, _⟩ := enumL_split e3
    simp only at hv hv1
    have hv1 : v = (va.length : Int) := by omega
    unfold dvV at h
    rcases List.mem_append.mp h with h | h
    · unfold dvV1 at h
      split at h
      · rename_i hx
        rw [List.mem_singleton.mp h, hb1, hc1, hv1]
        exact .cut A B n Cs Es va vb x (by rw [hA, hCs, hv]) hx.1 (by rw [← hv]; have := hx.2; simp only at this; omega)
      · cases h
    · unfold dvV2 at h
      split at h
      · rename_i hx
        obtain ⟨h0, h5⟩ := hx
        simp only at h0 h5
        rcases List.eq_nil_or_concat va with z | ⟨va', y, z⟩
        · subst z; simp at hv1; omega
        · rw [List.concat_eq_append] at z
          subst z
          rw [List.mem_singleton.mp h, hb1, hc1, hv1]
          have ep : prevOf ch v = y := by
            unfold prevOf
            have : atI ch (v - 1) = some y := by
              rw [hv1, hv]
              simp only [List.length_append, List.length_singleton]
              rw [atI_nn (by omega) (by simp; omega)]
              have e1 : (((va'.length + 1 : Nat) : Int) - 1).toNat = va'.length := by omega
              simp [e1]
            rw [this]
            rfl
          rw [ep] at h5
          have e1 : (((va' ++ [y]).length : Nat) : Int) = (va'.length : Int) + 1 := by simp
          rw [e1]
          exact .join A B n Cs Es va' vb y x (by rw [hA, hCs, hv]; simp) h5
      · cases h
  · unfold dvE at h
    split at h
    · rename_i hx
      obtain ⟨h1, h2, h3⟩ := hx
      simp only at h1 h2 h3
      rw [List.mem_singleton.mp h, hb1, hc1]
      rcases Es with _ | ⟨ch2, Es⟩
      · rw [hCs, hc1] at h2; simp at h2
      · rcases List.eq_nil_or_concat ch with z | ⟨va, x, z⟩
        · subst z; simp at h1
        · rw [List.concat_eq_append] at z
          subst z
          have en : nextLen chs c = (ch2.length : Int) := by
            unfold nextLen
            have : atI chs (c + 1) = some ch2 := by
              rw [hc1, hCs]
              rw [atI_nn (by omega) (by simp; omega)]
              congr 1
              rw [List.getElem_append_right (by omega)]
              have e1 : ((Cs.length : Int) + 1).toNat - Cs.length = 1 := by omega
              simp [e1]
            rw [this]
            rfl
          rw [en] at h3
          exact .move A B n Cs Es va x ch2 (by rw [hA, hCs]) (by simp at h1; omega) (by omega)
    · cases h
/-- the books with a division done -/
def cutCh (ch : List Int) (v : Nat) (m : Int) : List Int := ch.take v ++ [1 + m % ((ch[v]?.getD 0) - 1), (ch[v]?.getD 0) - (1 + m % ((ch[v]?.getD 0) - 1))] ++ ch.drop (v + 1)
def joinCh (ch : List Int) (v : Nat) : List Int := ch.take (v - 1) ++ [(ch[v - 1]?.getD 0) + (ch[v]?.getD 0)] ++ ch.drop (v + 1)
def chsDv (chs : List (List Int)) (w c v m : Int) : List (List Int) :=
  if w = 0 then chs.set c.toNat (cutCh (chs[c.toNat]?.getD []) v.toNat m)
  else if w = 1 then chs.set c.toNat (joinCh (chs[c.toNat]?.getD []) v.toNat)
  else (chs.set c.toNat (chs[c.toNat]?.getD []).dropLast).set (c.toNat + 1) (lastOr (chs[c.toNat]?.getD []) :: (chs[c.toNat + 1]?.getD []))
def bksDv (bs : List Bk) (q : Dv) (m : Int) : List Bk := bs.set q.2.1.toNat ((bs[q.2.1.toNat]?.getD ("", [])).1, chsDv (bs[q.2.1.toNat]?.getD ("", [])).2 q.1 q.2.2.1 q.2.2.2 m)
def dvAt (bs : List Bk) (cell : Int) : Dv := (atI (divs bs) (cell % ((divs bs).length : Int))).getD (0, 0, 0, 0)
@[irreducible] def divBs (bs : List Bk) (cell : Int) : List Bk := bksDv bs (dvAt bs cell) (cell / ((divs bs).length : Int))
theorem set_mid {τ : Type} (A B : List τ) (x y : τ) : (A ++ x :: B).set A.length y = A ++ y :: B := by simp
theorem get_mid {τ : Type} (A B : List τ) (x : τ) : (A ++ x :: B)[A.length]? = some x := by simp
theorem bksDv_mid (A B : List Bk) (n : Str) (chs : List (List Int)) (w c v m : Int) : bksDv (A ++ (n, chs) :: B) (w, (A.length : Int), c, v) m = A ++ (n, chsDv chs w c v m) :: B := by
  unfold bksDv
  simp only [Int.toNat_natCast]
  rw [get_mid, set_mid]
  rfl
theorem chsDv_cut (Cs Es : List (List Int)) (va vb : List Int) (x m : Int) : chsDv (Cs ++ (va ++ x :: vb) :: Es) 0 (Cs.length : Int) (va.length : Int) m = Cs ++ (va ++ [1 + m % (x - 1), x - (1 + m % (x - 1))] ++ vb) :: Es := by
  unfold chsDv
  rw [if_pos rfl]
  simp only [Int.toNat_natCast]
  rw [get_mid, set_mid]
  unfold cutCh
  simp only [Option.getD_some]
  rw [get_mid]
  simp
theorem chsDv_join (Cs Es : List (List Int)) (va vb : List Int) (y x m : Int) : chsDv (Cs ++ (va ++ y :: x :: vb) :: Es) 1 (Cs.length : Int) ((va.length : Int) + 1) m = Cs ++ (va ++ [y + x] ++ vb) :: Es := by
  unfold chsDv
  rw [if_neg (by decide), if_pos rfl]
  simp only [Int.toNat_natCast]
  rw [get_mid, set_mid]
  unfold joinCh
  have e1 : ((va.length : Int) + 1).toNat = va.length + 1 := by omega
  have e2 : (va ++ y :: x :: vb)[va.length + 1]? = some x := by
    rw [List.getElem?_append_right (by omega)]
    simp
  simp only [Option.getD_some]
  rw [e1, Nat.add_sub_cancel, get_mid, e2]
  have e3 : (va ++ y :: x :: vb).drop (va.length + 1 + 1) = vb := by
    have : va ++ y :: x :: vb = (va ++ [y, x]) ++ vb := by simp
    rw [this]
    exact List.drop_left' (by simp)
  rw [e3]
  simp
theorem chsDv_move (Cs Es : List (List Int)) (va ch : List Int) (x m : Int) : chsDv (Cs ++ (va ++ [x]) :: ch :: Es) 2 (Cs.length : Int) 0 m = Cs ++ va :: (x :: ch) :: Es := by
  unfold chsDv
  rw [if_neg (by decide), if_neg (by decide)]
  simp only [Int.toNat_natCast]
  rw [get_mid, set_mid]
  have e2 : (Cs ++ (va ++ [x]) :: ch :: Es)[Cs.length + 1]? = some ch := by
    rw [List.getElem?_append_right (by omega)]
    simp
  rw [e2]
  simp [lastOr]
end DL
/-! V66w: a division walked. -/
namespace DL
open PySem PySem.Spec PyProof.Rows L2
theorem divs_len {bs : List Bk} (h : OkBooks bs) : (divs bs).length ≤ 4392 := by
  have h1 := flat_len (f := dvB) (k := 732) (l := enumL 0 bs) fun x hx => by
    obtain ⟨_, _, a, b⟩ := h.ok x.2 (enumL_mem hx)
    exact dvB_len x a fun c hc => (b c hc).2.1
  rw [enumL_length] at h1
  have := h.hi
  unfold divs
  omega
theorem dvs_dat (l : List Dv) : datL (l.map dvD) = true := datL_map fun _ _ => rfl
theorem dvs_shaped (l : List Dv) : SeqAt.shaped (D.lst (l.map dvD)).pd = true := by
  unfold SeqAt.shaped
  rw [Bool.and_eq_true, decide_eq_true_eq]
  constructor
  · show PyData.canLayAll0 (pdL (l.map dvD)) = true
    rw [pdL_map]
    exact canLayAll_map fun _ _ => rfl
  · show PyData.depthAll (pdL (l.map dvD)) + 1 ≤ 64
    rw [pdL_map]
    have : PyData.depthAll (l.map fun x => (dvD x).pd) ≤ 1 := depthAll_map fun _ _ => Nat.le_refl _
    omega
@[irreducible] def divD (bs : List Bk) (cell : Int) : D := if divs bs = [] then .non else .lst ((divBs bs cell).map bkL)
inductive dividedR : List D → D → Prop
  | mk (bs : List Bk) (cell : Int) (h : OkBooks bs) : dividedR [.lst (bs.map bkL), .int cell] (divD bs cell)
theorem sc70 : FnScope ["books", "cell", "ways", "way", "b", "c", "v", "other", "chapters", "chapter", "upto"] ["books", "cell"] (defScope (top 70)) := (⟨rfl, rfl, rfl, by decide +kernel, rfl, by decide +kernel, by decide +kernel⟩)
section
variable {P : Program} {w : World} {K : PySem.W.Frag} {mg : Str → Option Value} {base : Heap} {f CL C : Addr} {fd : FuncData} (G : G66 mg)
include G
theorem ok_divided (F : FD K "_law_divided" "_law_divided" (top 70) f fd) (k1 : Kn P w K mg base "_law_divisions" 1 [] (spR K divsR)) (k2 : Kn P w K mg base "_law_copy" 1 [] (spT K copyR)) : FnOk P w K mg base CX0 2 f fd ["books", "cell"] (spR K dividedR) := by
  have hN := sc70.nd
  refine fn_okR F sc70 (fun ds d h => by cases h <;> rfl) fun cdv A outer s H E hr ds d hR => ?_
  obtain ⟨bs, cell, h⟩ := hR
  by_cases hd : divs bs = []
  · rw [divD, if_pos hd]
    have hd1 := dvs_dat (divs bs)
    have hd2 := dvs_shaped (divs bs)
    refine (DL.wss_cons (DL.ws_asg (DL.we_call k1 hr (DL.wa_cons (DL.we_var 0 rfl (Or.inl rfl) rfl) (DL.wa_nil) (rfl)) (DL.divsR.mk _ h) (rfl) (rfl) (rfl) (rfl)) (DL.wg_name 2 hN (rfl) (Or.inl rfl) (Or.inl rfl)) (DL.wss_cons (DL.ws_if (DL.wt_cmp (DL.wb_of (DL.we_var 2 rfl (Or.inl rfl) rfl)) (DL.wb_wn (DL.wn_lst (DL.wa_nil) (by decide +kernel))) (DL.cmp_eqNil (hd1) (hd2) (hr.units)) (rfl)) (fun _ => ?_) (fun _ => ?_))) (rfl) (rfl) (rfl)))
    · exact (DL.wss_cons (DL.ws_ret (DL.we_non) (rfl)))
    · rename_i z
      rw [hd] at z
      cases z
  · rw [divD, if_neg hd]
    have hdl := divs_len h
    have hd1 := dvs_dat (divs bs)
    have hd2 := dvs_shaped (divs bs)
    have hlen : 1 ≤ (divs bs).length := by
      rcases hq : divs bs with _ | ⟨a, l⟩
      · exact absurd hq hd
      · simp
    have m0 := Int.emod_nonneg cell (by omega : ((divs bs).length : Int) ≠ 0)
    have m1 := Int.emod_lt_of_pos cell (by omega : (0 : Int) < ((divs bs).length : Int))
    have hq : atI (divs bs) (cell % ((divs bs).length : Int)) = some (dvAt bs cell) := by
      unfold dvAt
      rw [atI_nn m0 m1]
      rfl
    have hq2 : atI ((divs bs).map dvD) (cell % (((divs bs).map dvD).length : Int)) = some (dvD (dvAt bs cell)) := by
      rw [List.length_map, atI_nn m0 (by rw [List.length_map]; exact m1)]
      rw [atI_nn m0 m1] at hq
      rw [List.getElem_map, Option.some.inj hq]
    have hin : dvAt bs cell ∈ divs bs := by
      rw [atI_nn m0 m1] at hq
      rw [← Option.some.inj hq]
      exact List.getElem_mem _
    have hfew := h.few
    have hdiv : divBs bs cell = bksDv bs (dvAt bs cell) (cell / ((divs bs).length : Int)) := by rw [divBs]
    have hcl : (((divs bs).map dvD).length : Int) = ((divs bs).length : Int) := by rw [List.length_map]
    generalize dvAt bs cell = q at *
    have hem : decide (divs bs = []) = false := decide_eq_false hd
    rcases divs_ok hin with ⟨A', B', n, Cs, Es, va, vb, x, hb, hx, h30⟩ | ⟨A', B', n, Cs, Es, va, vb, y, x, hb, hx⟩ | ⟨A', B', n, Cs, Es, va, x, ch, hb, hx, h30⟩
    · have fb : ∀ q : Addr, atI (A'.map bkL ++ D.tup [D.str n, D.ref q] :: B'.map bkL) (A'.length : Int) = some (D.tup [D.str n, D.ref q]) := fun q => atI_midD (by simp)
      have fc : ∀ q : Addr, atI (Cs.map chL ++ D.ref q :: Es.map chL) (Cs.length : Int) = some (D.ref q) := fun q => atI_midD (by simp)
      have fv : atI ((va ++ x :: vb).map D.int) (va.length : Int) = some (.int x) := atI_mid D.int rfl rfl
      have hsp : (D.lst (bs.map bkL)) = .lst (A'.map bkL ++ .tup [.str n, .lst (Cs.map chL ++ .lst ((va ++ x :: vb).map D.int) :: Es.map chL)] :: B'.map bkL) := by rw [hb]; simp [bkL, chL]
      refine (DL.wss_cons (DL.ws_asg (DL.we_call k1 hr (DL.wa_cons (DL.we_var 0 rfl (Or.inl rfl) rfl) (DL.wa_nil) (rfl)) (DL.divsR.mk _ h) (rfl) (rfl) (rfl) (rfl)) (DL.wg_name 2 hN (rfl) (Or.inl rfl) (Or.inl rfl)) (DL.wss_cons (DL.ws_if (DL.wt_cmp (DL.wb_of (DL.we_var 2 rfl (Or.inl rfl) rfl)) (DL.wb_wn (DL.wn_lst (DL.wa_nil) (by decide +kernel))) (DL.cmp_eqNil (hd1) (hd2) (hr.units)) (rfl)) (fun _ => ?_) (fun _ => ?_))) (rfl) (rfl) (rfl)))
      · rename_i z
        rw [List.isEmpty_iff, List.map_eq_nil_iff] at z
        exact absurd z hd
      · refine (DL.wss_nil (DL.Wk.refl _) (DL.wss_cons (DL.ws_asg (DL.we_sub' (DL.we_var 2 rfl (Or.inl rfl) rfl) (DL.wb_of (DL.we_bin (DL.wb_of (DL.we_var 1 rfl (Or.inl rfl) rfl)) (DL.wb_of (DL.we_len (DL.wb_of (DL.we_var 2 rfl (Or.inl rfl) rfl)) (DL.len_l) (G.free _ (by decide +kernel)) (rfl) (rfl))) (DL.bin_mod (by omega)))) (DL.sub_l (hq2)) (fun _ _ => rfl)) (DL.wg_tup (DL.wgs_cons (DL.wg_name 3 hN (rfl) (Or.inl rfl) (Or.inl rfl)) (DL.wgs_cons (DL.wg_name 4 hN (rfl) (Or.inl rfl) (Or.inl rfl)) (DL.wgs_cons (DL.wg_name 5 hN (rfl) (Or.inl rfl) (Or.inl rfl)) (DL.wgs_cons (DL.wg_name 6 hN (rfl) (Or.inl rfl) (Or.inl rfl)) (DL.wgs_nil) (rfl)) (rfl)) (rfl)) (rfl)) (rfl) (rfl) (rfl)) (DL.wss_cons (ws_asgT1 (As := A'.map bkL) (Bs := B'.map bkL) (Cs := Cs.map chL) (Es := Es.map chL) (xs := (va ++ x :: vb).map D.int) (d1 := .str n) 7 (DL.wu_call k2 hr (DL.wa_cons (DL.we_var 0 rfl (Or.inl rfl) rfl) (DL.wa_nil) (rfl)) (DL.copyR.mk _ hfew) (rfl) (rfl) (rfl) (rfl)) (hsp) (fun p0 => (fun p1 => (fun p2 => (DL.wss_cons (DL.ws_asg (DL.we_sub' (DL.we_ixO 0 (DL.we_var 7 rfl (Or.inl rfl) rfl) (rfl) (DL.wb_of (DL.we_var 4 rfl (Or.inl rfl) rfl)) (fb _) (fun _ _ => rfl)) (DL.wb_of (DL.we_int)) (DL.sub_t (rfl)) (fun _ _ => rfl)) (DL.wg_name 8 hN (rfl) (Or.inl rfl) (Or.inl rfl)) (DL.wss_cons (DL.ws_asg (DL.we_ixO 1 (DL.we_var 8 rfl (Or.inl rfl) rfl) (rfl) (DL.wb_of (DL.we_var 5 rfl (Or.inl rfl) rfl)) (fc _) (fun _ _ => rfl)) (DL.wg_name 9 hN (rfl) (Or.inl rfl) (Or.inl rfl)) (DL.wss_cons (DL.ws_if (DL.wt_cmp (DL.wb_of (DL.we_var 3 rfl (Or.inl rfl) rfl)) (DL.wb_of (DL.we_int)) (DL.cmp_eqI) (rfl)) (fun _ => (DL.wss_cons (DL.ws_asg (DL.we_bin (DL.wb_of (DL.we_int)) (DL.wb_of (DL.we_bin (DL.wb_of (DL.we_bin (DL.wb_of (DL.we_var 1 rfl (Or.inl rfl) rfl)) (DL.wb_of (DL.we_len (DL.wb_of (DL.we_var 2 rfl (Or.inl rfl) rfl)) (DL.len_l) (G.free _ (by decide +kernel)) (rfl) (rfl))) (DL.bin_fdiv (⟨by omega, by omega⟩)))) (DL.wb_of (DL.we_bin (DL.wb_of (DL.we_ixO 2 (DL.we_var 9 rfl (Or.inl rfl) rfl) (rfl) (DL.wb_of (DL.we_var 6 rfl (Or.inl rfl) rfl)) fv (fun _ _ => rfl))) (DL.wb_of (DL.we_int)) (DL.bin_sub))) (DL.bin_mod (by omega)))) (DL.bin_add)) (DL.wg_name 10 hN (rfl) (Or.inl rfl) (Or.inl rfl)) (DL.wss_cons (DL.ws_setSl 2 (DL.wn_lst (DL.wa_cons (DL.we_var 10 rfl (Or.inl rfl) rfl) (DL.wa_cons (DL.we_bin (DL.wb_of (DL.we_ixO 2 (DL.we_var 9 rfl (Or.inl rfl) rfl) (rfl) (DL.wb_of (DL.we_var 6 rfl (Or.inl rfl) rfl)) fv (fun _ _ => rfl))) (DL.wb_of (DL.we_var 10 rfl (Or.inl rfl) rfl)) (DL.bin_sub)) (DL.wa_nil) (rfl)) (rfl)) (Nat.le_of_ble_eq_true rfl)) (DL.we_var 9 rfl (Or.inl rfl) rfl) (rfl) (DL.wb_of (DL.we_var 6 rfl (Or.inl rfl) rfl)) (DL.wb_of (DL.we_bin (DL.wb_of (DL.we_var 6 rfl (Or.inl rfl) rfl)) (DL.wb_of (DL.we_int)) (DL.bin_add))) (by simp only [List.length_map, List.length_append, List.length_cons, List.length_nil]; omega) (by omega) (by simp only [List.length_map, List.length_append, List.length_cons, List.length_nil]; omega) ?_ (DL.wss_nil (DL.Wk.refl _) (DL.wss_fzL 2 1 (rfl) (rfl) (by decide) (DL.FzL.mid _ _) (DL.wss_fzL 1 0 (rfl) (rfl) (by decide) (DL.FzL.midT _ _) (DL.wss_cons (DL.ws_retF 0 (DL.we_var 7 rfl (Or.inl rfl) rfl) (rfl) ?_))))) (rfl) (rfl) (rfl) (by intros; first | rfl | exact DL.RepL.nil | exact DL.RepL.cons DL.Rep.non DL.RepL.nil))) (rfl) (rfl) (rfl)))) (fun z => nomatch z))) (rfl) (rfl) (rfl))) (rfl) (rfl) (rfl)))))) hN (rfl) (Or.inl rfl))) (rfl) (rfl) (rfl))))
        · exact smallE (by simp at h30 ⊢; omega)
        rw [hdiv, hb, bksDv_mid, chsDv_cut]
        have e1 : ((va.length : Int) + 1).toNat = va.length + 1 := by omega
        have e2 : (va.map D.int ++ D.int x :: vb.map D.int).drop (va.length + 1) = vb.map D.int := by
          have : va.map D.int ++ D.int x :: vb.map D.int = (va.map D.int ++ [D.int x]) ++ vb.map D.int := by simp
          rw [this]
          exact List.drop_left' (by simp)
        have e3 : (va.map D.int ++ D.int x :: vb.map D.int).take va.length = va.map D.int := List.take_left' (by simp)
        simp [bkL, chL, e1, e2, e3]
    · have fb : ∀ q : Addr, atI (A'.map bkL ++ D.tup [D.str n, D.ref q] :: B'.map bkL) (A'.length : Int) = some (D.tup [D.str n, D.ref q]) := fun q => atI_midD (by simp)
      have fc : ∀ q : Addr, atI (Cs.map chL ++ D.ref q :: Es.map chL) (Cs.length : Int) = some (D.ref q) := fun q => atI_midD (by simp)
      have fv : atI ((va ++ y :: x :: vb).map D.int) (((va.length : Int) + 1) - 1) = some (.int y) := atI_mid D.int rfl (by omega)
      have fw : atI ((va ++ y :: x :: vb).map D.int) ((va.length : Int) + 1) = some (.int x) := atI_mid (pre := va ++ [y]) (post := vb) D.int (by simp) (by simp)
      have hsp : (D.lst (bs.map bkL)) = .lst (A'.map bkL ++ .tup [.str n, .lst (Cs.map chL ++ .lst ((va ++ y :: x :: vb).map D.int) :: Es.map chL)] :: B'.map bkL) := by rw [hb]; simp [bkL, chL]
      have h30 : (va ++ y :: x :: vb).length ≤ 100 := (hfew.v _ (by rw [hb]; exact List.mem_append_right _ (List.mem_cons_self ..)) _ (List.mem_append_right _ (List.mem_cons_self ..)))
      refine (DL.wss_cons (DL.ws_asg (DL.we_call k1 hr (DL.wa_cons (DL.we_var 0 rfl (Or.inl rfl) rfl) (DL.wa_nil) (rfl)) (DL.divsR.mk _ h) (rfl) (rfl) (rfl) (rfl)) (DL.wg_name 2 hN (rfl) (Or.inl rfl) (Or.inl rfl)) (DL.wss_cons (DL.ws_if (DL.wt_cmp (DL.wb_of (DL.we_var 2 rfl (Or.inl rfl) rfl)) (DL.wb_wn (DL.wn_lst (DL.wa_nil) (by decide +kernel))) (DL.cmp_eqNil (hd1) (hd2) (hr.units)) (rfl)) (fun _ => ?_) (fun _ => ?_))) (rfl) (rfl) (rfl)))
      · rename_i z
        rw [List.isEmpty_iff, List.map_eq_nil_iff] at z
        exact absurd z hd
      · refine (DL.wss_nil (DL.Wk.refl _) (DL.wss_cons (DL.ws_asg (DL.we_sub' (DL.we_var 2 rfl (Or.inl rfl) rfl) (DL.wb_of (DL.we_bin (DL.wb_of (DL.we_var 1 rfl (Or.inl rfl) rfl)) (DL.wb_of (DL.we_len (DL.wb_of (DL.we_var 2 rfl (Or.inl rfl) rfl)) (DL.len_l) (G.free _ (by decide +kernel)) (rfl) (rfl))) (DL.bin_mod (by omega)))) (DL.sub_l (hq2)) (fun _ _ => rfl)) (DL.wg_tup (DL.wgs_cons (DL.wg_name 3 hN (rfl) (Or.inl rfl) (Or.inl rfl)) (DL.wgs_cons (DL.wg_name 4 hN (rfl) (Or.inl rfl) (Or.inl rfl)) (DL.wgs_cons (DL.wg_name 5 hN (rfl) (Or.inl rfl) (Or.inl rfl)) (DL.wgs_cons (DL.wg_name 6 hN (rfl) (Or.inl rfl) (Or.inl rfl)) (DL.wgs_nil) (rfl)) (rfl)) (rfl)) (rfl)) (rfl) (rfl) (rfl)) (DL.wss_cons (ws_asgT1 (As := A'.map bkL) (Bs := B'.map bkL) (Cs := Cs.map chL) (Es := Es.map chL) (xs := (va ++ y :: x :: vb).map D.int) (d1 := .str n) 7 (DL.wu_call k2 hr (DL.wa_cons (DL.we_var 0 rfl (Or.inl rfl) rfl) (DL.wa_nil) (rfl)) (DL.copyR.mk _ hfew) (rfl) (rfl) (rfl) (rfl)) (hsp) (fun p0 => (fun p1 => (fun p2 => (DL.wss_cons (DL.ws_asg (DL.we_sub' (DL.we_ixO 0 (DL.we_var 7 rfl (Or.inl rfl) rfl) (rfl) (DL.wb_of (DL.we_var 4 rfl (Or.inl rfl) rfl)) (fb _) (fun _ _ => rfl)) (DL.wb_of (DL.we_int)) (DL.sub_t (rfl)) (fun _ _ => rfl)) (DL.wg_name 8 hN (rfl) (Or.inl rfl) (Or.inl rfl)) (DL.wss_cons (DL.ws_asg (DL.we_ixO 1 (DL.we_var 8 rfl (Or.inl rfl) rfl) (rfl) (DL.wb_of (DL.we_var 5 rfl (Or.inl rfl) rfl)) (fc _) (fun _ _ => rfl)) (DL.wg_name 9 hN (rfl) (Or.inl rfl) (Or.inl rfl)) (DL.wss_cons (DL.ws_if (DL.wt_cmp (DL.wb_of (DL.we_var 3 rfl (Or.inl rfl) rfl)) (DL.wb_of (DL.we_int)) (DL.cmp_eqI) (rfl)) (fun z => nomatch z) (fun _ => (DL.wss_cons (DL.ws_if (DL.wt_cmp (DL.wb_of (DL.we_var 3 rfl (Or.inl rfl) rfl)) (DL.wb_of (DL.we_int)) (DL.cmp_eqI) (rfl)) (fun _ => (DL.wss_cons (DL.ws_setSl 2 (DL.wn_lst (DL.wa_cons (DL.we_bin (DL.wb_of (DL.we_ixO 2 (DL.we_var 9 rfl (Or.inl rfl) rfl) (rfl) (DL.wb_of (DL.we_bin (DL.wb_of (DL.we_var 6 rfl (Or.inl rfl) rfl)) (DL.wb_of (DL.we_int)) (DL.bin_sub))) fv (fun _ _ => rfl))) (DL.wb_of (DL.we_ixO 2 (DL.we_var 9 rfl (Or.inl rfl) rfl) (rfl) (DL.wb_of (DL.we_var 6 rfl (Or.inl rfl) rfl)) fw (fun _ _ => rfl))) (DL.bin_add)) (DL.wa_nil) (rfl)) (Nat.le_of_ble_eq_true rfl)) (DL.we_var 9 rfl (Or.inl rfl) rfl) (rfl) (DL.wb_of (DL.we_bin (DL.wb_of (DL.we_var 6 rfl (Or.inl rfl) rfl)) (DL.wb_of (DL.we_int)) (DL.bin_sub))) (DL.wb_of (DL.we_bin (DL.wb_of (DL.we_var 6 rfl (Or.inl rfl) rfl)) (DL.wb_of (DL.we_int)) (DL.bin_add))) (by simp only [List.length_map, List.length_append, List.length_cons, List.length_nil]; omega) (by omega) (by simp only [List.length_map, List.length_append, List.length_cons, List.length_nil]; omega) ?_ (DL.wss_nil (DL.Wk.refl _) (DL.wss_nil (DL.Wk.refl _) (DL.wss_fzL 2 1 (rfl) (rfl) (by decide) (DL.FzL.mid _ _) (DL.wss_fzL 1 0 (rfl) (rfl) (by decide) (DL.FzL.midT _ _) (DL.wss_cons (DL.ws_retF 0 (DL.we_var 7 rfl (Or.inl rfl) rfl) (rfl) ?_)))))) (rfl) (rfl) (rfl) (by intros; first | rfl | exact DL.RepL.nil | exact DL.RepL.cons DL.Rep.non DL.RepL.nil)))) (fun z => nomatch z)))))) (rfl) (rfl) (rfl))) (rfl) (rfl) (rfl)))))) hN (rfl) (Or.inl rfl))) (rfl) (rfl) (rfl))))
        · exact smallE (by simp at h30 ⊢; omega)
        rw [hdiv, hb, bksDv_mid, chsDv_join]
        have e1 : ((va.length : Int) + 1 - 1).toNat = va.length := by omega
        have e0 : ((va.length : Int) + 1 + 1).toNat = va.length + 2 := by omega
        have e2 : (va.map D.int ++ D.int y :: D.int x :: vb.map D.int).drop (va.length + 2) = vb.map D.int := by
          have : va.map D.int ++ D.int y :: D.int x :: vb.map D.int = (va.map D.int ++ [D.int y, D.int x]) ++ vb.map D.int := by simp
          rw [this]
          exact List.drop_left' (by simp)
        have e3 : (va.map D.int ++ D.int y :: D.int x :: vb.map D.int).take va.length = va.map D.int := List.take_left' (by simp)
        simp [bkL, chL, e0, e1, e2, e3]
    · have fb : ∀ q : Addr, atI (A'.map bkL ++ D.tup [D.str n, D.ref q] :: B'.map bkL) (A'.length : Int) = some (D.tup [D.str n, D.ref q]) := fun q => atI_midD (by simp)
      have fc : ∀ q q2 : Addr, atI (Cs.map chL ++ D.ref q :: D.ref q2 :: Es.map chL) (Cs.length : Int) = some (D.ref q) := fun q q2 => atI_midD (by simp)
      have fd : ∀ q q2 : Addr, atI (Cs.map chL ++ D.ref q :: D.ref q2 :: Es.map chL) ((Cs.length : Int) + 1) = some (D.ref q2) := fun q q2 => by
        have : Cs.map chL ++ D.ref q :: D.ref q2 :: Es.map chL = (Cs.map chL ++ [D.ref q]) ++ D.ref q2 :: Es.map chL := by simp
        rw [this]
        exact atI_midD (by simp)
      have hsp : (D.lst (bs.map bkL)) = .lst (A'.map bkL ++ .tup [.str n, .lst (Cs.map chL ++ .lst (va.map D.int ++ [D.int x]) :: .lst (ch.map D.int) :: Es.map chL)] :: B'.map bkL) := by rw [hb]; simp [bkL, chL]
      refine (DL.wss_cons (DL.ws_asg (DL.we_call k1 hr (DL.wa_cons (DL.we_var 0 rfl (Or.inl rfl) rfl) (DL.wa_nil) (rfl)) (DL.divsR.mk _ h) (rfl) (rfl) (rfl) (rfl)) (DL.wg_name 2 hN (rfl) (Or.inl rfl) (Or.inl rfl)) (DL.wss_cons (DL.ws_if (DL.wt_cmp (DL.wb_of (DL.we_var 2 rfl (Or.inl rfl) rfl)) (DL.wb_wn (DL.wn_lst (DL.wa_nil) (by decide +kernel))) (DL.cmp_eqNil (hd1) (hd2) (hr.units)) (rfl)) (fun _ => ?_) (fun _ => ?_))) (rfl) (rfl) (rfl)))
      · rename_i z
        rw [List.isEmpty_iff, List.map_eq_nil_iff] at z
        exact absurd z hd
      · refine (DL.wss_nil (DL.Wk.refl _) (DL.wss_cons (DL.ws_asg (DL.we_sub' (DL.we_var 2 rfl (Or.inl rfl) rfl) (DL.wb_of (DL.we_bin (DL.wb_of (DL.we_var 1 rfl (Or.inl rfl) rfl)) (DL.wb_of (DL.we_len (DL.wb_of (DL.we_var 2 rfl (Or.inl rfl) rfl)) (DL.len_l) (G.free _ (by decide +kernel)) (rfl) (rfl))) (DL.bin_mod (by omega)))) (DL.sub_l (hq2)) (fun _ _ => rfl)) (DL.wg_tup (DL.wgs_cons (DL.wg_name 3 hN (rfl) (Or.inl rfl) (Or.inl rfl)) (DL.wgs_cons (DL.wg_name 4 hN (rfl) (Or.inl rfl) (Or.inl rfl)) (DL.wgs_cons (DL.wg_name 5 hN (rfl) (Or.inl rfl) (Or.inl rfl)) (DL.wgs_cons (DL.wg_name 6 hN (rfl) (Or.inl rfl) (Or.inl rfl)) (DL.wgs_nil) (rfl)) (rfl)) (rfl)) (rfl)) (rfl) (rfl) (rfl)) (DL.wss_cons (ws_asgT2 (As := A'.map bkL) (Bs := B'.map bkL) (Cs := Cs.map chL) (Es := Es.map chL) (xs := va.map D.int ++ [D.int x]) (ys := ch.map D.int) (d1 := .str n) 7 (DL.wu_call k2 hr (DL.wa_cons (DL.we_var 0 rfl (Or.inl rfl) rfl) (DL.wa_nil) (rfl)) (DL.copyR.mk _ hfew) (rfl) (rfl) (rfl) (rfl)) (hsp) (fun p0 => (fun p1 => (fun p2 => (fun p3 => (DL.wss_cons (DL.ws_asg (DL.we_sub' (DL.we_ixO 0 (DL.we_var 7 rfl (Or.inl rfl) rfl) (rfl) (DL.wb_of (DL.we_var 4 rfl (Or.inl rfl) rfl)) (fb _) (fun _ _ => rfl)) (DL.wb_of (DL.we_int)) (DL.sub_t (rfl)) (fun _ _ => rfl)) (DL.wg_name 8 hN (rfl) (Or.inl rfl) (Or.inl rfl)) (DL.wss_cons (DL.ws_asg (DL.we_ixO 1 (DL.we_var 8 rfl (Or.inl rfl) rfl) (rfl) (DL.wb_of (DL.we_var 5 rfl (Or.inl rfl) rfl)) (fc _ _) (fun _ _ => rfl)) (DL.wg_name 9 hN (rfl) (Or.inl rfl) (Or.inl rfl)) (DL.wss_cons (DL.ws_if (DL.wt_cmp (DL.wb_of (DL.we_var 3 rfl (Or.inl rfl) rfl)) (DL.wb_of (DL.we_int)) (DL.cmp_eqI) (rfl)) (fun z => nomatch z) (fun _ => (DL.wss_cons (DL.ws_if (DL.wt_cmp (DL.wb_of (DL.we_var 3 rfl (Or.inl rfl) rfl)) (DL.wb_of (DL.we_int)) (DL.cmp_eqI) (rfl)) (fun z => nomatch z) (fun _ => (DL.wss_cons (DL.ws_insPop 3 2 (DL.we_ixO 1 (DL.we_var 8 rfl (Or.inl rfl) rfl) (rfl) (DL.wb_of (DL.we_bin (DL.wb_of (DL.we_var 5 rfl (Or.inl rfl) rfl)) (DL.wb_of (DL.we_int)) (DL.bin_add))) (fd _ _) (fun _ _ => rfl)) (rfl) (DL.wb_of (DL.we_int)) (DL.we_var 9 rfl (Or.inl rfl) rfl) (rfl) (by first | (intro z; cases z; done) | fail) (DL.small (by simp only [List.length_map]; omega)) (by decide +kernel) (by decide +kernel) (DL.wss_nil (DL.Wk.refl _) (DL.wss_nil (DL.Wk.refl _) (DL.wss_fzL 3 1 (rfl) (rfl) (by decide) (DL.FzL.mid2 _ _) (DL.wss_fzL 2 1 (rfl) (rfl) (by decide) (DL.FzL.mid _ _) (DL.wss_fzL 1 0 (rfl) (rfl) (by decide) (DL.FzL.midT _ _) (DL.wss_cons (DL.ws_retF 0 (DL.we_var 7 rfl (Or.inl rfl) rfl) (rfl) ?_))))))) (rfl) (rfl) (rfl) (rfl) (rfl) (rfl) (rfl) (rfl) (rfl))))))))) (rfl) (rfl) (rfl))) (rfl) (rfl) (rfl))))))) hN (rfl) (Or.inl rfl))) (rfl) (rfl) (rfl))))
        rw [hdiv, hb, bksDv_mid, chsDv_move]
        simp [bkL, chL]
end
end DL
/-! V66x: a leading unlike another one, walked. -/
namespace DL
open PySem PySem.Spec PyProof.Rows L2
def frN (c : Nat) : Str := (⟨#[c]⟩ : Str) ++ "zzzzz"
def frL (ns : List Str) : List Nat := ("qxvjkzw" : Str).cps.toList.filter fun c => !decide (frN c ∈ ns)
def frOf (ns : List Str) : Str := frN ((frL ns).headD 0)
def unAt (F : List Int) (cell : Int) : Int := cell / 12 % (F.length : Int)
def nmB (B : List Bk) : List Str := B.map fun b => b.1
def frB (B : List Bk) (i : Nat) : List Bk := B.set i (frOf (nmB B), (B[i]?.getD ("", [])).2)
def swF (F : List Int) (i j : Nat) : List Int := (F.set i (F[j]?.getD 0)).set j (F[i]?.getD 0)
def befI (F : List Int) (i : Int) : Nat := ((ixN F.length (i - 1)).getD 0)
@[irreducible] def unB (B : List Bk) (F : List Int) (cell : Int) : List Bk :=
  if cell % 6 = 1 ∧ divs B ≠ [] then divBs B (cell / 12)
  else if cell % 6 = 2 then frB B (unAt F cell % (B.length : Int)).toNat
  else if cell % 6 = 4 ∧ 1 < (B.length : Int) then B.drop 1 ++ B.take 1
  else B
@[irreducible] def unF (B : List Bk) (F : List Int) (cell : Int) : List Int :=
  if cell % 6 = 0 then F.map (· + 1)
  else if cell % 6 = 1 ∧ divs B ≠ [] then F
  else if cell % 6 = 2 then F
  else if cell % 6 = 3 ∧ 1 < (F.length : Int) then swF F (unAt F cell).toNat (befI F (unAt F cell))
  else if cell % 6 = 4 ∧ 1 < (B.length : Int) then F
  else F.take (unAt F cell).toNat ++ [9999] ++ F.drop ((unAt F cell).toNat + 1)
@[irreducible] def unS (S : List Int) (cell : Int) : List Int := if cell % 6 = 0 then S.map (· + 1) else S
/-- what the two editions are to be -/
structure UnOk (B : List Bk) (F : List Int) (O : List Bk) (S : List Int) (cell : Int) : Prop where
  b : OkBooks B
  o : OkBooks O
  f : 1 ≤ F.length ∧ F.length ≤ 400
  s : S.length ≤ 400
  a1 : OkEd ⟨unB B F cell, unF B F cell⟩
  a2 : OkLs (unF B F cell)
  c1 : OkEd ⟨O, unS S cell⟩
  c2 : OkLs (unS S cell)
def unLd (bs : List Bk) (fs : List Int) (os : List Bk) (ss : List Int) (cell : Int) : Ed × Ed :=
  if cell / 6 % 2 = 1 then (⟨bs, unS fs cell⟩, ⟨unB os ss cell, unF os ss cell⟩) else (⟨unB bs fs cell, unF bs fs cell⟩, ⟨os, unS ss cell⟩)
inductive unlikeR (CL CE : Addr) : List D → D → Prop
  | mk (bs : List Bk) (fs : List Int) (os : List Bk) (ss : List Int) (cell : Int) (h1 : cell / 6 % 2 = 1 → UnOk os ss bs fs cell) (h2 : ¬ cell / 6 % 2 = 1 → UnOk bs fs os ss cell) : unlikeR CL CE [.lst (bs.map bkL), .lst (fs.map D.int), .lst (os.map bkL), .lst (ss.map D.int), .int cell] (ldD CL CE (unLd bs fs os ss cell).1 (unLd bs fs os ss cell).2)
theorem ixN_nn {n : Nat} {k : Int} (h0 : 0 ≤ k) (h1 : k < (n : Int)) : ixN n k = some k.toNat := by
  unfold ixN
  rw [if_pos h0, if_pos (by omega)]
theorem atI_mapG {τ : Type} (f : τ → D) {l : List τ} {k : Int} {x : τ} {j : Nat} (hj : ixN l.length k = some j) (hx : l[j]? = some x) : atI (l.map f) k = some (f x) := by
  unfold atI
  rw [List.length_map, hj]
  simp [hx]
theorem bef_ix {F : List Int} {i : Int} (h0 : 0 ≤ i) (h1 : i < (F.length : Int)) : ixN F.length (i - 1) = some (befI F i) ∧ befI F i < F.length ∧ (1 < F.length → befI F i ≠ i.toNat) := by
  unfold befI ixN
  by_cases h : 0 ≤ i - 1
  · rw [if_pos h, if_pos (by omega)]
    exact ⟨rfl, by simp; omega, fun _ => by simp; omega⟩
  · rw [if_neg h, if_pos (by omega)]
    exact ⟨rfl, by simp; omega, fun _ => by simp; omega⟩
theorem php {α : Type} [DecidableEq α] : ∀ (l m : List α), l.Nodup → (∀ x ∈ l, x ∈ m) → l.length ≤ m.length
  | [], _, _, _ => Nat.zero_le _
  | a :: l, m, h, q => by
    obtain ⟨n1, n2⟩ := List.nodup_cons.mp h
    have ha := q a List.mem_cons_self
    have := php l (m.erase a) n2 fun x hx => (List.mem_erase_of_ne fun (z : x = a) => n1 (by rw [← z]; exact hx)).mpr (q x (List.mem_cons_of_mem _ hx))
    rw [List.length_erase_of_mem ha] at this
    have := List.length_pos_of_mem ha
    simp only [List.length_cons]
    omega
theorem frL_ne {ns : List Str} (h : ns.length ≤ 6) : ∃ c r, frL ns = c :: r := by
  rcases hq : frL ns with _ | ⟨c, r⟩
  · exfalso
    unfold frL at hq
    rw [List.filter_eq_nil_iff] at hq
    have h7 : (("qxvjkzw" : Str).cps.toList.map frN).Nodup := by decide +kernel
    have := php _ ns h7 fun x hx => by
      obtain ⟨c, hc, rfl⟩ := List.mem_map.mp hx
      have := hq c hc
      simpa using this
    have e : (("qxvjkzw" : Str).cps.toList.map frN).length = 7 := by decide +kernel
    omega
  · exact ⟨c, r, rfl⟩
theorem frOf_at {ns : List Str} (h : ns.length ≤ 6) : atI (((("qxvjkzw" : Str).cps.toList).filter (fun c => !decide (frN c ∈ ns))).map fun c => D.str (frN c)) 0 = some (.str (frOf ns)) := by
  obtain ⟨c, r, hc⟩ := frL_ne h
  have hc' := hc
  unfold frL at hc
  rw [hc]
  unfold frOf
  rw [hc']
  exact atI_mid (pre := []) (fun c => D.str (frN c)) rfl rfl
theorem frOf_nin {ns : List Str} (h : ns.length ≤ 6) : frOf ns ∉ ns := by
  obtain ⟨c, r, hc⟩ := frL_ne h
  have : c ∈ frL ns := by rw [hc]; simp
  unfold frL at this
  have := (List.mem_filter.mp this).2
  unfold frOf
  rw [hc]
  simpa using this
theorem cut_to {α : Type} (l : List α) {i : Int} (h0 : 0 ≤ i) (h1 : i ≤ (l.length : Int)) : DL.cutD l none (some i) = l.take i.toNat := by
  unfold DL.cutD
  have e : HT.sIx l.length l.length (some i) = i.toNat := by
    unfold HT.sIx
    simp only
    rw [if_neg (by omega)]
    omega
  rw [e, HT.sIx_none]
  simp
theorem cut_from {α : Type} (l : List α) {i : Int} (h0 : 0 ≤ i) (h1 : i ≤ (l.length : Int)) : DL.cutD l (some i) none = l.drop i.toNat := by
  unfold DL.cutD
  have e : HT.sIx l.length 0 (some i) = i.toNat := by
    unfold HT.sIx
    simp only
    rw [if_neg (by omega)]
    omega
  rw [e, HT.sIx_none]
  exact List.take_of_length_le (by rw [List.length_drop]; omega)
theorem sc71 : FnScope ["books", "first", "others", "second", "cell", "turned", "way", "at", "one", "taken", "fresh", "found", "thread", "name", "chapters", "sign"] ["books", "first", "others", "second", "cell"] (defScope (top 71)) := (⟨rfl, rfl, rfl, by decide +kernel, rfl, by decide +kernel, by decide +kernel⟩)
section
variable {P : Program} {w : World} {K : PySem.W.Frag} {mg : Str → Option Value} {base : Heap} {f CL C : Addr} {fd : FuncData} (G : G66 mg)
include G
theorem ok_unlike (F : FD K "_law_unlike" "_law_unlike" (top 71) f fd) (k1T : Kn P w K mg base "_law_copy" 1 [] (spT K copyR)) (k2 : Kn P w K mg base "_law_divided" 2 [] (spR K dividedR)) (k3 : Kn P w K mg base "_law_edition" 7 [] (spR K (lawEdR C))) (k4 : KnC P w K mg base "Leading" CL 2 [] (spI K CL (ldInR CL C))) (k5 : KnM P w K mg base CL "turned" 4 [] (spR K (ldTurnedR CL C))) : FnOk P w K mg base CX0 8 f fd ["books", "first", "others", "second", "cell"] (spR K (unlikeR CL C)) := by
  have hN := sc71.nd
  refine fn_okR F sc71 (fun ds d h => by cases h <;> rfl) fun cdv A outer s H E hr ds d hR => ?_
  obtain ⟨bs, fs, os, ss, cell, h1, h2⟩ := hR
  have sel : ∃ (B : List Bk) (F : List Int) (O : List Bk) (S : List Int), UnOk B F O S cell ∧ (cell / 6 % 2 = 1 → os = B ∧ ss = F ∧ bs = O ∧ fs = S) ∧ (¬ cell / 6 % 2 = 1 → bs = B ∧ fs = F ∧ os = O ∧ ss = S) := by
    by_cases ht : cell / 6 % 2 = 1
    · exact ⟨os, ss, bs, fs, h1 ht, fun _ => ⟨rfl, rfl, rfl, rfl⟩, fun z => absurd ht z⟩
    · exact ⟨bs, fs, os, ss, h2 ht, fun z => absurd z ht, fun _ => ⟨rfl, rfl, rfl, rfl⟩⟩
  clear h1 h2
  obtain ⟨B, F, O, S, ok, s1, s2⟩ := sel
  have f1 := ok.f
  have f2 := ok.s
  have hB := ok.b
  have fw := hB.few
  have hlo := hB.lo
  have hhi := hB.hi
  have a1 := ok.a1
  have a2 := ok.a2
  have c1 := ok.c1
  have c2 := ok.c2
  have fwa := ok.a1.b.few
  have fwO := ok.o.few
  have hF0 : ((F.map D.int).length : Int) = (F.length : Int) := by rw [List.length_map]
  have hB0 : ((B.map bkL).length : Int) = (B.length : Int) := by rw [List.length_map]
  have m0 := Int.emod_nonneg (cell / 12) (by omega : (F.length : Int) ≠ 0)
  have m1 := Int.emod_lt_of_pos (cell / 12) (by omega : (0 : Int) < (F.length : Int))
  have n0 := Int.emod_nonneg (unAt F cell) (by omega : (B.length : Int) ≠ 0)
  have n1 := Int.emod_lt_of_pos (unAt F cell) (by omega : (0 : Int) < (B.length : Int))
  obtain ⟨e1, e2, e3⟩ := bef_ix m0 m1
  obtain ⟨x, ex⟩ : ∃ x, F[(unAt F cell).toNat]? = some x := ⟨_, List.getElem?_eq_getElem (by unfold unAt; omega)⟩
  obtain ⟨y, ey⟩ : ∃ y, F[befI F (unAt F cell)]? = some y := ⟨_, List.getElem?_eq_getElem e2⟩
  obtain ⟨b, eb⟩ : ∃ b, B[(unAt F cell % (B.length : Int)).toNat]? = some b := ⟨_, List.getElem?_eq_getElem (by omega)⟩
  obtain ⟨bn, bc⟩ := b
  have g1 : atI (F.map D.int) (cell / 12 % ((F.map D.int).length : Int)) = some (.int x) := by rw [hF0]; exact atI_mapG D.int (ixN_nn m0 m1) ex
  have g2 : atI (F.map D.int) (cell / 12 % ((F.map D.int).length : Int) - 1) = some (.int y) := by rw [hF0]; exact atI_mapG D.int e1 ey
  have g3 : ixN (F.map D.int).length (cell / 12 % ((F.map D.int).length : Int)) = some (unAt F cell).toNat := by rw [hF0, List.length_map]; exact ixN_nn m0 m1
  have g4 : ∀ (j : Nat) (d : D), ixN ((F.map D.int).set j d).length (cell / 12 % ((F.map D.int).length : Int) - 1) = some (befI F (unAt F cell)) := fun j d => by rw [List.length_set, hF0, List.length_map]; exact e1
  have g5 : ixN (B.map bkL).length (cell / 12 % ((F.map D.int).length : Int) % ((B.map bkL).length : Int)) = some (unAt F cell % (B.length : Int)).toNat := by rw [hF0, hB0, List.length_map]; exact ixN_nn n0 n1
  have g6 : atI (B.map bkL) (cell / 12 % ((F.map D.int).length : Int) % ((B.map bkL).length : Int)) = some (.tup [.str bn, .lst (bc.map chL)]) := by rw [hF0, hB0]; exact atI_mapG bkL (ixN_nn n0 n1) eb
  have g7 := frOf_at (ns := nmB B) (by unfold nmB; rw [List.length_map]; omega)
  have hna : divD B (cell / 12) ≠ .any := fun y => by
    rw [divD] at y
    split at y <;> cases y
  refine (DL.wss_cons (DL.ws_asg (DL.we_bin (DL.wb_of (DL.we_bin (DL.wb_of (DL.we_var 4 rfl (Or.inl rfl) rfl)) (DL.wb_of (DL.we_int)) (DL.bin_fdiv (⟨by decide, by decide⟩)))) (DL.wb_of (DL.we_int)) (DL.bin_mod (by decide +kernel))) (DL.wg_name 5 hN (rfl) (Or.inl rfl) (Or.inl rfl)) (DL.wss_cons (ws_ifJ ⟨[], [some (.lst (B.map bkL)), some (.lst (F.map D.int)), some (.lst (O.map bkL)), some (.lst (S.map D.int)), some (.int cell), some (.int (cell / 6 % 2)), none, none, none, none, none, none, none, none, none, none]⟩ (DL.wt_cmp (DL.wb_of (DL.we_var 5 rfl (Or.inl rfl) rfl)) (DL.wb_of (DL.we_int)) (DL.cmp_eqI) (rfl)) (fun _ => (DL.wss_cons (DL.ws_asg (DL.we_tup (DL.wa_cons (DL.we_var 2 rfl (Or.inl rfl) rfl) (DL.wa_cons (DL.we_var 3 rfl (Or.inl rfl) rfl) (DL.wa_cons (DL.we_var 0 rfl (Or.inl rfl) rfl) (DL.wa_cons (DL.we_var 1 rfl (Or.inl rfl) rfl) (DL.wa_nil) (rfl)) (rfl)) (rfl)) (rfl)) (Nat.le_of_ble_eq_true rfl)) (DL.wg_tup (DL.wgs_cons (DL.wg_name 0 hN (rfl) (Or.inl rfl) (Or.inl rfl)) (DL.wgs_cons (DL.wg_name 1 hN (rfl) (Or.inl rfl) (Or.inl rfl)) (DL.wgs_cons (DL.wg_name 2 hN (rfl) (Or.inl rfl) (Or.inl rfl)) (DL.wgs_cons (DL.wg_name 3 hN (rfl) (Or.inl rfl) (Or.inl rfl)) (DL.wgs_nil) (rfl)) (rfl)) (rfl)) (rfl)) (rfl) (rfl) (rfl)) (DL.wss_nil2 rfl (DL.Wk.mk (DL.WkO.nil) (DL.WkS.keep ?_ (DL.WkS.keep ?_ (DL.WkS.keep ?_ (DL.WkS.keep ?_ (DL.WkS.keep (rfl) (DL.WkS.keep (rfl) (DL.WkS.drop (DL.WkS.drop (DL.WkS.drop (DL.WkS.drop (DL.WkS.drop (DL.WkS.drop (DL.WkS.drop (DL.WkS.drop (DL.WkS.drop (DL.WkS.drop (DL.WkS.nil))))))))))))))))))) (rfl) (rfl) (rfl)))) (fun _ => (DL.wss_nil2 rfl (DL.Wk.mk (DL.WkO.nil) (DL.WkS.keep ?_ (DL.WkS.keep ?_ (DL.WkS.keep ?_ (DL.WkS.keep ?_ (DL.WkS.keep (rfl) (DL.WkS.keep (rfl) (DL.WkS.drop (DL.WkS.drop (DL.WkS.drop (DL.WkS.drop (DL.WkS.drop (DL.WkS.drop (DL.WkS.drop (DL.WkS.drop (DL.WkS.drop (DL.WkS.drop (DL.WkS.nil)))))))))))))))))))) (DL.wss_cons (DL.ws_asg (DL.we_bin (DL.wb_of (DL.we_var 4 rfl (Or.inl rfl) rfl)) (DL.wb_of (DL.we_int)) (DL.bin_mod (by decide +kernel))) (DL.wg_name 6 hN (rfl) (Or.inl rfl) (Or.inl rfl)) (DL.wss_cons (DL.ws_asg (DL.we_bin (DL.wb_of (DL.we_bin (DL.wb_of (DL.we_var 4 rfl (Or.inl rfl) rfl)) (DL.wb_of (DL.we_int)) (DL.bin_fdiv (⟨by decide, by decide⟩)))) (DL.wb_of (DL.we_len (DL.wb_of (DL.we_var 1 rfl (Or.inl rfl) rfl)) (DL.len_l) (G.free _ (by decide +kernel)) (rfl) (rfl))) (DL.bin_mod (by omega))) (DL.wg_name 7 hN (rfl) (Or.inl rfl) (Or.inl rfl)) (DL.wss_cons (ws_asgT0 8 (DL.wu_call k1T (L2.Room.mono hr (by omega)) (DL.wa_cons (DL.we_var 0 rfl (Or.inl rfl) rfl) (DL.wa_nil) (rfl)) (DL.copyR.mk _ fw) (rfl) (rfl) (rfl) (rfl)) (fun p0 => (DL.wss_cons (ws_ifJ ⟨[], [some (.lst (B.map bkL)), some (.lst ((unF B F cell).map D.int)), some (.lst (O.map bkL)), some (.lst ((unS S cell).map D.int)), some (.int cell), some (.int (cell / 6 % 2)), none, none, some (.lst ((unB B F cell).map bkL)), none, none, none, none, none, none, none]⟩ (DL.wt_cmp (DL.wb_of (DL.we_var 6 rfl (Or.inl rfl) rfl)) (DL.wb_of (DL.we_int)) (DL.cmp_eqI) (rfl)) (fun _ => (DL.wss_cons ?_)) (fun _ => (DL.wss_cons (DL.ws_if (DL.wt_w (DL.ww_and (DL.wt_cmp (DL.wb_of (DL.we_var 6 rfl (Or.inl rfl) rfl)) (DL.wb_of (DL.we_int)) (DL.cmp_eqI) (rfl)) (fun _ => (DL.ww_and1 (DL.wt_notNone (DL.wb_of (DL.we_call k2 (L2.Room.mono hr (by omega)) (DL.wa_cons (DL.we_var 0 rfl (Or.inl rfl) rfl) (DL.wa_cons (DL.we_bin (DL.wb_of (DL.we_var 4 rfl (Or.inl rfl) rfl)) (DL.wb_of (DL.we_int)) (DL.bin_fdiv (⟨by decide, by decide⟩))) (DL.wa_nil) (rfl)) (rfl)) (DL.dividedR.mk _ _ hB) (rfl) (rfl) (rfl) (rfl))) hna))))) (fun _ => ?_) (fun _ => ?_)))) (DL.wss_cons (DL.ws_asg (DL.we_make k4 (L2.Room.mono hr (by omega)) (DL.wa_cons (DL.we_call k3 hr (DL.wa_cons (DL.we_var 8 rfl (Or.inl rfl) rfl) (DL.wa_cons (DL.we_var 1 rfl (Or.inl rfl) rfl) (DL.wa_cons (DL.we_var 4 rfl (Or.inl rfl) rfl) (DL.wa_nil) (rfl)) (rfl)) (rfl)) (DL.lawEdR.mk _ _ _ a1 fwa a2) (rfl) (rfl) (rfl) (rfl)) (DL.wa_cons (DL.we_call k3 hr (DL.wa_cons (DL.we_var 2 rfl (Or.inl rfl) rfl) (DL.wa_cons (DL.we_var 3 rfl (Or.inl rfl) rfl) (DL.wa_cons (DL.we_bin (DL.wb_of (DL.we_var 4 rfl (Or.inl rfl) rfl)) (DL.wb_of (DL.we_int)) (DL.bin_fdiv (⟨by decide, by decide⟩))) (DL.wa_nil) (rfl)) (rfl)) (rfl)) (DL.lawEdR.mk _ _ _ c1 fwO c2) (rfl) (rfl) (rfl) (rfl)) (DL.wa_nil) (rfl)) (rfl)) (by intros; first | rfl | exact DL.RepL.nil | exact DL.RepL.cons DL.Rep.non DL.RepL.nil) (DL.ldInR.mk _ _ a1 c1) (rfl) (rfl) (rfl) (rfl)) (DL.wg_name 11 hN (rfl) (Or.inl rfl) (Or.inl rfl)) (DL.wss_cons (DL.ws_if (DL.wt_cmp (DL.wb_of (DL.we_var 5 rfl (Or.inl rfl) rfl)) (DL.wb_of (DL.we_int)) (DL.cmp_eqI) (rfl)) (fun _ => ?_) (fun _ => ?_))) (rfl) (rfl) (rfl)))))) hN (rfl) (Or.inl rfl) (rfl))) (rfl) (rfl) (rfl))) (rfl) (rfl) (rfl))))) (rfl) (rfl) (rfl)))
  any_goals (rename_i z; first | (rw [(s1 (of_decide_eq_true z)).1]; done) | (rw [(s1 (of_decide_eq_true z)).2.1]; done) | (rw [(s1 (of_decide_eq_true z)).2.2.1]; done) | (rw [(s1 (of_decide_eq_true z)).2.2.2]; done) | (rw [(s2 (of_decide_eq_false z)).1]; done) | (rw [(s2 (of_decide_eq_false z)).2.1]; done) | (rw [(s2 (of_decide_eq_false z)).2.2.1]; done) | (rw [(s2 (of_decide_eq_false z)).2.2.2]; done))
  · rename_i z
    have z : cell % 6 = 0 := of_decide_eq_true z
    have z1 : ¬ cell % 6 = 1 := by omega
    have z2 : ¬ cell % 6 = 2 := by omega
    have z4 : ¬ cell % 6 = 4 := by omega
    refine (ws_lcS 1 F D.int (fun x => x + 1) D.int [("thread", 12)] (DL.wio_wi (DL.wi_list (DL.we_var 1 rfl (Or.inl rfl) rfl))) (DL.small (by omega)) (rfl) (fun _ _ => (DL.elt_mk _ (fun _ _ _ _ _ => (DL.wg_name 12 hN (rfl) (Or.inl rfl) (Or.inr rfl))) (rfl) (fun _ _ _ _ _ => (DL.we_bin (DL.wb_of (DL.we_var 12 rfl (Or.inl rfl) rfl)) (DL.wb_of (DL.we_int)) (DL.bin_add))) (rfl))) (DL.wss_cons (ws_lcS 3 S D.int (fun x => x + 1) D.int [("thread", 12)] (DL.wio_wi (DL.wi_list (DL.we_var 3 rfl (Or.inl rfl) rfl))) (DL.small (by omega)) (rfl) (fun _ _ => (DL.elt_mk _ (fun _ _ _ _ _ => (DL.wg_name 12 hN (rfl) (Or.inl rfl) (Or.inr rfl))) (rfl) (fun _ _ _ _ _ => (DL.we_bin (DL.wb_of (DL.we_var 12 rfl (Or.inl rfl) rfl)) (DL.wb_of (DL.we_int)) (DL.bin_add))) (rfl))) (DL.wss_fz 0 (rfl) (DL.FzS.keep (DL.FzS.keep (DL.FzS.keep (DL.FzS.keep (DL.FzS.keep (DL.FzS.keep (DL.FzS.keep (DL.FzS.keep (DL.FzS.sub (DL.FzS.keep (DL.FzS.keep (DL.FzS.keep (DL.FzS.keep (DL.FzS.keep (DL.FzS.keep (DL.FzS.keep (DL.FzS.nil))))))))))))))))) (DL.wss_nil2 rfl (DL.Wk.mk (DL.WkO.nil) (DL.WkS.keep (rfl) (DL.WkS.keep ?_ (DL.WkS.keep (rfl) (DL.WkS.keep ?_ (DL.WkS.keep (rfl) (DL.WkS.keep (rfl) (DL.WkS.drop (DL.WkS.drop (DL.WkS.keep ?_ (DL.WkS.drop (DL.WkS.drop (DL.WkS.drop (DL.WkS.drop (DL.WkS.drop (DL.WkS.drop (DL.WkS.drop (DL.WkS.nil)))))))))))))))))))) hN (rfl) (rfl) (rfl))) hN (rfl) (rfl) (rfl))
    · rw [unF, if_pos z]
    · rw [unS, if_pos z]
    · rw [unB, if_neg fun y => z1 y.1, if_neg z2, if_neg fun y => z4 y.1]
  · rename_i z0 z
    rw [Bool.and_eq_true, decide_eq_true_eq] at z
    have hd : divs B ≠ [] := fun y => by
      have := z.2
      rw [divD, if_pos y] at this
      cases this
    have ed : divD B (cell / 12) = .lst ((divBs B (cell / 12)).map bkL) := by rw [divD, if_neg hd]
    refine (DL.wss_cons (DL.ws_asg (DL.we_call k2 (L2.Room.mono hr (by omega)) (DL.wa_cons (DL.we_var 0 rfl (Or.inl rfl) rfl) (DL.wa_cons (DL.we_bin (DL.wb_of (DL.we_var 4 rfl (Or.inl rfl) rfl)) (DL.wb_of (DL.we_int)) (DL.bin_fdiv (⟨by decide, by decide⟩))) (DL.wa_nil) (rfl)) (rfl)) (DL.dividedR.mk _ _ hB) (rfl) (rfl) (rfl) (rfl)) (DL.wg_name 8 hN (rfl) (Or.inl rfl) (Or.inl rfl)) (DL.wss_nil (DL.Wk.refl _) (DL.wss_nil2 rfl (DL.Wk.mk (DL.WkO.drop (DL.WkO.nil)) (DL.WkS.keep (rfl) (DL.WkS.keep ?_ (DL.WkS.keep (rfl) (DL.WkS.keep ?_ (DL.WkS.keep (rfl) (DL.WkS.keep (rfl) (DL.WkS.drop (DL.WkS.drop (DL.WkS.keep ?_ (DL.WkS.drop (DL.WkS.drop (DL.WkS.drop (DL.WkS.drop (DL.WkS.drop (DL.WkS.drop (DL.WkS.drop (DL.WkS.nil)))))))))))))))))))) (rfl) (rfl) (rfl)))
    · rw [unF, if_neg (of_decide_eq_false z0), if_pos ⟨z.1, hd⟩]
    · rw [unS, if_neg (of_decide_eq_false z0)]
    · rw [ed, unB, if_pos ⟨z.1, hd⟩]
  · rename_i z0 zc
    have z0 : ¬ cell % 6 = 0 := of_decide_eq_false z0
    have nz : ¬ (cell % 6 = 1 ∧ divs B ≠ []) := fun y => by
      rw [divD, if_neg y.2, decide_eq_true y.1] at zc
      cases zc
    have es : unS S cell = S := by rw [unS, if_neg z0]
    refine (DL.wss_cons (DL.ws_if (DL.wt_cmp (DL.wb_of (DL.we_var 6 rfl (Or.inl rfl) rfl)) (DL.wb_of (DL.we_int)) (DL.cmp_eqI) (rfl)) (fun _ => ?_) (fun _ => ?_)))
    · rename_i z
      have z2 : cell % 6 = 2 := of_decide_eq_true z
      refine (DL.wss_cons (ws_asgN 9 (wn_lcG B bkL (fun b => b.1) D.str [("name", 13), ("chapters", 14)] (DL.wio_wi (DL.wi_list (DL.we_var 0 rfl (Or.inl rfl) rfl))) (DL.small (by omega)) (rfl) (fun _ _ => (DL.elt_mk _ (fun _ _ _ _ _ => (DL.wg_tup (DL.wgs_cons (DL.wg_name 13 hN (rfl) (Or.inl rfl) (Or.inr rfl)) (DL.wgs_cons (DL.wg_name 14 hN (rfl) (Or.inl rfl) (Or.inr rfl)) (DL.wgs_nil) (rfl)) (rfl)) (rfl) (rfl) (rfl))) (rfl) (fun _ _ _ _ _ => (DL.we_var 13 rfl (Or.inl rfl) rfl)) (rfl))) hN) (fun p1 => (DL.wss_cons (ws_setLcIf (l := ("qxvjkzw" : Str).cps.toList) (enc := signD) (f := fun c => .str (frN c)) (p := fun c => !decide (frN c ∈ nmB B)) (own := [("sign", 15)]) 10 (DL.wio_wi (DL.wi_str (DL.we_str))) (by decide +kernel) (rfl) (fun _ _ => (DL.eltIf_mk _ (fun _ _ _ _ _ => (DL.wg_name 15 hN (rfl) (Or.inl rfl) (Or.inr rfl))) (rfl) (fun _ _ _ _ _ => (DL.wt_cmp (DL.wb_of (DL.we_bin (DL.wb_of (DL.we_var 15 rfl (Or.inl rfl) rfl)) (DL.wb_of (DL.we_str)) (DL.bin_adds (Nat.le_of_ble_eq_true rfl)))) (DL.wb_own 1 (DL.we_var 9 rfl (Or.inr (Or.inl rfl)) rfl) (rfl)) (DL.cmp_ninLS) (rfl))) (rfl) (fun _ _ _ _ _ => (DL.we_bin (DL.wb_of (DL.we_var 15 rfl (Or.inl rfl) rfl)) (DL.wb_of (DL.we_str)) (DL.bin_adds (Nat.le_of_ble_eq_true rfl)))) (rfl))) (fun p2 => (DL.wss_cons (DL.ws_setIx 0 (DL.we_var 8 rfl (Or.inl rfl) rfl) (rfl) (DL.wb_of (DL.we_bin (DL.wb_of (DL.we_var 7 rfl (Or.inl rfl) rfl)) (DL.wb_of (DL.we_len (DL.wb_of (DL.we_var 0 rfl (Or.inl rfl) rfl)) (DL.len_l) (G.free _ (by decide +kernel)) (rfl) (rfl))) (DL.bin_mod (by omega)))) (DL.we_tup (DL.wa_cons (DL.we_ixO 2 (DL.we_var 10 rfl (Or.inl rfl) rfl) (rfl) (DL.wb_of (DL.we_int)) (g7) (fun _ _ => rfl)) (DL.wa_cons (DL.we_sub' (DL.we_ixO 0 (DL.we_var 8 rfl (Or.inl rfl) rfl) (rfl) (DL.wb_of (DL.we_bin (DL.wb_of (DL.we_var 7 rfl (Or.inl rfl) rfl)) (DL.wb_of (DL.we_len (DL.wb_of (DL.we_var 0 rfl (Or.inl rfl) rfl)) (DL.len_l) (G.free _ (by decide +kernel)) (rfl) (rfl))) (DL.bin_mod (by omega)))) (g6) (fun _ _ => rfl)) (DL.wb_of (DL.we_int)) (DL.sub_t (rfl)) (fun _ _ => rfl)) (DL.wa_nil) (rfl)) (rfl)) (Nat.le_of_ble_eq_true rfl)) (g5) (DL.wss_fz 2 (rfl) (DL.FzS.keep (DL.FzS.keep (DL.FzS.keep (DL.FzS.keep (DL.FzS.keep (DL.FzS.keep (DL.FzS.keep (DL.FzS.keep (DL.FzS.keep (DL.FzS.keep (DL.FzS.sub (DL.FzS.keep (DL.FzS.keep (DL.FzS.keep (DL.FzS.keep (DL.FzS.keep (DL.FzS.nil))))))))))))))))) (DL.wss_fz 1 (rfl) (DL.FzS.keep (DL.FzS.keep (DL.FzS.keep (DL.FzS.keep (DL.FzS.keep (DL.FzS.keep (DL.FzS.keep (DL.FzS.keep (DL.FzS.keep (DL.FzS.sub (DL.FzS.keep (DL.FzS.keep (DL.FzS.keep (DL.FzS.keep (DL.FzS.keep (DL.FzS.keep (DL.FzS.nil))))))))))))))))) (DL.wss_fz 0 (rfl) (DL.FzS.keep (DL.FzS.keep (DL.FzS.keep (DL.FzS.keep (DL.FzS.keep (DL.FzS.keep (DL.FzS.keep (DL.FzS.keep (DL.FzS.sub (DL.FzS.keep (DL.FzS.keep (DL.FzS.keep (DL.FzS.keep (DL.FzS.keep (DL.FzS.keep (DL.FzS.keep (DL.FzS.nil))))))))))))))))) (DL.wss_nil (DL.Wk.refl _) (DL.wss_nil (DL.Wk.refl _) (DL.wss_nil2 rfl (DL.Wk.mk (DL.WkO.nil) (DL.WkS.keep (rfl) (DL.WkS.keep ?_ (DL.WkS.keep (rfl) (DL.WkS.keep ?_ (DL.WkS.keep (rfl) (DL.WkS.keep (rfl) (DL.WkS.drop (DL.WkS.drop (DL.WkS.keep ?_ (DL.WkS.drop (DL.WkS.drop (DL.WkS.drop (DL.WkS.drop (DL.WkS.drop (DL.WkS.drop (DL.WkS.drop (DL.WkS.nil)))))))))))))))))))))))) (rfl) (rfl) (rfl) (by intros; first | rfl | exact DL.RepL.nil | exact DL.RepL.cons DL.Rep.non DL.RepL.nil)))) hN (rfl) (rfl) (rfl)))) hN (rfl) (Or.inr rfl)))
      · rw [unF, if_neg z0, if_neg nz, if_pos z2]
      · rw [es]
      · rw [unB, if_neg nz, if_pos z2]
        unfold frB
        rw [eb, List.map_set]
        rfl
    · rename_i z2
      have z2 : ¬ cell % 6 = 2 := of_decide_eq_false z2
      refine (DL.wss_cons (DL.ws_if (DL.wt_w (DL.ww_and (DL.wt_cmp (DL.wb_of (DL.we_var 6 rfl (Or.inl rfl) rfl)) (DL.wb_of (DL.we_int)) (DL.cmp_eqI) (rfl)) (fun _ => (DL.ww_and1 (DL.wt_cmp (DL.wb_of (DL.we_len (DL.wb_of (DL.we_var 1 rfl (Or.inl rfl) rfl)) (DL.len_l) (G.free _ (by decide +kernel)) (rfl) (rfl))) (DL.wb_of (DL.we_int)) (DL.cmp_gt) (rfl)))))) (fun _ => ?_) (fun _ => ?_)))
      · rename_i z
        rw [Bool.and_eq_true, decide_eq_true_eq, decide_eq_true_eq, hF0] at z
        have z4 : ¬ cell % 6 = 4 := by omega
        refine (DL.wss_cons (DL.ws_asgN 1 (DL.wn_list (DL.we_var 1 rfl (Or.inl rfl) rfl) (DL.lst_l) (G.free _ (by decide +kernel)) (rfl) (rfl)) (fun p1 => (DL.wss_cons (DL.ws_setIx2 1 (DL.we_tup (DL.wa_cons (DL.we_ixO 1 (DL.we_var 1 rfl (Or.inl rfl) rfl) (rfl) (DL.wb_of (DL.we_bin (DL.wb_of (DL.we_var 7 rfl (Or.inl rfl) rfl)) (DL.wb_of (DL.we_int)) (DL.bin_sub))) (g2) (fun _ _ => rfl)) (DL.wa_cons (DL.we_ixO 1 (DL.we_var 1 rfl (Or.inl rfl) rfl) (rfl) (DL.wb_of (DL.we_var 7 rfl (Or.inl rfl) rfl)) (g1) (fun _ _ => rfl)) (DL.wa_nil) (rfl)) (rfl)) (Nat.le_of_ble_eq_true rfl)) (DL.we_var 1 rfl (Or.inl rfl) rfl) (rfl) (DL.wb_of (DL.we_var 7 rfl (Or.inl rfl) rfl)) (g3) (DL.we_var 1 rfl (Or.inl rfl) rfl) (DL.wb_of (DL.we_bin (DL.wb_of (DL.we_var 7 rfl (Or.inl rfl) rfl)) (DL.wb_of (DL.we_int)) (DL.bin_sub))) (g4 _ _) (DL.wss_fz 1 (rfl) (DL.FzS.keep (DL.FzS.sub (DL.FzS.keep (DL.FzS.keep (DL.FzS.keep (DL.FzS.keep (DL.FzS.keep (DL.FzS.keep (DL.FzS.keep (DL.FzS.keep (DL.FzS.keep (DL.FzS.keep (DL.FzS.keep (DL.FzS.keep (DL.FzS.keep (DL.FzS.keep (DL.FzS.nil))))))))))))))))) (DL.wss_fz 0 (rfl) (DL.FzS.keep (DL.FzS.keep (DL.FzS.keep (DL.FzS.keep (DL.FzS.keep (DL.FzS.keep (DL.FzS.keep (DL.FzS.keep (DL.FzS.sub (DL.FzS.keep (DL.FzS.keep (DL.FzS.keep (DL.FzS.keep (DL.FzS.keep (DL.FzS.keep (DL.FzS.keep (DL.FzS.nil))))))))))))))))) (DL.wss_nil (DL.Wk.refl _) (DL.wss_nil (DL.Wk.refl _) (DL.wss_nil (DL.Wk.refl _) (DL.wss_nil2 rfl (DL.Wk.mk (DL.WkO.nil) (DL.WkS.keep (rfl) (DL.WkS.keep ?_ (DL.WkS.keep (rfl) (DL.WkS.keep ?_ (DL.WkS.keep (rfl) (DL.WkS.keep (rfl) (DL.WkS.drop (DL.WkS.drop (DL.WkS.keep ?_ (DL.WkS.drop (DL.WkS.drop (DL.WkS.drop (DL.WkS.drop (DL.WkS.drop (DL.WkS.drop (DL.WkS.drop (DL.WkS.nil)))))))))))))))))))))))) (rfl) (rfl) (rfl) (rfl) (rfl) (rfl) (rfl) (rfl) (by intros; first | rfl | exact DL.RepL.nil | exact DL.RepL.cons DL.Rep.non DL.RepL.nil) (by intros; first | rfl | exact DL.RepL.nil | exact DL.RepL.cons DL.Rep.non DL.RepL.nil)))) hN (rfl) (Or.inl rfl) (rfl) (Or.inl rfl)))
        · rw [unF, if_neg z0, if_neg nz, if_neg z2, if_pos z]
          unfold swF
          rw [ex, ey, List.map_set, List.map_set]
          rfl
        · rw [es]
        · rw [unB, if_neg nz, if_neg z2, if_neg fun y => z4 y.1]
      · rename_i z3
        have z3 : ¬ (cell % 6 = 3 ∧ 1 < (F.length : Int)) := fun y => by
          rw [Bool.and_eq_false_iff, decide_eq_false_iff_not, decide_eq_false_iff_not, hF0] at z3
          rcases z3 with z | z
          · exact z y.1
          · exact z y.2
        refine (DL.wss_cons (DL.ws_if (DL.wt_w (DL.ww_and (DL.wt_cmp (DL.wb_of (DL.we_var 6 rfl (Or.inl rfl) rfl)) (DL.wb_of (DL.we_int)) (DL.cmp_eqI) (rfl)) (fun _ => (DL.ww_and1 (DL.wt_cmp (DL.wb_of (DL.we_len (DL.wb_of (DL.we_var 0 rfl (Or.inl rfl) rfl)) (DL.len_l) (G.free _ (by decide +kernel)) (rfl) (rfl))) (DL.wb_of (DL.we_int)) (DL.cmp_gt) (rfl)))))) (fun _ => ?_) (fun _ => ?_)))
        · rename_i z
          rw [Bool.and_eq_true, decide_eq_true_eq, decide_eq_true_eq, hB0] at z
          refine (DL.wss_cons (DL.ws_asg (DL.we_wn (DL.wn_cat (DL.wl_wn (DL.wn_sl (DL.wl_own 0 (DL.we_var 8 rfl (Or.inl rfl) rfl) (rfl)) (DL.wo_some (DL.wb_of (DL.we_int))) (DL.wo_none))) (DL.wl_wn (DL.wn_sl (DL.wl_own 0 (DL.we_var 8 rfl (Or.inl rfl) rfl) (rfl)) (DL.wo_none) (DL.wo_some (DL.wb_of (DL.we_int))))) ?_)) (DL.wg_name 8 hN (rfl) (Or.inl rfl) (Or.inl rfl)) (DL.wss_nil (DL.Wk.refl _) (DL.wss_nil (DL.Wk.refl _) (DL.wss_nil (DL.Wk.refl _) (DL.wss_nil (DL.Wk.refl _) (DL.wss_nil2 rfl (DL.Wk.mk (DL.WkO.drop (DL.WkO.nil)) (DL.WkS.keep (rfl) (DL.WkS.keep ?_ (DL.WkS.keep (rfl) (DL.WkS.keep ?_ (DL.WkS.keep (rfl) (DL.WkS.keep (rfl) (DL.WkS.drop (DL.WkS.drop (DL.WkS.keep ?_ (DL.WkS.drop (DL.WkS.drop (DL.WkS.drop (DL.WkS.drop (DL.WkS.drop (DL.WkS.drop (DL.WkS.drop (DL.WkS.nil))))))))))))))))))))))) (rfl) (rfl) (rfl)))
          · rw [cutD_map, cutD_map, List.length_map, List.length_map, cut_from _ (by omega) (by omega), cut_to _ (by omega) (by omega), List.length_drop, List.length_take]
            exact smallE (by omega)
          · rw [unF, if_neg z0, if_neg nz, if_neg z2, if_neg z3, if_pos z]
          · rw [es]
          · rw [unB, if_neg nz, if_neg z2, if_pos z, cutD_map, cutD_map, ← List.map_append, cut_from _ (by omega) (by omega), cut_to _ (by omega) (by omega)]
            rfl
        · rename_i z4
          have z4 : ¬ (cell % 6 = 4 ∧ 1 < (B.length : Int)) := fun y => by
            rw [Bool.and_eq_false_iff, decide_eq_false_iff_not, decide_eq_false_iff_not, hB0] at z4
            rcases z4 with z | z
            · exact z y.1
            · exact z y.2
          refine (DL.wss_cons (DL.ws_asg (DL.we_wn (DL.wn_cat (DL.wl_wn (DL.wn_cat (DL.wl_wn (DL.wn_sl (DL.wl_we (DL.we_var 1 rfl (Or.inl rfl) rfl)) (DL.wo_none) (DL.wo_some (DL.wb_of (DL.we_var 7 rfl (Or.inl rfl) rfl))))) (DL.wl_wn (DL.wn_lst (DL.wa_cons (DL.we_int) (DL.wa_nil) (rfl)) (by decide +kernel))) ?_)) (DL.wl_wn (DL.wn_sl (DL.wl_we (DL.we_var 1 rfl (Or.inl rfl) rfl)) (DL.wo_some (DL.wb_of (DL.we_bin (DL.wb_of (DL.we_var 7 rfl (Or.inl rfl) rfl)) (DL.wb_of (DL.we_int)) (DL.bin_add)))) (DL.wo_none))) ?_)) (DL.wg_name 1 hN (rfl) (Or.inl rfl) (Or.inl rfl)) (DL.wss_fz 0 (rfl) (DL.FzS.keep (DL.FzS.keep (DL.FzS.keep (DL.FzS.keep (DL.FzS.keep (DL.FzS.keep (DL.FzS.keep (DL.FzS.keep (DL.FzS.sub (DL.FzS.keep (DL.FzS.keep (DL.FzS.keep (DL.FzS.keep (DL.FzS.keep (DL.FzS.keep (DL.FzS.keep (DL.FzS.nil))))))))))))))))) (DL.wss_nil (DL.Wk.refl _) (DL.wss_nil (DL.Wk.refl _) (DL.wss_nil (DL.Wk.refl _) (DL.wss_nil (DL.Wk.refl _) (DL.wss_nil2 rfl (DL.Wk.mk (DL.WkO.nil) (DL.WkS.keep (rfl) (DL.WkS.keep ?_ (DL.WkS.keep (rfl) (DL.WkS.keep ?_ (DL.WkS.keep (rfl) (DL.WkS.keep (rfl) (DL.WkS.drop (DL.WkS.drop (DL.WkS.keep ?_ (DL.WkS.drop (DL.WkS.drop (DL.WkS.drop (DL.WkS.drop (DL.WkS.drop (DL.WkS.drop (DL.WkS.drop (DL.WkS.nil)))))))))))))))))))))))) (rfl) (rfl) (rfl)))
          · rw [hF0, cutD_map, List.length_map, cut_to _ m0 (by omega), List.length_take]
            exact smallE (by simp only [List.length_singleton]; omega)
          · rw [hF0, cutD_map, List.length_append, List.length_map, cut_to _ m0 (by omega), List.length_take, cutD_map, List.length_map, cut_from _ (by omega) (by omega), List.length_drop]
            exact smallE (by simp only [List.length_singleton]; omega)
          · rw [unF, if_neg z0, if_neg nz, if_neg z2, if_neg z3, if_neg z4, hF0, cutD_map, cutD_map, cut_to _ m0 (by omega), cut_from _ (by omega) (by omega)]
            have e9 : (cell / 12 % (F.length : Int) + 1).toNat = (unAt F cell).toNat + 1 := by unfold unAt; omega
            rw [e9]
            simp [unAt]
          · rw [es]
          · rw [unB, if_neg nz, if_neg z2, if_neg z4]
  · rename_i z
    have z : cell / 6 % 2 = 1 := of_decide_eq_true z
    obtain ⟨rfl, rfl, rfl, rfl⟩ := s1 z
    have eu : unLd bs fs os ss cell = (⟨bs, unS fs cell⟩, ⟨unB os ss cell, unF os ss cell⟩) := by unfold unLd; rw [if_pos z]
    refine (DL.wss_cons (DL.ws_ret (DL.we_meth0 k5 (L2.Room.mono hr (by omega)) (DL.we_var 11 rfl (Or.inl rfl) rfl) (rfl) (DL.ldTurnedR.mk _ _ a1 c1) (rfl)) ?_))
    rw [eu]
  · rename_i z
    have z : ¬ cell / 6 % 2 = 1 := of_decide_eq_false z
    obtain ⟨rfl, rfl, rfl, rfl⟩ := s2 z
    have eu : unLd bs fs os ss cell = (⟨unB bs fs cell, unF bs fs cell⟩, ⟨os, unS ss cell⟩) := by unfold unLd; rw [if_neg z]
    refine (DL.wss_nil (DL.Wk.refl _) (DL.wss_cons (DL.ws_ret (DL.we_var 11 rfl (Or.inl rfl) rfl) ?_)))
    rw [eu]
end
end DL
/-! V66y: a leading unlike another one is right, and unlike. -/
namespace DL
open PySem PySem.Spec PyProof.Rows L2
theorem OkBooks.repl {A B : List Bk} {n : Str} {chs chs' : List (List Int)} (h : OkBooks (A ++ (n, chs) :: B)) (hl : chs'.length = chs.length) (hs : (chs'.map chSize).sum = (chs.map chSize).sum) (ho : ∀ c ∈ chs', okChapter c) : OkBooks (A ++ (n, chs') :: B) := by
  have hbk := h.ok (n, chs) (by simp)
  refine ⟨by simp; omega, by have := h.hi; simp at this ⊢; omega, ?_, fun b hb => ?_, ?_, ?_⟩
  · have := h.nd
    simp only [List.map_append, List.map_cons] at this ⊢
    exact this
  · rcases List.mem_append.mp hb with z | z
    · exact h.ok b (List.mem_append_left _ z)
    · rcases List.mem_cons.mp z with z | z
      · subst z
        refine ⟨hbk.1, ?_, ?_, ho⟩
        · have := hbk.2.1; simp only at this ⊢; omega
        · have := hbk.2.2.1; simp only at this ⊢; omega
      · exact h.ok b (List.mem_append_right _ (List.mem_cons_of_mem _ z))
  · have := h.many
    simp only [List.map_append, List.map_cons, List.sum_append, List.sum_cons, bkMany, hl] at this ⊢
    exact this
  · have := h.size
    simp only [List.map_append, List.map_cons, List.sum_append, List.sum_cons, bkSize, hs] at this ⊢
    exact this
theorem szOf_sum {bs : List Bk} (h : OkBooks bs) : szOf bs = (bs.map bkSize).sum := by
  unfold szOf
  rw [List.length_map]
  exact h.len
theorem sz_repl {A B : List Bk} {n : Str} {chs chs' : List (List Int)} (hs : (chs'.map chSize).sum = (chs.map chSize).sum) : ((A ++ (n, chs') :: B).map bkSize).sum = ((A ++ (n, chs) :: B).map bkSize).sum := by
  simp only [List.map_append, List.map_cons, List.sum_append, List.sum_cons, bkSize, hs]
theorem dvAt_in {B : List Bk} (h : divs B ≠ []) (m : Int) : dvAt B m ∈ divs B := by
  have hl : 1 ≤ (divs B).length := by
    rcases hq : divs B with _ | ⟨a, l⟩
    · exact absurd hq h
    · simp
  have m0 := Int.emod_nonneg m (by omega : ((divs B).length : Int) ≠ 0)
  have m1 := Int.emod_lt_of_pos m (by omega : (0 : Int) < ((divs B).length : Int))
  unfold dvAt
  rw [atI_nn m0 m1]
  exact List.getElem_mem _
/-- a division: books as they may be, as long, others -/
theorem divBs_ok {B : List Bk} (h : OkBooks B) (hd : divs B ≠ []) (m : Int) : OkBooks (divBs B m) ∧ szOf (divBs B m) = szOf B ∧ divBs B m ≠ B := by
  rw [divBs]
  have hin := dvAt_in hd m
  generalize m / ((divs B).length : Int) = m2
  generalize dvAt B m = q at *
  have key : ∀ (A B' : List Bk) (n : Str) (chs chs' : List (List Int)), B = A ++ (n, chs) :: B' → chs'.length = chs.length → (chs'.map chSize).sum = (chs.map chSize).sum → (∀ c ∈ chs', okChapter c) → chs' ≠ chs → OkBooks (A ++ (n, chs') :: B') ∧ szOf (A ++ (n, chs') :: B') = szOf B ∧ A ++ (n, chs') :: B' ≠ B := fun A B' n chs chs' e hl hs ho hne => by
    subst e
    have h2 := h.repl hl hs ho
    refine ⟨h2, by rw [szOf_sum h2, szOf_sum h, sz_repl hs], fun z => ?_⟩
    have := List.append_cancel_left z
    injection this with z1 _
    injection z1 with _ z2
    exact hne z2
  have okc : ∀ (A B' : List Bk) (n : Str) (chs : List (List Int)), B = A ++ (n, chs) :: B' → ∀ c ∈ chs, okChapter c := fun A B' n chs e => by
    subst e
    exact (h.ok (n, chs) (by simp)).2.2.2
  rcases divs_ok hin with ⟨A', B', n, Cs, Es, va, vb, x, hb, hx, h30⟩ | ⟨A', B', n, Cs, Es, va, vb, y, x, hb, hx⟩ | ⟨A', B', n, Cs, Es, va, x, ch, hb, hx, h30⟩
  · have hc := okc _ _ _ _ hb
    have hc0 := hc (va ++ x :: vb) (by simp)
    have hx4 := hc0.2.2 x (by simp)
    have m0 := Int.emod_nonneg m2 (by omega : x - 1 ≠ 0)
    have m1 := Int.emod_lt_of_pos m2 (by omega : 0 < x - 1)
    rw [hb, bksDv_mid, chsDv_cut]
    refine hb ▸ key _ _ _ _ _ hb (by simp) ?_ ?_ ?_
    · simp [chSize]
      omega
    · intro c hcm
      rcases List.mem_append.mp hcm with z | z
      · exact hc c (List.mem_append_left _ z)
      · rcases List.mem_cons.mp z with z | z
        · subst z
          refine ⟨by simp; omega, by simp at h30 ⊢; omega, fun k hk => ?_⟩
          simp only [List.mem_append, List.mem_cons, List.not_mem_nil, or_false] at hk
          rcases hk with (hk | hk | hk) | hk
          · exact hc0.2.2 k (by simp [hk])
          · omega
          · omega
          · exact hc0.2.2 k (by simp [hk])
        · exact hc c (List.mem_append_right _ (List.mem_cons_of_mem _ z))
    · intro z
      have := List.append_cancel_left z
      injection this with z1 _
      have := congrArg List.length z1
      simp at this
  · have hc := okc _ _ _ _ hb
    have hc0 := hc (va ++ y :: x :: vb) (by simp)
    have hx4 := hc0.2.2 x (by simp)
    have hy4 := hc0.2.2 y (by simp)
    rw [hb, bksDv_mid, chsDv_join]
    refine hb ▸ key _ _ _ _ _ hb (by simp) ?_ ?_ ?_
    · simp [chSize]
      omega
    · intro c hcm
      rcases List.mem_append.mp hcm with z | z
      · exact hc c (List.mem_append_left _ z)
      · rcases List.mem_cons.mp z with z | z
        · subst z
          have := hc0.2.1
          refine ⟨by simp; omega, by simp at this ⊢; omega, fun k hk => ?_⟩
          simp only [List.mem_append, List.mem_cons, List.not_mem_nil, or_false] at hk
          rcases hk with (hk | hk) | hk
          · exact hc0.2.2 k (by simp [hk])
          · omega
          · exact hc0.2.2 k (by simp [hk])
        · exact hc c (List.mem_append_right _ (List.mem_cons_of_mem _ z))
    · intro z
      have := List.append_cancel_left z
      injection this with z1 _
      have := congrArg List.length z1
      simp at this
  · have hc := okc _ _ _ _ hb
    have hc0 := hc (va ++ [x]) (by simp)
    have hc1 := hc ch (by simp)
    rw [hb, bksDv_mid, chsDv_move]
    refine hb ▸ key _ _ _ _ _ hb (by simp) ?_ ?_ ?_
    · simp [chSize]
      omega
    · intro c hcm
      rcases List.mem_append.mp hcm with z | z
      · exact hc c (List.mem_append_left _ z)
      · rcases List.mem_cons.mp z with z | z
        · subst z
          have := hc0.2.1
          exact ⟨hx, by simp at this; omega, fun k hk => hc0.2.2 k (by simp [hk])⟩
        · rcases List.mem_cons.mp z with z | z
          · subst z
            refine ⟨by simp, by simp; omega, fun k hk => ?_⟩
            rcases List.mem_cons.mp hk with z | z
            · exact hc0.2.2 k (by simp [z])
            · exact hc1.2.2 k z
          · exact hc c (by simp [z])
    · intro z
      have := List.append_cancel_left z
      injection this with z1 _
      have := congrArg List.length z1
      simp at this
theorem split_at' {α : Type} (l : List α) {i : Nat} (h : i < l.length) : l = l.take i ++ l[i] :: l.drop (i + 1) := by
  conv => lhs; rw [← List.take_append_drop i l, List.drop_eq_getElem_cons h]
theorem frN_ok {c : Nat} (h : c ∈ ("qxvjkzw" : Str).cps.toList) : okName (frN c) := by
  have : ∀ c ∈ ("qxvjkzw" : Str).cps.toList, 1 ≤ (frN c).length ∧ (frN c).length ≤ 6 ∧ ((frN c).cps.toList.all fun k => letters.cps.toList.contains k) = true := by decide +kernel
  obtain ⟨h1, h2, h3⟩ := this c h
  refine ⟨h1, h2, fun k hk => ?_⟩
  have := List.all_eq_true.mp h3 k hk
  simpa using this
theorem frOf_ok {ns : List Str} (h : ns.length ≤ 6) : okName (frOf ns) := by
  obtain ⟨c, r, hc⟩ := frL_ne h
  have : c ∈ frL ns := by rw [hc]; simp
  unfold frL at this
  have := frN_ok (List.mem_filter.mp this).1
  unfold frOf
  rw [hc]
  exact this
/-- another name: books as they may be, as long, others -/
theorem frB_ok {B : List Bk} (h : OkBooks B) {i : Nat} (hi : i < B.length) : OkBooks (frB B i) ∧ szOf (frB B i) = szOf B ∧ frB B i ≠ B := by
  obtain ⟨A, B', hA, hl⟩ : ∃ A B', B = A ++ B[i] :: B' ∧ A.length = i := ⟨B.take i, B.drop (i + 1), split_at' B hi, by rw [List.length_take]; omega⟩
  generalize B[i] = b at hA
  obtain ⟨n, chs⟩ := b
  have hn6 : (nmB B).length ≤ 6 := by unfold nmB; rw [List.length_map]; exact h.hi
  have hnew := frOf_ok hn6
  have hnin := frOf_nin hn6
  have e : frB B i = A ++ (frOf (nmB B), chs) :: B' := by
    unfold frB
    generalize frOf (nmB B) = s
    subst hA hl
    rw [get_mid, set_mid]
    rfl
  rw [e]
  generalize frOf (nmB B) = s at *
  have hb := h.ok (n, chs) (by rw [hA]; simp)
  have hmA : ∀ b ∈ A, b ∈ B := fun b z => by rw [hA]; exact List.mem_append_left _ z
  have hmB : ∀ b ∈ B', b ∈ B := fun b z => by rw [hA]; exact List.mem_append_right _ (List.mem_cons_of_mem _ z)
  have hnm : ∀ b ∈ B, b.1 ≠ s := fun b z y => hnin (by unfold nmB; exact List.mem_map.mpr ⟨b, z, y⟩)
  have hsum : ((A ++ (s, chs) :: B').map bkSize).sum = (B.map bkSize).sum := by
    rw [hA]
    simp only [List.map_append, List.map_cons, bkSize]
  have hok : OkBooks (A ++ (s, chs) :: B') := by
    refine ⟨by simp; omega, by have := h.hi; rw [hA] at this; simp at this ⊢; omega, ?_, fun b hb' => ?_, ?_, by rw [hsum]; exact h.size⟩
    · have := h.nd
      rw [hA, List.map_append, List.map_cons] at this
      rw [List.map_append, List.map_cons]
      obtain ⟨n1, n2, n3⟩ := List.nodup_append.mp this
      obtain ⟨n4, n5⟩ := List.nodup_cons.mp n2
      refine List.nodup_append.mpr ⟨n1, List.nodup_cons.mpr ⟨fun z => ?_, n5⟩, fun a ha b hb y => ?_⟩
      · obtain ⟨b, hb, y⟩ := List.mem_map.mp z
        exact hnm b (hmB b hb) y
      · rcases List.mem_cons.mp hb with z | z
        · obtain ⟨b2, hb2, y2⟩ := List.mem_map.mp ha
          exact hnm b2 (hmA b2 hb2) (by rw [y2, y, z])
        · exact n3 a ha b (List.mem_cons_of_mem _ z) y
    · rcases List.mem_append.mp hb' with z | z
      · exact h.ok b (hmA b z)
      · rcases List.mem_cons.mp z with z | z
        · subst z
          exact ⟨hnew, hb.2⟩
        · exact h.ok b (hmB b z)
    · have := h.many
      rw [hA] at this
      simp only [List.map_append, List.map_cons, bkMany] at this ⊢
      exact this
  refine ⟨hok, by rw [szOf_sum hok, szOf_sum h, hsum], fun z => ?_⟩
  rw [hA] at z
  have := List.append_cancel_left z
  injection this with z1 _
  injection z1 with z2 _
  exact hnm (n, chs) (by rw [hA]; simp) z2.symm
/-- turned about: books as they may be, as long, others -/
theorem rotB_ok {B : List Bk} (h : OkBooks B) (hl : 1 < B.length) : OkBooks (B.drop 1 ++ B.take 1) ∧ szOf (B.drop 1 ++ B.take 1) = szOf B ∧ B.drop 1 ++ B.take 1 ≠ B := by
  rcases B with _ | ⟨a, r⟩
  · simp at hl
  · have hsum : ((r ++ [a]).map bkSize).sum = ((a :: r).map bkSize).sum := by
      simp only [List.map_append, List.map_cons, List.map_nil, List.sum_append, List.sum_cons, List.sum_nil]
      omega
    have hok : OkBooks (r ++ [a]) := by
      refine ⟨by simp, by have := h.hi; simp at this ⊢; omega, ?_, fun b hb => h.ok b (by simp at hb ⊢; exact hb.symm), ?_, by rw [hsum]; exact h.size⟩
      · have := h.nd
        rw [List.map_cons] at this
        obtain ⟨n4, n5⟩ := List.nodup_cons.mp this
        rw [List.map_append]
        refine List.nodup_append.mpr ⟨n5, by simp, fun x hx y hy z => ?_⟩
        simp only [List.map_cons, List.map_nil, List.mem_singleton] at hy
        exact n4 (by rw [← hy, ← z]; exact hx)
      · have := h.many
        simp only [List.map_append, List.map_cons, List.map_nil, List.sum_append, List.sum_cons, List.sum_nil] at this ⊢
        omega
    show OkBooks (r ++ [a]) ∧ szOf (r ++ [a]) = szOf (a :: r) ∧ r ++ [a] ≠ a :: r
    refine ⟨hok, by rw [szOf_sum hok, szOf_sum h, hsum], fun z => ?_⟩
    rcases r with _ | ⟨b, r⟩
    · simp at hl
    · injection z with z1 _
      have := h.nd
      rw [List.map_cons, List.map_cons] at this
      exact (List.nodup_cons.mp this).1 (by rw [z1]; exact List.mem_cons_self)
/-! lines -/
theorem up_ok {F : List Int} (h : OkLs F) (m : ∀ t ∈ F, t ≤ 9998) : OkLs (F.map (· + 1)) := by
  refine ⟨List.pairwise_map.mpr (h.nd.imp fun n e => n (by omega)), fun x hx => ?_, by rw [List.length_map]; exact h.len⟩
  · obtain ⟨y, hy, rfl⟩ := List.mem_map.mp hx
    have := h.rg y hy
    have := m y hy
    omega
theorem sw_ok {F : List Int} (h : OkLs F) {i j : Nat} (hi : i < F.length) (hj : j < F.length) (hij : j ≠ i) : OkLs (swF F i j) ∧ (swF F i j).length = F.length ∧ swF F i j ≠ F := by
  have e : swF F i j = (F.set i F[j]).set j F[i] := by
    unfold swF
    rw [List.getElem?_eq_getElem hi, List.getElem?_eq_getElem hj]
    rfl
  rw [e]
  have p := List.set_set_perm hi hj
  refine ⟨⟨p.nodup_iff.mpr h.nd, fun x hx => h.rg x (p.mem_iff.mp hx), by simp; exact h.len⟩, by simp, fun z => ?_⟩
  have := congrArg (fun l => l[j]?) z
  rw [List.getElem?_set_self (by simpa using hj), List.getElem?_eq_getElem hj] at this
  injection this with this
  exact hij ((List.getElem_inj h.nd).mp this.symm)
theorem nn_ok {F : List Int} (h : OkLs F) (m : ∀ t ∈ F, t ≤ 9998) {i : Nat} (hi : i < F.length) : OkLs (F.take i ++ [9999] ++ F.drop (i + 1)) ∧ (F.take i ++ [9999] ++ F.drop (i + 1)).length = F.length ∧ F.take i ++ [9999] ++ F.drop (i + 1) ≠ F := by
  have e : F.take i ++ [9999] ++ F.drop (i + 1) = F.set i 9999 := by
    rw [List.set_eq_take_append_cons_drop, if_pos hi]
    simp
  have e2 : F = F.take i ++ (F[i] :: F.drop (i + 1)) := split_at' F hi
  have nd := h.nd
  rw [e2] at nd
  obtain ⟨n1, n2, n3⟩ := List.nodup_append.mp nd
  obtain ⟨n4, n5⟩ := List.nodup_cons.mp n2
  have mt : ∀ x ∈ F.take i, x ∈ F := fun x z => List.mem_of_mem_take z
  have md : ∀ x ∈ F.drop (i + 1), x ∈ F := fun x z => List.mem_of_mem_drop z
  refine ⟨⟨?_, fun x hx => ?_, by rw [e, List.length_set]; exact h.len⟩, by rw [e, List.length_set], fun z => ?_⟩
  · rw [List.append_assoc]
    refine List.nodup_append.mpr ⟨n1, List.nodup_cons.mpr ⟨fun z => ?_, n5⟩, fun a ha b hb y => ?_⟩
    · have := m _ (md _ z); omega
    · rcases List.mem_cons.mp hb with z | z
      · have := m _ (mt _ ha); omega
      · exact n3 a ha b (List.mem_cons_of_mem _ z) y
  · simp only [List.mem_append, List.mem_singleton] at hx
    rcases hx with (hx | hx) | hx
    · exact h.rg x (mt x hx)
    · omega
    · exact h.rg x (md x hx)
  · rw [e] at z
    have : (9999 : Int) ∈ F := by
      rw [← z]
      exact List.mem_set hi _
    have := m _ this
    omega
theorem un_ok {B O : List Bk} {F S : List Int} (cell : Int) (hB : OkBooks B) (hO : OkBooks O) (hF : OkLs F) (hS : OkLs S) (lF : (F.length : Int) = szOf B) (lS : (S.length : Int) = szOf O) (mF : ∀ t ∈ F, t ≤ 9998) (mS : ∀ t ∈ S, t ≤ 9998) :
    UnOk B F O S cell ∧ ¬ (unB B F cell = B ∧ unF B F cell = F) := by
  have hpos := hB.pos
  have hp : 1 ≤ F.length := by
    have : szOf B = ((allPl B).length : Int) := by unfold szOf; rw [List.length_map]
    omega
  have h400 := hF.len
  have hSok : OkLs (unS S cell) ∧ (unS S cell).length = S.length := by
    rw [unS]
    split
    · exact ⟨up_ok hS mS, by rw [List.length_map]⟩
    · exact ⟨hS, rfl⟩
  have fin : OkBooks (unB B F cell) → szOf (unB B F cell) = szOf B → OkLs (unF B F cell) → (unF B F cell).length = F.length → UnOk B F O S cell := fun h1 h2 h3 h4 =>
    ⟨hB, hO, ⟨hp, h400⟩, hS.len, okEd_of h1 h3 (by rw [h4, h2, lF]), h3, okEd_of hO hSok.1 (by rw [hSok.2, lS]), hSok.1⟩
  have m0 := Int.emod_nonneg (cell / 12) (by omega : (F.length : Int) ≠ 0)
  have m1 := Int.emod_lt_of_pos (cell / 12) (by omega : (0 : Int) < (F.length : Int))
  have hat : (unAt F cell).toNat < F.length := by unfold unAt; omega
  have hlo := hB.lo
  by_cases c0 : cell % 6 = 0
  · have eF : unF B F cell = F.map (· + 1) := by rw [unF, if_pos c0]
    have eB : unB B F cell = B := by rw [unB, if_neg (by omega), if_neg (by omega), if_neg (by omega)]
    rw [eF, eB] at fin
    rw [eF, eB]
    refine ⟨fin hB rfl (up_ok hF mF) (by rw [List.length_map]), fun z => ?_⟩
    rcases F with _ | ⟨x, r⟩
    · simp at hp
    · have h1 : x + 1 = x := (List.cons.inj z.2).1
      omega
  · by_cases c1 : cell % 6 = 1 ∧ divs B ≠ []
    · have eF : unF B F cell = F := by rw [unF, if_neg c0, if_pos c1]
      have eB : unB B F cell = divBs B (cell / 12) := by rw [unB, if_pos c1]
      obtain ⟨d1, d2, d3⟩ := divBs_ok hB c1.2 (cell / 12)
      rw [eF, eB] at fin
      rw [eF, eB]
      exact ⟨fin d1 d2 hF rfl, fun z => d3 z.1⟩
    · by_cases c2 : cell % 6 = 2
      · have eF : unF B F cell = F := by rw [unF, if_neg c0, if_neg c1, if_pos c2]
        have eB : unB B F cell = frB B (unAt F cell % (B.length : Int)).toNat := by rw [unB, if_neg c1, if_pos c2]
        have n0 := Int.emod_nonneg (unAt F cell) (by omega : (B.length : Int) ≠ 0)
        have n1 := Int.emod_lt_of_pos (unAt F cell) (by omega : (0 : Int) < (B.length : Int))
        obtain ⟨d1, d2, d3⟩ := frB_ok hB (i := (unAt F cell % (B.length : Int)).toNat) (by omega)
        rw [eF, eB] at fin
        rw [eF, eB]
        exact ⟨fin d1 d2 hF rfl, fun z => d3 z.1⟩
      · by_cases c3 : cell % 6 = 3 ∧ 1 < (F.length : Int)
        · have eF : unF B F cell = swF F (unAt F cell).toNat (befI F (unAt F cell)) := by rw [unF, if_neg c0, if_neg c1, if_neg c2, if_pos c3]
          have eB : unB B F cell = B := by rw [unB, if_neg c1, if_neg c2, if_neg (by omega)]
          obtain ⟨b1, b2, b3⟩ := bef_ix m0 m1
          obtain ⟨d1, d2, d3⟩ := sw_ok hF hat b2 (b3 (by omega))
          rw [eF, eB] at fin
          rw [eF, eB]
          exact ⟨fin hB rfl d1 d2, fun z => d3 z.2⟩
        · by_cases c4 : cell % 6 = 4 ∧ 1 < (B.length : Int)
          · have eF : unF B F cell = F := by rw [unF, if_neg c0, if_neg c1, if_neg c2, if_neg c3, if_pos c4]
            have eB : unB B F cell = B.drop 1 ++ B.take 1 := by rw [unB, if_neg c1, if_neg c2, if_pos c4]
            obtain ⟨d1, d2, d3⟩ := rotB_ok hB (by omega)
            rw [eF, eB] at fin
            rw [eF, eB]
            exact ⟨fin d1 d2 hF rfl, fun z => d3 z.1⟩
          · have eF : unF B F cell = F.take (unAt F cell).toNat ++ [9999] ++ F.drop ((unAt F cell).toNat + 1) := by rw [unF, if_neg c0, if_neg c1, if_neg c2, if_neg c3, if_neg c4]
            have eB : unB B F cell = B := by rw [unB, if_neg c1, if_neg c2, if_neg c4]
            obtain ⟨d1, d2, d3⟩ := nn_ok hF mF hat
            rw [eF, eB] at fin
            rw [eF, eB]
            exact ⟨fin hB rfl d1 d2, fun z => d3 z.2⟩
/-- the leading that is to be unlike: both its editions -/
theorem unLd_ok {bs os : List Bk} {fs ss : List Int} (cell : Int) (hB : OkBooks bs) (hO : OkBooks os) (hF : OkLs fs) (hS : OkLs ss) (lF : (fs.length : Int) = szOf bs) (lS : (ss.length : Int) = szOf os) (mF : ∀ t ∈ fs, t ≤ 9998) (mS : ∀ t ∈ ss, t ≤ 9998) :
    (cell / 6 % 2 = 1 → UnOk os ss bs fs cell) ∧ (¬ cell / 6 % 2 = 1 → UnOk bs fs os ss cell) ∧ OkEd (unLd bs fs os ss cell).1 ∧ OkEd (unLd bs fs os ss cell).2 ∧
      sameLd ⟨bs, fs⟩ ⟨os, ss⟩ (unLd bs fs os ss cell).1 (unLd bs fs os ss cell).2 = false ∧ sameLd (unLd bs fs os ss cell).1 (unLd bs fs os ss cell).2 ⟨bs, fs⟩ ⟨os, ss⟩ = false := by
  obtain ⟨a1, a2⟩ := un_ok cell hB hO hF hS lF lS mF mS
  obtain ⟨b1, b2⟩ := un_ok cell hO hB hS hF lS lF mS mF
  refine ⟨fun _ => b1, fun _ => a1, ?_⟩
  by_cases h : cell / 6 % 2 = 1
  · have e : unLd bs fs os ss cell = (⟨bs, unS fs cell⟩, ⟨unB os ss cell, unF os ss cell⟩) := by unfold unLd; rw [if_pos h]
    rw [e]
    refine ⟨b1.c1, b1.a1, ?_, ?_⟩
    · unfold sameLd
      rw [sameB_eq ⟨os, ss⟩, decide_eq_false (fun z => b2 ⟨z.1.symm, z.2.symm⟩), Bool.and_false]
    · unfold sameLd
      rw [sameB_eq _ ⟨os, ss⟩, decide_eq_false (fun z => b2 ⟨z.1, z.2⟩), Bool.and_false]
  · have e : unLd bs fs os ss cell = (⟨unB bs fs cell, unF bs fs cell⟩, ⟨os, unS ss cell⟩) := by unfold unLd; rw [if_neg h]
    rw [e]
    refine ⟨a1.a1, a1.c1, ?_, ?_⟩
    · unfold sameLd
      rw [sameB_eq ⟨bs, fs⟩, decide_eq_false (fun z => a2 ⟨z.1.symm, z.2.symm⟩), Bool.false_and]
    · unfold sameLd
      rw [sameB_eq _ ⟨bs, fs⟩, decide_eq_false (fun z => a2 ⟨z.1, z.2⟩), Bool.false_and]
end DL
/-! V66z: what is asked of leadings. -/
namespace DL
open PySem PySem.Spec PyProof.Rows L2
mutual
/-- data that say what stands for them -/
def pln : D → Bool
  | .int _ => true
  | .str _ => true
  | .lst ds => plnL ds
  | .tup ds => plnL ds
  | _ => false
def plnL : List D → Bool
  | [] => true
  | d :: ds => pln d && plnL ds
end
theorem rd_fun {H : Hp} {a : Addr} {xs ys : List V} (h : Rd H a (.lst xs)) (h2 : Rd H a (.lst ys)) : xs = ys := by
  rcases h with h | ⟨o, h⟩ <;> rcases h2 with h2 | ⟨o2, h2⟩ <;> · rw [h] at h2; cases h2; try rfl
section
variable {K : PySem.W.Frag} {H : Hp}
mutual
theorem rep_inj : ∀ {d e : D} {v : V}, Rep K H d v → pln d = true → pln e = true → Rep K H e v → d = e
  | _, e, _, .int i, h1, h2, r => by cases r with
    | int => rfl
    | any => cases h2
  | _, e, _, .str i, h1, h2, r => by cases r with
    | str => rfl
    | any => cases h2
  | _, e, _, .lst s t, h1, h2, r => by cases r with
    | ref => cases h2
    | lst s2 t2 =>
      have := rd_fun s s2
      subst this
      rw [repL_inj t h1 h2 t2]
    | tup s2 t2 => rcases s with s | ⟨o, s⟩ <;> · rw [s] at s2; cases s2
    | dK => cases h2
    | dT => cases h2
    | ins => cases h2
    | ext => cases h2
    | any => cases h2
  | _, e, _, .tup s t, h1, h2, r => by cases r with
    | ref => cases h2
    | lst s2 t2 => rcases s2 with s2 | ⟨o, s2⟩ <;> · rw [s] at s2; cases s2
    | tup s2 t2 =>
      rw [s] at s2
      cases s2
      rw [repL_inj t h1 h2 t2]
    | dK => cases h2
    | dT => cases h2
    | ins => cases h2
    | ext => cases h2
    | any => cases h2
theorem repL_inj : ∀ {ds es : List D} {vs : List V}, RepL K H ds vs → plnL ds = true → plnL es = true → RepL K H es vs → ds = es
  | _, _, _, .nil, _, _, .nil => rfl
  | _, _, _, .cons r t, h1, h2, .cons r2 t2 => by
    simp only [plnL, Bool.and_eq_true] at h1 h2
    rw [rep_inj r h1.1 h2.1 r2, repL_inj t h1.2 h2.2 t2]
end
theorem plnL_map {τ : Type} {f : τ → D} (h : ∀ x, pln (f x) = true) : ∀ l : List τ, plnL (l.map f) = true
  | [] => rfl
  | x :: l => by rw [List.map_cons, plnL, h x, plnL_map h l]; rfl
theorem map_inj' {α β : Type} {f : α → β} (h : ∀ x y, f x = f y → x = y) : ∀ {l m : List α}, l.map f = m.map f → l = m
  | [], [], _ => rfl
  | [], _ :: _, e => by cases e
  | _ :: _, [], e => by cases e
  | x :: l, y :: m, e => by
    rw [List.map_cons, List.map_cons] at e
    injection e with e1 e2
    rw [h _ _ e1, map_inj' h e2]
theorem chT_inj (x y : List Int) (h : chT x = chT y) : x = y := by
  injection h with h
  exact map_inj' (fun a b e => by injection e) h
theorem bkT_inj (x y : Bk) (h : bkT x = bkT y) : x = y := by
  injection h with h
  injection h with h1 h2
  injection h2 with h2 _
  injection h1 with h1
  injection h2 with h2
  obtain ⟨n, c⟩ := x
  obtain ⟨m, d⟩ := y
  simp only at h1 h2
  rw [h1, map_inj' chT_inj h2]
theorem pln_bkT (b : Bk) : pln (bkT b) = true := by
  simp only [pln, plnL, Bool.true_and, Bool.and_true]
  exact plnL_map (fun c => by simp only [pln]; exact plnL_map (fun _ => rfl) _) _
theorem ed_inj {C : Addr} {a b : Ed} {v : V} (h : Rep K H (edD C a) v) (h2 : Rep K H (edD C b) v) : a = b := by
  cases h with
  | ins s t =>
    cases h2 with
    | ins s2 t2 =>
      rw [s] at s2
      cases s2
      cases t with
      | cons r t =>
        cases t2 with
        | cons r2 t2 =>
          cases t with
          | cons _ t =>
            cases t2 with
            | cons _ t2 =>
              cases t with
              | cons q _ =>
                cases t2 with
                | cons q2 _ =>
                  have e1 := rep_inj r (by simp only [pln]; exact plnL_map pln_bkT _) (by simp only [pln]; exact plnL_map pln_bkT _) r2
                  have e2 := rep_inj q (by simp only [pln]; exact plnL_map (fun _ => rfl) _) (by simp only [pln]; exact plnL_map (fun _ => rfl) _) q2
                  injection e1 with e1
                  injection e2 with e2
                  obtain ⟨x, y⟩ := a
                  obtain ⟨z, w⟩ := b
                  simp only at e1 e2
                  rw [map_inj' bkT_inj e1, map_inj' (fun a b e => by injection e) e2]
theorem ld_inj {CL C : Addr} {a b a' b' : Ed} {v : V} (h : Rep K H (ldD CL C a b) v) (h2 : Rep K H (ldD CL C a' b') v) : a = a' ∧ b = b' := by
  cases h with
  | ins s t =>
    cases h2 with
    | ins s2 t2 =>
      rw [s] at s2
      cases s2
      cases t with
      | cons r t =>
        cases t2 with
        | cons r2 t2 =>
          cases t with
          | cons q _ =>
            cases t2 with
            | cons q2 _ => exact ⟨ed_inj r r2, ed_inj q q2⟩
theorem ld_same {CL C : Addr} {a b a' b' : Ed} (H : Hp) (p : Addr) (h : Rep K H (ldD CL C a b) (.ref p)) (h2 : Rep K H (ldD CL C a' b') (.ref p)) : sameLd a' b' a b = true := by
  obtain ⟨rfl, rfl⟩ := ld_inj h h2
  unfold sameLd
  rw [sameB_refl, sameB_refl]
  rfl
end
inductive allUnlikeR (CL CE : Addr) : List D → D → Prop
  | mk (a b a' b' : Ed) (ha : OkEd a) (hb : OkEd b) (ha' : OkEd a') (hb' : OkEd b') (h1 : sameLd a b a' b' = false) (h2 : sameLd a' b' a b = false) : allUnlikeR CL CE [ldD CL CE a b, ldD CL CE a' b'] (.bl true)
theorem sc72 : FnScope ["one", "unlike"] ["one", "unlike"] (defScope (top 72)) := (⟨rfl, rfl, rfl, by decide +kernel, rfl, by decide +kernel, by decide +kernel⟩)
section
variable {P : Program} {w : World} {K : PySem.W.Frag} {mg : Str → Option Value} {base : Heap} {f CL C : Addr} {fd : FuncData} (G : G66 mg)
include G
theorem ok_allUnlike (F : FD K "_law_all_unlike" "_law_all_unlike" (top 72) f fd) (k1 : KnM P w K mg base CL "__eq__" 3 [] (spR K (ldEqR CL C))) (k2 : KnM P w K mg base CL "turned" 4 [] (spR K (ldTurnedR CL C))) (eT : EqTy K CL) : FnOk P w K mg base CX0 5 f fd ["one", "unlike"] (spR K (allUnlikeR CL C)) := by
  have hN := sc72.nd
  refine fn_okR F sc72 (fun ds d h => by cases h <;> rfl) fun cdv A outer s H E hr ds d hR => ?_
  obtain ⟨a, b, a', b', ha, hb, ha', hb', h1, h2⟩ := hR
  have hs := ld_same (K := K) (CL := CL) (C := C) (a := a') (b := b') (a' := a) (b' := b)
  have h3 : sameLd a' b' a' b' = true := by unfold sameLd; rw [sameB_refl, sameB_refl]; rfl
  refine (DL.wss_cons (DL.ws_if (DL.wt_w (DL.ww_or (DL.wt_cmp (DL.wb_of (DL.we_var 0 rfl (Or.inl rfl) rfl)) (DL.wb_of (DL.we_var 1 rfl (Or.inl rfl) rfl)) (DL.cmp_eqOwnS k1 (L2.Room.mono hr (by omega)) (DL.ldEqR.ld _ _ _ _ ha hb ha' hb')) (rfl)) (fun _ => (DL.ww_or (DL.wt_cmp (DL.wb_of (DL.we_var 1 rfl (Or.inl rfl) rfl)) (DL.wb_of (DL.we_var 0 rfl (Or.inl rfl) rfl)) (DL.cmp_eqOwnS k1 (L2.Room.mono hr (by omega)) (DL.ldEqR.ld _ _ _ _ ha' hb' ha hb)) (rfl)) (fun _ => (DL.ww_or (DL.wt_not (DL.wt_cmp (DL.wb_of (DL.we_var 0 rfl (Or.inl rfl) rfl)) (DL.wb_of (DL.we_var 1 rfl (Or.inl rfl) rfl)) (DL.cmp_neOwnS k1 hr eT (DL.ldEqR.ld _ _ _ _ ha hb ha' hb')) (rfl))) (fun _ => (DL.ww_or1 (DL.wt_cmp (DL.wb_of (DL.we_var 1 rfl (Or.inl rfl) rfl)) (DL.wb_wn (DL.wn_lst (DL.wa_cons (DL.we_non) (DL.wa_cons (DL.we_var 0 rfl (Or.inl rfl) rfl) (DL.wa_nil) (rfl)) (rfl)) (Nat.le_of_ble_eq_true rfl))) (DL.cmp_inOwnS k1 hr eT (DL.ldEqR.ot _ _ _ _ (rfl)) (DL.ldEqR.ld _ _ _ _ ha hb ha' hb') hs) (rfl)))))))))) (fun _ => ?_) (fun _ => ?_)))
  · rename_i z
    rw [h1, h2] at z
    cases z
  · refine (DL.wss_nil (DL.Wk.refl _) (DL.wss_cons (DL.ws_ret (DL.we_cmp (DL.wb_of (DL.we_var 1 rfl (Or.inl rfl) rfl)) (DL.wb_of (DL.we_meth0 k2 hr (DL.we_meth0 k2 hr (DL.we_var 1 rfl (Or.inl rfl) rfl) (rfl) (DL.ldTurnedR.mk _ _ ha' hb') (rfl)) (rfl) (DL.ldTurnedR.mk _ _ hb' ha') (rfl))) (DL.cmp_eqOwnS k1 (L2.Room.mono hr (by omega)) (DL.ldEqR.ld _ _ _ _ ha' hb' ha' hb')) (rfl)) ?_)))
    rw [h3]
/-- what the loop of _law_equal looks at -/
def lawThings (CE : Addr) (a b : Ed) : List D := [.non, .int 0, .lst ((ldRows a b).map rowD), .str (ldStr a b), .tup [edD CE a, edD CE b], edD CE a, .int ((ldRows a b).length : Int)]
end
inductive lawEqualR (CL CE : Addr) : List D → D → Prop
  | mk (a b a' b' : Ed) (ha : OkEd a) (hb : OkEd b) (ha' : OkEd a') (hb' : OkEd b') : lawEqualR CL CE [ldD CL CE a b, ldD CL CE a' b'] (.bl true)
theorem sc73 : FnScope ["one", "other", "told", "alike", "thing"] ["one", "other"] (defScope (top 73)) := (⟨rfl, rfl, rfl, by decide +kernel, rfl, by decide +kernel, by decide +kernel⟩)
section
variable {P : Program} {w : World} {K : PySem.W.Frag} {mg : Str → Option Value} {base : Heap} {f CL C : Addr} {fd : FuncData} (G : G66 mg)
include G
theorem ok_lawEqual (F : FD K "_law_equal" "_law_equal" (top 73) f fd) (k1 : KnM P w K mg base CL "__eq__" 3 [] (spR K (ldEqR CL C))) (k2 : KnM P w K mg base CL "turned" 4 [] (spR K (ldTurnedR CL C))) (k3 : KnM P w K mg base CL "editions" 1 [] (spR K (ldEditionsR CL C))) (k4 : KnM P w K mg base C "same" 2 [] (spR K (edSameR C))) (k5 : KnM P w K mg base CL "rows" 2 [] (spR K (ldRowsR CL C))) (k6 : KnM P w K mg base CL "__str__" 2 [] (spR K (ldStrR CL C))) (k7 : KnM P w K mg base CL "__len__" 2 [] (spR K (ldLenR CL C))) (k8 : KnC P w K mg base "Leading" CL 2 [] (spI K CL (ldInR CL C))) (eT : EqTy K CL) (eC : PySem.W.notFirst K CL (.ref C) = true) : FnOk P w K mg base CX0 6 f fd ["one", "other"] (spR K (lawEqualR CL C)) := by
  have hN := sc73.nd
  refine fn_okR F sc73 (fun ds d h => by cases h <;> rfl) fun cdv A outer s H E hr ds d hR => ?_
  obtain ⟨a, b, a', b', ha, hb, ha', hb'⟩ := hR
  have hs := ld_same (K := K) (CL := CL) (C := C) (a := a') (b := b') (a' := a) (b' := b)
  have h3 : sameLd a b a b = true := by unfold sameLd; rw [sameB_refl, sameB_refl]; rfl
  have h4 : sameLd b a b a = true := by unfold sameLd; rw [sameB_refl, sameB_refl]; rfl
  have eN := eT.ne
  have hc : ∀ (b1 : Bool), (b1 != b1 || (decide ((D.bl !b1).val = (D.bl b1).val) || b1 != b1)) = false := by decide
  have hrows : (ldRows a b).length ≤ 400 := Nat.le_trans (rows_len (enumL 0 (goesOf a b))) (by rw [enumL_length, goes_len]; exact ha.l)
  refine (DL.wss_cons (DL.ws_asg (DL.we_meth0 k3 (L2.Room.mono hr (by omega)) (DL.we_var 0 rfl (Or.inl rfl) rfl) (rfl) (DL.ldEditionsR.mk _ _) (rfl)) (DL.wg_name 2 hN (rfl) (Or.inl rfl) (Or.inl rfl)) (DL.wss_cons (DL.ws_asg (DL.we_and (DL.we_meth k4 (L2.Room.mono hr (by omega)) (DL.we_sub' (DL.we_var 2 rfl (Or.inl rfl) rfl) (DL.wb_of (DL.we_int)) (DL.sub_t (rfl)) (fun _ _ => rfl)) (rfl) (DL.wa_cons (DL.we_sub' (DL.we_meth0 k3 (L2.Room.mono hr (by omega)) (DL.we_var 1 rfl (Or.inl rfl) rfl) (rfl) (DL.ldEditionsR.mk _ _) (rfl)) (DL.wb_of (DL.we_int)) (DL.sub_t (rfl)) (fun _ _ => rfl)) (DL.wa_nil) (rfl)) (DL.edSameR.mk _ _ ha ha') (rfl) (rfl) (rfl)) (fun _ => (DL.we_one (DL.we_meth k4 (L2.Room.mono hr (by omega)) (DL.we_sub' (DL.we_var 2 rfl (Or.inl rfl) rfl) (DL.wb_of (DL.we_int)) (DL.sub_t (rfl)) (fun _ _ => rfl)) (rfl) (DL.wa_cons (DL.we_sub' (DL.we_meth0 k3 (L2.Room.mono hr (by omega)) (DL.we_var 1 rfl (Or.inl rfl) rfl) (rfl) (DL.ldEditionsR.mk _ _) (rfl)) (DL.wb_of (DL.we_int)) (DL.sub_t (rfl)) (fun _ _ => rfl)) (DL.wa_nil) (rfl)) (DL.edSameR.mk _ _ hb hb') (rfl) (rfl) (rfl))))) (DL.wg_name 3 hN (rfl) (Or.inl rfl) (Or.inl rfl)) (DL.wss_cons (DL.ws_if (DL.wt_w (DL.ww_or (DL.wt_cmp (DL.wb_of (DL.we_cmp (DL.wb_of (DL.we_var 0 rfl (Or.inl rfl) rfl)) (DL.wb_of (DL.we_var 1 rfl (Or.inl rfl) rfl)) (DL.cmp_eqOwnS k1 (L2.Room.mono hr (by omega)) (DL.ldEqR.ld _ _ _ _ ha hb ha' hb')) (rfl))) (DL.wb_of (DL.we_var 3 rfl (Or.inl rfl) rfl)) (DL.cmp_neB (hr.units)) (rfl)) (fun _ => (DL.ww_or (DL.wt_cmp (DL.wb_of (DL.we_cmp (DL.wb_of (DL.we_var 0 rfl (Or.inl rfl) rfl)) (DL.wb_of (DL.we_var 1 rfl (Or.inl rfl) rfl)) (DL.cmp_neOwnS k1 (L2.Room.mono hr (by omega)) eT (DL.ldEqR.ld _ _ _ _ ha hb ha' hb')) (rfl))) (DL.wb_of (DL.we_var 3 rfl (Or.inl rfl) rfl)) (DL.cmp_eqV (rfl) (rfl) (rfl) (rfl)) (rfl)) (fun _ => (DL.ww_or1 (DL.wt_cmp (DL.wb_of (DL.we_cmp (DL.wb_of (DL.we_var 1 rfl (Or.inl rfl) rfl)) (DL.wb_wn (DL.wn_lst (DL.wa_cons (DL.we_non) (DL.wa_cons (DL.we_var 0 rfl (Or.inl rfl) rfl) (DL.wa_nil) (rfl)) (rfl)) (Nat.le_of_ble_eq_true rfl))) (DL.cmp_inOwnS k1 (L2.Room.mono hr (by omega)) eT (DL.ldEqR.ot _ _ _ _ (rfl)) (DL.ldEqR.ld _ _ _ _ ha hb ha' hb') hs) (rfl))) (DL.wb_of (DL.we_var 3 rfl (Or.inl rfl) rfl)) (DL.cmp_neB (hr.units)) (rfl)))))))) (fun _ => ?_) (fun _ => ?_))) (rfl) (rfl) (rfl))) (rfl) (rfl) (rfl)))
  · rename_i z
    rw [show sameLd a b a' b' = (sameB a a' && sameB b b') from rfl, hc] at z
    cases z
  · refine (DL.wss_nil (DL.Wk.refl _) (DL.wss_cons (ws_for (l := lawThings C a b) (enc := fun d => d) (fun _ => ⟨[], [some (ldD CL C a b), some (ldD CL C a' b'), some (.tup [edD C a, edD C b]), some (.bl (sameB a a' && sameB b b')), none]⟩) (DL.wi_list (DL.we_wn (DL.wn_lst (DL.wa_cons (DL.we_non) (DL.wa_cons (DL.we_int) (DL.wa_cons (DL.we_meth0 k5 (L2.Room.mono hr (by omega)) (DL.we_var 0 rfl (Or.inl rfl) rfl) (rfl) (DL.ldRowsR.mk _ _ ha) (rfl)) (DL.wa_cons (DL.we_strOwn (DL.we_var 0 rfl (Or.inl rfl) rfl) k6 (L2.Room.mono hr (by omega)) (DL.ldStrR.mk _ _ ha hb) (G.free _ (by decide +kernel)) (rfl) (rfl)) (DL.wa_cons (DL.we_var 2 rfl (Or.inl rfl) rfl) (DL.wa_cons (DL.we_sub' (DL.we_var 2 rfl (Or.inl rfl) rfl) (DL.wb_of (DL.we_int)) (DL.sub_t (rfl)) (fun _ _ => rfl)) (DL.wa_cons (DL.we_lenOwn (DL.we_var 0 rfl (Or.inl rfl) rfl) k7 (L2.Room.mono hr (by omega)) (DL.ldLenR.mk _ _ ha) (by omega) (by omega) (G.free _ (by decide +kernel)) (rfl) (rfl)) (DL.wa_nil) (rfl)) (rfl)) (rfl)) (rfl)) (rfl)) (rfl)) (rfl)) (Nat.le_of_ble_eq_true rfl)))) (DL.Wk.mk (DL.WkO.nil) (DL.WkS.keep (rfl) (DL.WkS.keep (rfl) (DL.WkS.keep (rfl) (DL.WkS.keep (rfl) (DL.WkS.drop (DL.WkS.nil))))))) ?_ (DL.wss_cons (DL.ws_ret (DL.we_and (DL.we_cmp (DL.wb_of (DL.we_var 0 rfl (Or.inl rfl) rfl)) (DL.wb_of (DL.we_make k8 (L2.Room.mono hr (by omega)) (DL.wa_cons (DL.we_sub' (DL.we_var 2 rfl (Or.inl rfl) rfl) (DL.wb_of (DL.we_int)) (DL.sub_t (rfl)) (fun _ _ => rfl)) (DL.wa_cons (DL.we_sub' (DL.we_var 2 rfl (Or.inl rfl) rfl) (DL.wb_of (DL.we_int)) (DL.sub_t (rfl)) (fun _ _ => rfl)) (DL.wa_nil) (rfl)) (rfl)) (by intros; first | rfl | exact DL.RepL.nil | exact DL.RepL.cons DL.Rep.non DL.RepL.nil) (DL.ldInR.mk _ _ ha hb) (rfl) (rfl) (rfl) (rfl))) (DL.cmp_eqOwnS k1 (L2.Room.mono hr (by omega)) (DL.ldEqR.ld _ _ _ _ ha hb ha hb)) (rfl)) (fun _ => (DL.we_one (DL.we_cmp (DL.wb_of (DL.we_meth0 k2 (L2.Room.mono hr (by omega)) (DL.we_var 0 rfl (Or.inl rfl) rfl) (rfl) (DL.ldTurnedR.mk _ _ ha hb) (rfl))) (DL.wb_of (DL.we_make k8 (L2.Room.mono hr (by omega)) (DL.wa_cons (DL.we_sub' (DL.we_var 2 rfl (Or.inl rfl) rfl) (DL.wb_of (DL.we_int)) (DL.sub_t (rfl)) (fun _ _ => rfl)) (DL.wa_cons (DL.we_sub' (DL.we_var 2 rfl (Or.inl rfl) rfl) (DL.wb_of (DL.we_int)) (DL.sub_t (rfl)) (fun _ _ => rfl)) (DL.wa_nil) (rfl)) (rfl)) (by intros; first | rfl | exact DL.RepL.nil | exact DL.RepL.cons DL.Rep.non DL.RepL.nil) (DL.ldInR.mk _ _ hb ha) (rfl) (rfl) (rfl) (rfl))) (DL.cmp_eqOwnS k1 (L2.Room.mono hr (by omega)) (DL.ldEqR.ld _ _ _ _ hb ha hb ha)) (rfl))))) ?_)))))
    · intro pre x post hl
      have hx : x ∈ lawThings C a b := by rw [hl]; simp
      clear hl
      simp only [lawThings, List.mem_cons, List.not_mem_nil, or_false] at hx
      rcases hx with rfl | rfl | rfl | rfl | rfl | rfl | rfl
      · exact (Exists.intro _ (And.intro (DL.wg_name 4 hN (rfl) (Or.inl rfl) (Or.inl rfl)) (DL.wss_cons (DL.ws_if (DL.wt_w (DL.ww_or (DL.wt_cmp (DL.wb_of (DL.we_var 0 rfl (Or.inl rfl) rfl)) (DL.wb_of (DL.we_var 4 rfl (Or.inl rfl) rfl)) (DL.cmp_eqOwnT k1 (L2.Room.mono hr (by omega)) eT (rfl) (rfl) (DL.ldEqR.ot _ _ _ _ (rfl))) (rfl)) (fun _ => (DL.ww_or1 (DL.wt_not (DL.wt_cmp (DL.wb_of (DL.we_var 0 rfl (Or.inl rfl) rfl)) (DL.wb_of (DL.we_var 4 rfl (Or.inl rfl) rfl)) (DL.cmp_neOwnT k1 (L2.Room.mono hr (by omega)) eT (rfl) (rfl) (DL.ldEqR.ot _ _ _ _ (rfl))) (rfl))))))) (fun z => nomatch z) (fun _ => (DL.wss_nil (DL.Wk.refl _) (DL.wss_nil2 rfl (DL.Wk.mk (DL.WkO.nil) (DL.WkS.keep (rfl) (DL.WkS.keep (rfl) (DL.WkS.keep (rfl) (DL.WkS.keep (rfl) (DL.WkS.drop (DL.WkS.nil))))))))))))))
      · exact (Exists.intro _ (And.intro (DL.wg_name 4 hN (rfl) (Or.inl rfl) (Or.inl rfl)) (DL.wss_cons (DL.ws_if (DL.wt_w (DL.ww_or (DL.wt_cmp (DL.wb_of (DL.we_var 0 rfl (Or.inl rfl) rfl)) (DL.wb_of (DL.we_var 4 rfl (Or.inl rfl) rfl)) (DL.cmp_eqOwnT k1 (L2.Room.mono hr (by omega)) eT (rfl) (rfl) (DL.ldEqR.ot _ _ _ _ (rfl))) (rfl)) (fun _ => (DL.ww_or1 (DL.wt_not (DL.wt_cmp (DL.wb_of (DL.we_var 0 rfl (Or.inl rfl) rfl)) (DL.wb_of (DL.we_var 4 rfl (Or.inl rfl) rfl)) (DL.cmp_neOwnT k1 (L2.Room.mono hr (by omega)) eT (rfl) (rfl) (DL.ldEqR.ot _ _ _ _ (rfl))) (rfl))))))) (fun z => nomatch z) (fun _ => (DL.wss_nil (DL.Wk.refl _) (DL.wss_nil2 rfl (DL.Wk.mk (DL.WkO.nil) (DL.WkS.keep (rfl) (DL.WkS.keep (rfl) (DL.WkS.keep (rfl) (DL.WkS.keep (rfl) (DL.WkS.drop (DL.WkS.nil))))))))))))))
      · exact (Exists.intro _ (And.intro (DL.wg_name 4 hN (rfl) (Or.inl rfl) (Or.inl rfl)) (DL.wss_cons (DL.ws_if (DL.wt_w (DL.ww_or (DL.wt_cmp (DL.wb_of (DL.we_var 0 rfl (Or.inl rfl) rfl)) (DL.wb_of (DL.we_var 4 rfl (Or.inl rfl) rfl)) (DL.cmp_eqOwnT k1 (L2.Room.mono hr (by omega)) eT (rfl) (rfl) (DL.ldEqR.ot _ _ _ _ (rfl))) (rfl)) (fun _ => (DL.ww_or1 (DL.wt_not (DL.wt_cmp (DL.wb_of (DL.we_var 0 rfl (Or.inl rfl) rfl)) (DL.wb_of (DL.we_var 4 rfl (Or.inl rfl) rfl)) (DL.cmp_neOwnT k1 (L2.Room.mono hr (by omega)) eT (rfl) (rfl) (DL.ldEqR.ot _ _ _ _ (rfl))) (rfl))))))) (fun z => nomatch z) (fun _ => (DL.wss_nil (DL.Wk.refl _) (DL.wss_nil2 rfl (DL.Wk.mk (DL.WkO.nil) (DL.WkS.keep (rfl) (DL.WkS.keep (rfl) (DL.WkS.keep (rfl) (DL.WkS.keep (rfl) (DL.WkS.drop (DL.WkS.nil))))))))))))))
      · exact (Exists.intro _ (And.intro (DL.wg_name 4 hN (rfl) (Or.inl rfl) (Or.inl rfl)) (DL.wss_cons (DL.ws_if (DL.wt_w (DL.ww_or (DL.wt_cmp (DL.wb_of (DL.we_var 0 rfl (Or.inl rfl) rfl)) (DL.wb_of (DL.we_var 4 rfl (Or.inl rfl) rfl)) (DL.cmp_eqOwnT k1 (L2.Room.mono hr (by omega)) eT (rfl) (rfl) (DL.ldEqR.ot _ _ _ _ (rfl))) (rfl)) (fun _ => (DL.ww_or1 (DL.wt_not (DL.wt_cmp (DL.wb_of (DL.we_var 0 rfl (Or.inl rfl) rfl)) (DL.wb_of (DL.we_var 4 rfl (Or.inl rfl) rfl)) (DL.cmp_neOwnT k1 (L2.Room.mono hr (by omega)) eT (rfl) (rfl) (DL.ldEqR.ot _ _ _ _ (rfl))) (rfl))))))) (fun z => nomatch z) (fun _ => (DL.wss_nil (DL.Wk.refl _) (DL.wss_nil2 rfl (DL.Wk.mk (DL.WkO.nil) (DL.WkS.keep (rfl) (DL.WkS.keep (rfl) (DL.WkS.keep (rfl) (DL.WkS.keep (rfl) (DL.WkS.drop (DL.WkS.nil))))))))))))))
      · exact (Exists.intro _ (And.intro (DL.wg_name 4 hN (rfl) (Or.inl rfl) (Or.inl rfl)) (DL.wss_cons (DL.ws_if (DL.wt_w (DL.ww_or (DL.wt_cmp (DL.wb_of (DL.we_var 0 rfl (Or.inl rfl) rfl)) (DL.wb_of (DL.we_var 4 rfl (Or.inl rfl) rfl)) (DL.cmp_eqOwnT k1 (L2.Room.mono hr (by omega)) eT (rfl) (rfl) (DL.ldEqR.ot _ _ _ _ (rfl))) (rfl)) (fun _ => (DL.ww_or1 (DL.wt_not (DL.wt_cmp (DL.wb_of (DL.we_var 0 rfl (Or.inl rfl) rfl)) (DL.wb_of (DL.we_var 4 rfl (Or.inl rfl) rfl)) (DL.cmp_neOwnT k1 (L2.Room.mono hr (by omega)) eT (rfl) (rfl) (DL.ldEqR.ot _ _ _ _ (rfl))) (rfl))))))) (fun z => nomatch z) (fun _ => (DL.wss_nil (DL.Wk.refl _) (DL.wss_nil2 rfl (DL.Wk.mk (DL.WkO.nil) (DL.WkS.keep (rfl) (DL.WkS.keep (rfl) (DL.WkS.keep (rfl) (DL.WkS.keep (rfl) (DL.WkS.drop (DL.WkS.nil))))))))))))))
      · exact (Exists.intro _ (And.intro (DL.wg_name 4 hN (rfl) (Or.inl rfl) (Or.inl rfl)) (DL.wss_cons (DL.ws_if (DL.wt_w (DL.ww_or (DL.wt_cmp (DL.wb_of (DL.we_var 0 rfl (Or.inl rfl) rfl)) (DL.wb_of (DL.we_var 4 rfl (Or.inl rfl) rfl)) (DL.cmp_eqOwn k1 (L2.Room.mono hr (by omega)) (rfl) eC (DL.ldEqR.ed _ _ _)) (rfl)) (fun _ => (DL.ww_or1 (DL.wt_not (DL.wt_cmp (DL.wb_of (DL.we_var 0 rfl (Or.inl rfl) rfl)) (DL.wb_of (DL.we_var 4 rfl (Or.inl rfl) rfl)) (DL.cmp_neOwn k1 (L2.Room.mono hr (by omega)) (rfl) eC eN (DL.ldEqR.ed _ _ _)) (rfl))))))) (fun z => nomatch z) (fun _ => (DL.wss_nil (DL.Wk.refl _) (DL.wss_nil2 rfl (DL.Wk.mk (DL.WkO.nil) (DL.WkS.keep (rfl) (DL.WkS.keep (rfl) (DL.WkS.keep (rfl) (DL.WkS.keep (rfl) (DL.WkS.drop (DL.WkS.nil))))))))))))))
      · exact (Exists.intro _ (And.intro (DL.wg_name 4 hN (rfl) (Or.inl rfl) (Or.inl rfl)) (DL.wss_cons (DL.ws_if (DL.wt_w (DL.ww_or (DL.wt_cmp (DL.wb_of (DL.we_var 0 rfl (Or.inl rfl) rfl)) (DL.wb_of (DL.we_var 4 rfl (Or.inl rfl) rfl)) (DL.cmp_eqOwnT k1 (L2.Room.mono hr (by omega)) eT (rfl) (rfl) (DL.ldEqR.ot _ _ _ _ (rfl))) (rfl)) (fun _ => (DL.ww_or1 (DL.wt_not (DL.wt_cmp (DL.wb_of (DL.we_var 0 rfl (Or.inl rfl) rfl)) (DL.wb_of (DL.we_var 4 rfl (Or.inl rfl) rfl)) (DL.cmp_neOwnT k1 (L2.Room.mono hr (by omega)) eT (rfl) (rfl) (DL.ldEqR.ot _ _ _ _ (rfl))) (rfl))))))) (fun z => nomatch z) (fun _ => (DL.wss_nil (DL.Wk.refl _) (DL.wss_nil2 rfl (DL.Wk.mk (DL.WkO.nil) (DL.WkS.keep (rfl) (DL.WkS.keep (rfl) (DL.WkS.keep (rfl) (DL.WkS.keep (rfl) (DL.WkS.drop (DL.WkS.nil))))))))))))))
    · rw [h3, h4]
      rfl
end
end DL
/-! V66za: the law. -/
namespace DL
open PySem PySem.Spec PyProof.Rows L2
def edX : Ed := ⟨[("stray", [[1]])], spread [(9999, 1)]⟩
theorem edX_ok : OkEd edX := by
  have hb : OkBooks [(("stray" : Str), [[(1 : Int)]])] := by
    refine ⟨by decide, by decide, by simp, fun b hb => ?_, by decide, by decide⟩
    rw [List.mem_singleton.mp hb]
    refine ⟨⟨by decide +kernel, by decide +kernel, ?_⟩, by decide, by decide, fun c hc => ?_⟩
    · have : (("stray" : Str).cps.toList.all fun k => letters.cps.toList.contains k) = true := by decide +kernel
      intro k hk
      have := List.all_eq_true.mp this k hk
      simpa using this
    · rw [List.mem_singleton.mp hc]
      exact ⟨by decide, by decide, fun n hn => by rw [List.mem_singleton.mp hn]; decide⟩
  exact okEd_of hb ⟨by decide +kernel, by decide +kernel, by decide +kernel⟩ (by decide +kernel)
theorem spX_ok : OkSpans [(9999, 1)] := spans_ok (way := 1) (l := [9999]) ⟨by decide, by decide, by decide⟩
inductive strayR (C : Addr) : List D → D → Prop
  | mk : strayR C [.lst [.tup [.str "stray", .lst [.lst [.int 1]]]], .lst [.tup [.int 9999, .int 1]]] (edD C edX)
theorem KnK.sub {P : Program} {w : World} {K : PySem.W.Frag} {mg : Str → Option Value} {base : Heap} {x : Str} {C : Addr} {k n : Nat} {ks : List Str} {R R' : List D → D → Prop} (h : KnK P w K mg base x C k n ks (spI K C R)) (q : ∀ ds d, R' ds d → R ds d) : KnK P w K mg base x C k n ks (spI K C R') := by
  obtain ⟨g, f, fd, ps, gg, h1, h2, F⟩ := h
  have up : ∀ vs H Q E, spI K C R' vs H Q E → spI K C R vs H Q E := fun vs H Q E ⟨Hb, F, x, dx, ws, ds, d, a1, a2, a3, a4, a5, a6, a7, a8, a9⟩ => ⟨Hb, F, x, dx, ws, ds, d, a1, a2, a3, a4, a5, a6, a7, q _ _ a8, a9⟩
  exact ⟨g, f, fd, ps, gg, h1, h2, ⟨fun vs H Q E z => F.len vs H Q E (up _ _ _ _ z), fun A outer s H args us vs Q E a b c d z => F.run A outer s H args us vs Q E a b c d (up _ _ _ _ z)⟩⟩
theorem stray_in {C : Addr} (ds : List D) (d : D) (h : strayR C ds d) : edInR C ds d := by
  cases h
  exact .llst [("stray", [[1]])] [(9999, 1)] edX_ok spX_ok
inductive lawR : List D → D → Prop
  | mk (sc : List Int) (h : sc.length ≤ 1000) : lawR [.lst (sc.map D.int)] (.bl true)
theorem sc74 : FnScope ["script", "books", "first", "others", "second", "turn", "one", "extra", "stray", "cell", "same"] ["script"] (defScope (top 74)) := (⟨rfl, rfl, rfl, by decide +kernel, rfl, by decide +kernel, by decide +kernel⟩)
section
variable {P : Program} {w : World} {K : PySem.W.Frag} {mg : Str → Option Value} {base : Heap} {f CL C : Addr} {fd : FuncData} (G : G66 mg)
include G
theorem ok_law (F : FD K "law" "law" (top 74) f fd) (k1 : Kn P w K mg base "_law_two" 3 [] (spR K twoR)) (k2 : Kn P w K mg base "_law_cell_at" 1 [] (spR K cellAtR)) (k3 : Kn P w K mg base "_law_edition" 7 [] (spR K (lawEdR C))) (k4 : KnC P w K mg base "Leading" CL 2 [] (spI K CL (ldInR CL C))) (k5 : KnK P w K mg base "Edition" C 5 1 ["lines"] (spI K C (edInR C))) (k6 : KnM P w K mg base CL "editions" 1 [] (spR K (ldEditionsR CL C))) (k7 : KnM P w K mg base CL "turned" 4 [] (spR K (ldTurnedR CL C))) (k8 : Kn P w K mg base "_law_equal" 6 [] (spR K (lawEqualR CL C))) (k9 : Kn P w K mg base "_law_all_unlike" 5 [] (spR K (allUnlikeR CL C))) (k10 : Kn P w K mg base "_law_unlike" 8 [] (spR K (unlikeR CL C))) (k11 : KnM P w K mg base CL "__eq__" 3 [] (spR K (ldEqR CL C))) : FnOk P w K mg base CX0 9 f fd ["script"] (spR K lawR) := by
  have hN := sc74.nd
  refine fn_okR F sc74 (fun ds d h => by cases h <;> rfl) fun cdv A outer s H E hr ds d hR => ?_
  obtain ⟨sc, hsc⟩ := hR
  replace k5 := k5.sub (stray_in (C := C))
  have hb : OkBooks (twOf sc).bs := twBs_ok sc
  have ho : OkBooks (twOf sc).os := twOs_ok sc
  obtain ⟨f1, f2, f3⟩ : OkLs (twOf sc).fs ∧ ((twOf sc).fs.length : Int) = szOf (twOf sc).bs ∧ ∀ t ∈ (twOf sc).fs, t ≤ 9998 := twFs_ok sc
  obtain ⟨s1, s2, s3⟩ : OkLs (twOf sc).ss ∧ ((twOf sc).ss.length : Int) = szOf (twOf sc).os ∧ ∀ t ∈ (twOf sc).ss, t ≤ 9998 := twSs_ok sc
  have ea := okEd_of hb f1 f2
  have eb := okEd_of ho s1 s2
  have fb := hb.few
  have fo := ho.few
  have ex := edX_ok
  have hu := fun cell => unLd_ok cell hb ho f1 s1 f2 s2 f3 s3
  obtain ⟨y, hy, hyo⟩ : ∃ y : Ed, atI [edD C ⟨(twOf sc).bs, (twOf sc).fs⟩, edD C ⟨(twOf sc).os, (twOf sc).ss⟩] (cellAt sc 5 / 36 % 2) = some (edD C y) ∧ OkEd y := by
    rcases Int.emod_two_eq (cellAt sc 5 / 36) with z | z
    · rw [z]; exact ⟨_, rfl, ea⟩
    · rw [z]; exact ⟨_, rfl, eb⟩
  have h3 : sameLd ⟨(twOf sc).bs, (twOf sc).fs⟩ ⟨(twOf sc).os, (twOf sc).ss⟩ ⟨(twOf sc).bs, (twOf sc).fs⟩ ⟨(twOf sc).os, (twOf sc).ss⟩ = true := by unfold sameLd; rw [sameB_refl, sameB_refl]; rfl
  refine (DL.wss_cons (DL.ws_asg (DL.we_call k1 (L2.Room.mono hr (by omega)) (DL.wa_cons (DL.we_var 0 rfl (Or.inl rfl) rfl) (DL.wa_nil) (rfl)) (DL.twoR.mk _) (rfl) (rfl) (rfl) (rfl)) (DL.wg_tup (DL.wgs_cons (DL.wg_name 1 hN (rfl) (Or.inl rfl) (Or.inl rfl)) (DL.wgs_cons (DL.wg_name 2 hN (rfl) (Or.inl rfl) (Or.inl rfl)) (DL.wgs_cons (DL.wg_name 3 hN (rfl) (Or.inl rfl) (Or.inl rfl)) (DL.wgs_cons (DL.wg_name 4 hN (rfl) (Or.inl rfl) (Or.inl rfl)) (DL.wgs_nil) (rfl)) (rfl)) (rfl)) (rfl)) (rfl) (rfl) (rfl)) (DL.wss_cons (DL.ws_asg (DL.we_call k2 (L2.Room.mono hr (by omega)) (DL.wa_cons (DL.we_var 0 rfl (Or.inl rfl) rfl) (DL.wa_cons (DL.we_int) (DL.wa_nil) (rfl)) (rfl)) (DL.cellAtR.mk _ _ (by decide +kernel)) (rfl) (rfl) (rfl) (rfl)) (DL.wg_name 5 hN (rfl) (Or.inl rfl) (Or.inl rfl)) (DL.wss_cons (DL.ws_asg (DL.we_make k4 (L2.Room.mono hr (by omega)) (DL.wa_cons (DL.we_call k3 (L2.Room.mono hr (by omega)) (DL.wa_cons (DL.we_var 1 rfl (Or.inl rfl) rfl) (DL.wa_cons (DL.we_var 2 rfl (Or.inl rfl) rfl) (DL.wa_cons (DL.we_var 5 rfl (Or.inl rfl) rfl) (DL.wa_nil) (rfl)) (rfl)) (rfl)) (DL.lawEdR.mk _ _ _ ea fb f1) (rfl) (rfl) (rfl) (rfl)) (DL.wa_cons (DL.we_call k3 (L2.Room.mono hr (by omega)) (DL.wa_cons (DL.we_var 3 rfl (Or.inl rfl) rfl) (DL.wa_cons (DL.we_var 4 rfl (Or.inl rfl) rfl) (DL.wa_cons (DL.we_bin (DL.wb_of (DL.we_var 5 rfl (Or.inl rfl) rfl)) (DL.wb_of (DL.we_int)) (DL.bin_fdiv (⟨by decide, by decide⟩))) (DL.wa_nil) (rfl)) (rfl)) (rfl)) (DL.lawEdR.mk _ _ _ eb fo s1) (rfl) (rfl) (rfl) (rfl)) (DL.wa_nil) (rfl)) (rfl)) (by intros; first | rfl | exact DL.RepL.nil | exact DL.RepL.cons DL.Rep.non DL.RepL.nil) (DL.ldInR.mk _ _ ea eb) (rfl) (rfl) (rfl) (rfl)) (DL.wg_name 6 hN (rfl) (Or.inl rfl) (Or.inl rfl)) (DL.wss_cons (DL.ws_asg (DL.we_makeK k5 (L2.Room.mono hr (by omega)) (DL.wa_cons (DL.we_wn (DL.wn_lst (DL.wa_cons (DL.we_tup (DL.wa_cons (DL.we_str) (DL.wa_cons (DL.we_wn (DL.wn_lst (DL.wa_cons (DL.we_wn (DL.wn_lst (DL.wa_cons (DL.we_int) (DL.wa_nil) (rfl)) (by decide +kernel))) (DL.wa_nil) (rfl)) (by decide +kernel))) (DL.wa_nil) (rfl)) (rfl)) (by decide +kernel)) (DL.wa_nil) (rfl)) (by decide +kernel))) (DL.wa_nil) (rfl)) (DL.we_wn (DL.wn_lst (DL.wa_cons (DL.we_tup (DL.wa_cons (DL.we_int) (DL.wa_cons (DL.we_int) (DL.wa_nil) (rfl)) (rfl)) (by decide +kernel)) (DL.wa_nil) (rfl)) (by decide +kernel))) (rfl) (DL.strayR.mk) (rfl) (rfl) (rfl) (rfl) (rfl) (rfl)) (DL.wg_name 7 hN (rfl) (Or.inl rfl) (Or.inl rfl)) (DL.wss_cons (DL.ws_asg (DL.we_make k4 (L2.Room.mono hr (by omega)) (DL.wa_cons (DL.we_var 7 rfl (Or.inl rfl) rfl) (DL.wa_cons (DL.we_sub' (DL.we_meth0 k6 (L2.Room.mono hr (by omega)) (DL.we_var 6 rfl (Or.inl rfl) rfl) (rfl) (DL.ldEditionsR.mk _ _) (rfl)) (DL.wb_of (DL.we_bin (DL.wb_of (DL.we_bin (DL.wb_of (DL.we_var 5 rfl (Or.inl rfl) rfl)) (DL.wb_of (DL.we_int)) (DL.bin_fdiv (⟨by decide, by decide⟩)))) (DL.wb_of (DL.we_int)) (DL.bin_mod (by decide +kernel)))) (DL.sub_t (hy)) (fun _ _ => rfl)) (DL.wa_nil) (rfl)) (rfl)) (by intros; first | rfl | exact DL.RepL.nil | exact DL.RepL.cons DL.Rep.non DL.RepL.nil) (DL.ldInR.mk _ _ ex hyo) (rfl) (rfl) (rfl) (rfl)) (DL.wg_name 8 hN (rfl) (Or.inl rfl) (Or.inl rfl)) (DL.wss_cons (DL.ws_if (DL.wt_w (DL.ww_or (DL.wt_not (DL.wt_tru (DL.wb_of (DL.we_call k8 (L2.Room.mono hr (by omega)) (DL.wa_cons (DL.we_var 6 rfl (Or.inl rfl) rfl) (DL.wa_cons (DL.we_var 8 rfl (Or.inl rfl) rfl) (DL.wa_nil) (rfl)) (rfl)) (DL.lawEqualR.mk _ _ _ _ ea eb ex hyo) (rfl) (rfl) (rfl) (rfl))) (DL.tru_bl) (by intros; first | rfl | exact DL.RepL.nil | exact DL.RepL.cons DL.Rep.non DL.RepL.nil))) (fun _ => (DL.ww_or (DL.wt_not (DL.wt_tru (DL.wb_of (DL.we_call k8 (L2.Room.mono hr (by omega)) (DL.wa_cons (DL.we_var 6 rfl (Or.inl rfl) rfl) (DL.wa_cons (DL.we_meth0 k7 (L2.Room.mono hr (by omega)) (DL.we_var 6 rfl (Or.inl rfl) rfl) (rfl) (DL.ldTurnedR.mk _ _ ea eb) (rfl)) (DL.wa_nil) (rfl)) (rfl)) (DL.lawEqualR.mk _ _ _ _ ea eb eb ea) (rfl) (rfl) (rfl) (rfl))) (DL.tru_bl) (by intros; first | rfl | exact DL.RepL.nil | exact DL.RepL.cons DL.Rep.non DL.RepL.nil))) (fun _ => (DL.ww_or1 (DL.wt_not (DL.wt_tru (DL.wb_of (DL.we_call k8 (L2.Room.mono hr (by omega)) (DL.wa_cons (DL.we_var 8 rfl (Or.inl rfl) rfl) (DL.wa_cons (DL.we_var 6 rfl (Or.inl rfl) rfl) (DL.wa_nil) (rfl)) (rfl)) (DL.lawEqualR.mk _ _ _ _ ex hyo ea eb) (rfl) (rfl) (rfl) (rfl))) (DL.tru_bl) (by intros; first | rfl | exact DL.RepL.nil | exact DL.RepL.cons DL.Rep.non DL.RepL.nil))))))))) (fun z => nomatch z) (fun _ => (DL.wss_nil (DL.Wk.refl _) (DL.wss_cons (ws_for (l := DL.cutD sc (some 6) (some 14) ++ [cellAt sc 5]) (enc := D.int) (fun _ => ⟨[], [some (.lst (sc.map D.int)), some (.lst ((twOf sc).bs.map bkL)), some (.lst ((twOf sc).fs.map D.int)), some (.lst ((twOf sc).os.map bkL)), some (.lst ((twOf sc).ss.map D.int)), some (.int (cellAt sc 5)), some (ldD CL C ⟨(twOf sc).bs, (twOf sc).fs⟩ ⟨(twOf sc).os, (twOf sc).ss⟩), some (edD C edX), some (ldD CL C edX y), none, none]⟩) (DL.wi_castL (DL.wi_list (DL.we_wn (DL.wn_cat (DL.wl_wn (DL.wn_sl (DL.wl_we (DL.we_var 0 rfl (Or.inl rfl) rfl)) (DL.wo_some (DL.wb_of (DL.we_int))) (DL.wo_some (DL.wb_of (DL.we_int))))) (DL.wl_wn (DL.wn_lst (DL.wa_cons (DL.we_var 5 rfl (Or.inl rfl) rfl) (DL.wa_nil) (rfl)) (Nat.le_of_ble_eq_true rfl))) ?_))) ?_) (DL.Wk.mk (DL.WkO.nil) (DL.WkS.keep (rfl) (DL.WkS.keep (rfl) (DL.WkS.keep (rfl) (DL.WkS.keep (rfl) (DL.WkS.keep (rfl) (DL.WkS.keep (rfl) (DL.WkS.keep (rfl) (DL.WkS.keep (rfl) (DL.WkS.keep (rfl) (DL.WkS.drop (DL.WkS.drop (DL.WkS.nil))))))))))))) ?_ (DL.wss_cons (DL.ws_asg (DL.we_make k4 (L2.Room.mono hr (by omega)) (DL.wa_cons (DL.we_call k3 (L2.Room.mono hr (by omega)) (DL.wa_cons (DL.we_var 1 rfl (Or.inl rfl) rfl) (DL.wa_cons (DL.we_var 2 rfl (Or.inl rfl) rfl) (DL.wa_cons (DL.we_bin (DL.wb_of (DL.we_var 5 rfl (Or.inl rfl) rfl)) (DL.wb_of (DL.we_int)) (DL.bin_fdiv (⟨by decide, by decide⟩))) (DL.wa_nil) (rfl)) (rfl)) (rfl)) (DL.lawEdR.mk _ _ _ ea fb f1) (rfl) (rfl) (rfl) (rfl)) (DL.wa_cons (DL.we_call k3 (L2.Room.mono hr (by omega)) (DL.wa_cons (DL.we_var 3 rfl (Or.inl rfl) rfl) (DL.wa_cons (DL.we_var 4 rfl (Or.inl rfl) rfl) (DL.wa_cons (DL.we_bin (DL.wb_of (DL.we_var 5 rfl (Or.inl rfl) rfl)) (DL.wb_of (DL.we_int)) (DL.bin_fdiv (⟨by decide, by decide⟩))) (DL.wa_nil) (rfl)) (rfl)) (rfl)) (DL.lawEdR.mk _ _ _ eb fo s1) (rfl) (rfl) (rfl) (rfl)) (DL.wa_nil) (rfl)) (rfl)) (by intros; first | rfl | exact DL.RepL.nil | exact DL.RepL.cons DL.Rep.non DL.RepL.nil) (DL.ldInR.mk _ _ ea eb) (rfl) (rfl) (rfl) (rfl)) (DL.wg_name 10 hN (rfl) (Or.inl rfl) (Or.inl rfl)) (DL.wss_cons (DL.ws_ret (DL.we_and (DL.we_call k8 (L2.Room.mono hr (by omega)) (DL.wa_cons (DL.we_var 10 rfl (Or.inl rfl) rfl) (DL.wa_cons (DL.we_var 6 rfl (Or.inl rfl) rfl) (DL.wa_nil) (rfl)) (rfl)) (DL.lawEqualR.mk _ _ _ _ ea eb ea eb) (rfl) (rfl) (rfl) (rfl)) (fun _ => (DL.we_one (DL.we_cmp (DL.wb_of (DL.we_var 6 rfl (Or.inl rfl) rfl)) (DL.wb_of (DL.we_var 10 rfl (Or.inl rfl) rfl)) (DL.cmp_eqOwnS k11 (L2.Room.mono hr (by omega)) (DL.ldEqR.ld _ _ _ _ ea eb ea eb)) (rfl))))) ?_)) (rfl) (rfl) (rfl))))))))) (rfl) (rfl) (rfl))) (rfl) (rfl) (rfl))) (rfl) (rfl) (rfl))) (rfl) (rfl) (rfl))) (rfl) (rfl) (rfl)))
  · have : (DL.cutD (sc.map D.int) (some 6) (some 14)).length ≤ (sc.map D.int).length := by
      unfold DL.cutD
      rw [List.length_take, List.length_drop]
      omega
    rw [List.length_map] at this
    exact smallE (by simp only [List.length_singleton]; omega)
  · rw [cutD_map, List.map_append]
    rfl
  · intro pre x post hl
    obtain ⟨u1, u2, u3, u4, u5, u6⟩ := hu x
    exact (Exists.intro _ (And.intro (DL.wg_name 9 hN (rfl) (Or.inl rfl) (Or.inl rfl)) (DL.wss_cons (DL.ws_if (DL.wt_not (DL.wt_tru (DL.wb_of (DL.we_call k9 (L2.Room.mono hr (by omega)) (DL.wa_cons (DL.we_var 6 rfl (Or.inl rfl) rfl) (DL.wa_cons (DL.we_call k10 hr (DL.wa_cons (DL.we_var 1 rfl (Or.inl rfl) rfl) (DL.wa_cons (DL.we_var 2 rfl (Or.inl rfl) rfl) (DL.wa_cons (DL.we_var 3 rfl (Or.inl rfl) rfl) (DL.wa_cons (DL.we_var 4 rfl (Or.inl rfl) rfl) (DL.wa_cons (DL.we_var 9 rfl (Or.inl rfl) rfl) (DL.wa_nil) (rfl)) (rfl)) (rfl)) (rfl)) (rfl)) (DL.unlikeR.mk _ _ _ _ _ u1 u2) (rfl) (rfl) (rfl) (rfl)) (DL.wa_nil) (rfl)) (rfl)) (DL.allUnlikeR.mk _ _ _ _ ea eb u3 u4 (u5) (u6)) (rfl) (rfl) (rfl) (rfl))) (DL.tru_bl) (by intros; first | rfl | exact DL.RepL.nil | exact DL.RepL.cons DL.Rep.non DL.RepL.nil))) (fun z => nomatch z) (fun _ => (DL.wss_nil (DL.Wk.refl _) (DL.wss_nil2 rfl (DL.Wk.mk (DL.WkO.nil) (DL.WkS.keep (rfl) (DL.WkS.keep (rfl) (DL.WkS.keep (rfl) (DL.WkS.keep (rfl) (DL.WkS.keep (rfl) (DL.WkS.keep (rfl) (DL.WkS.keep (rfl) (DL.WkS.keep (rfl) (DL.WkS.keep (rfl) (DL.WkS.drop (DL.WkS.drop (DL.WkS.nil))))))))))))))))))))
  · rw [h3]
    rfl
end
end DL
/-! V66zb: the head. -/
namespace DL
open PySem PySem.Spec PyProof.Rows L2
theorem hdFacts {P : Program} {w : World} {K : PySem.W.Frag} {h : Heap} {mg : Str → Option Value} {f : Addr} (X : K.In h) (G : h.Ns mainGlobals mg) (hfa : mg ("law" : Str) = some (.ref f)) (c : He.SaysD [] hdFns K) (ex : hdEx K = true) :
    noList K = true ∧ ∃ fd : FuncData, (∀ (s : Shared) (v : Value), BindsTo s fd ⟨[v], []⟩ [("script", v)]) ∧ ∀ base : Heap, K.In base → base.Ns mainGlobals mg → FnOk P w K mg base CX0 9 f fd ["script"] (spR K lawR) := by
  obtain ⟨x1, ex⟩ := He.ba ex
  obtain ⟨x2, ex⟩ := He.ba ex
  obtain ⟨x3, ex⟩ := He.ba ex
  obtain ⟨x4, ex⟩ := He.ba ex
  obtain ⟨x5, ex⟩ := He.ba ex
  obtain ⟨x6, ex⟩ := He.ba ex
  obtain ⟨x7, ex⟩ := He.ba ex
  obtain ⟨x8, ex⟩ := He.ba ex
  obtain ⟨x9, x10⟩ := He.ba ex
  obtain ⟨y1, x5⟩ := He.ba x5
  obtain ⟨y2, x5⟩ := He.ba x5
  obtain ⟨y3, y4⟩ := He.ba x5
  obtain ⟨z1, x6⟩ := He.ba x6
  obtain ⟨z2, x6⟩ := He.ba x6
  obtain ⟨z3, z4⟩ := He.ba x6
  refine ⟨x1, ?_⟩
  have GG : G66 mg := gf_of X G x2
  have eT := eqX_ok x7
  have n1 : PySem.W.kitOne K (.ref (He.ga K "Edition")) (.ref (He.ga K "Leading")) = some false := of_decide_eq_true x8
  have n2 := notTags_ok x9
  have CE : ClsF K (He.ga K "Edition") edFlds := clsF_of (He.cls_ok y1) y3 (flds_of y4)
  have CL : ClsF K (He.ga K "Leading") ldFlds := clsF_of (He.cls_ok z1) z3 (flds_of z4)
  have ME := He.mkr_ok y2
  have ML := He.mkr_ok z2
  obtain ⟨fd_isWhole, F_isWhole⟩ := c.def_ 0 (d := hdFns[0]) rfl
  have b_isWhole := FunD.bindsN (ps := ["thing", "low", "high"]) F_isWhole fun _ _ _ _ _ _ us hl => match us, hl with | [_, _, _], _ => rfl
  obtain ⟨fd_madeOf, F_madeOf⟩ := c.def_ 1 (d := hdFns[1]) rfl
  have b_madeOf := FunD.bindsN (ps := ["text", "signs"]) F_madeOf fun _ _ _ _ _ _ us hl => match us, hl with | [_, _], _ => rfl
  obtain ⟨fd_isName, F_isName⟩ := c.def_ 2 (d := hdFns[2]) rfl
  have b_isName := FunD.bindsN (ps := ["thing"]) F_isName fun _ _ _ _ _ _ us hl => match us, hl with | [_], _ => rfl
  obtain ⟨fd_isRow, F_isRow⟩ := c.def_ 3 (d := hdFns[3]) rfl
  have b_isRow := FunD.bindsN (ps := ["thing", "most"]) F_isRow fun _ _ _ _ _ _ us hl => match us, hl with | [_, _], _ => rfl
  obtain ⟨fd_checkedChapter, F_checkedChapter⟩ := c.def_ 4 (d := hdFns[4]) rfl
  have b_checkedChapter := FunD.bindsN (ps := ["chapter"]) F_checkedChapter fun _ _ _ _ _ _ us hl => match us, hl with | [_], _ => rfl
  obtain ⟨fd_checkedBook, F_checkedBook⟩ := c.def_ 5 (d := hdFns[5]) rfl
  have b_checkedBook := FunD.bindsN (ps := ["book", "names"]) F_checkedBook fun _ _ _ _ _ _ us hl => match us, hl with | [_, _], _ => rfl
  obtain ⟨fd_checkedBooks, F_checkedBooks⟩ := c.def_ 6 (d := hdFns[6]) rfl
  have b_checkedBooks := FunD.bindsN (ps := ["books"]) F_checkedBooks fun _ _ _ _ _ _ us hl => match us, hl with | [_], _ => rfl
  obtain ⟨fd_checkedPair, F_checkedPair⟩ := c.def_ 7 (d := hdFns[7]) rfl
  have b_checkedPair := FunD.bindsN (ps := ["pair", "taken"]) F_checkedPair fun _ _ _ _ _ _ us hl => match us, hl with | [_, _], _ => rfl
  obtain ⟨fd_checkedLines, F_checkedLines⟩ := c.def_ 8 (d := hdFns[8]) rfl
  have b_checkedLines := FunD.bindsN (ps := ["lines", "size"]) F_checkedLines fun _ _ _ _ _ _ us hl => match us, hl with | [_, _], _ => rfl
  obtain ⟨fd_laidOut, F_laidOut⟩ := c.def_ 9 (d := hdFns[9]) rfl
  have b_laidOut := FunD.bindsN (ps := ["books"]) F_laidOut fun _ _ _ _ _ _ us hl => match us, hl with | [_], _ => rfl
  obtain ⟨fd_stretches, F_stretches⟩ := c.def_ 10 (d := hdFns[10]) rfl
  have b_stretches := FunD.bindsN (ps := ["places"]) F_stretches fun _ _ _ _ _ _ us hl => match us, hl with | [_], _ => rfl
  obtain ⟨fd_counts, F_counts⟩ := c.def_ 11 (d := hdFns[11]) rfl
  have b_counts := FunD.bindsN (ps := ["books"]) F_counts fun _ _ _ _ _ _ us hl => match us, hl with | [_], _ => rfl
  obtain ⟨fd_edInit, F_edInit⟩ := c.def_ 12 (d := hdFns[12]) rfl
  obtain ⟨fd_edSize, F_edSize⟩ := c.def_ 13 (d := hdFns[13]) rfl
  have b_edSize := FunD.bindsN (ps := ["self"]) F_edSize fun _ _ _ _ _ _ us hl => match us, hl with | [_], _ => rfl
  obtain ⟨fd_edLines, F_edLines⟩ := c.def_ 14 (d := hdFns[14]) rfl
  have b_edLines := FunD.bindsN (ps := ["self"]) F_edLines fun _ _ _ _ _ _ us hl => match us, hl with | [_], _ => rfl
  obtain ⟨fd_edTold, F_edTold⟩ := c.def_ 15 (d := hdFns[15]) rfl
  have b_edTold := FunD.bindsN (ps := ["self"]) F_edTold fun _ _ _ _ _ _ us hl => match us, hl with | [_], _ => rfl
  obtain ⟨fd_edSame, F_edSame⟩ := c.def_ 16 (d := hdFns[16]) rfl
  have b_edSame := FunD.bindsN (ps := ["self", "thing"]) F_edSame fun _ _ _ _ _ _ us hl => match us, hl with | [_, _], _ => rfl
  obtain ⟨fd_rowsOf, F_rowsOf⟩ := c.def_ 17 (d := hdFns[17]) rfl
  have b_rowsOf := FunD.bindsN (ps := ["goes"]) F_rowsOf fun _ _ _ _ _ _ us hl => match us, hl with | [_], _ => rfl
  obtain ⟨fd_shown, F_shown⟩ := c.def_ 18 (d := hdFns[18]) rfl
  have b_shown := FunD.bindsN (ps := ["first", "many"]) F_shown fun _ _ _ _ _ _ us hl => match us, hl with | [_, _], _ => rfl
  obtain ⟨fd_ldInit, F_ldInit⟩ := c.def_ 19 (d := hdFns[19]) rfl
  have b_ldInit := FunD.bindsN (ps := ["self", "one", "other"]) F_ldInit fun _ _ _ _ _ _ us hl => match us, hl with | [_, _, _], _ => rfl
  obtain ⟨fd_ldLen, F_ldLen⟩ := c.def_ 20 (d := hdFns[20]) rfl
  have b_ldLen := FunD.bindsN (ps := ["self"]) F_ldLen fun _ _ _ _ _ _ us hl => match us, hl with | [_], _ => rfl
  obtain ⟨fd_ldEq, F_ldEq⟩ := c.def_ 21 (d := hdFns[21]) rfl
  have b_ldEq := FunD.bindsN (ps := ["self", "thing"]) F_ldEq fun _ _ _ _ _ _ us hl => match us, hl with | [_, _], _ => rfl
  obtain ⟨fd_ldStr, F_ldStr⟩ := c.def_ 22 (d := hdFns[22]) rfl
  have b_ldStr := FunD.bindsN (ps := ["self"]) F_ldStr fun _ _ _ _ _ _ us hl => match us, hl with | [_], _ => rfl
  obtain ⟨fd_ldEditions, F_ldEditions⟩ := c.def_ 23 (d := hdFns[23]) rfl
  have b_ldEditions := FunD.bindsN (ps := ["self"]) F_ldEditions fun _ _ _ _ _ _ us hl => match us, hl with | [_], _ => rfl
  obtain ⟨fd_ldRows, F_ldRows⟩ := c.def_ 24 (d := hdFns[24]) rfl
  have b_ldRows := FunD.bindsN (ps := ["self"]) F_ldRows fun _ _ _ _ _ _ us hl => match us, hl with | [_], _ => rfl
  obtain ⟨fd_ldTurned, F_ldTurned⟩ := c.def_ 25 (d := hdFns[25]) rfl
  have b_ldTurned := FunD.bindsN (ps := ["self"]) F_ldTurned fun _ _ _ _ _ _ us hl => match us, hl with | [_], _ => rfl
  obtain ⟨fd_cellAt, F_cellAt⟩ := c.def_ 26 (d := hdFns[26]) rfl
  have b_cellAt := FunD.bindsN (ps := ["script", "k"]) F_cellAt fun _ _ _ _ _ _ us hl => match us, hl with | [_, _], _ => rfl
  obtain ⟨fd_row, F_row⟩ := c.def_ 27 (d := hdFns[27]) rfl
  have b_row := FunD.bindsN (ps := ["cell", "many", "salt"]) F_row fun _ _ _ _ _ _ us hl => match us, hl with | [_, _, _], _ => rfl
  obtain ⟨fd_names, F_names⟩ := c.def_ 28 (d := hdFns[28]) rfl
  have b_names := FunD.bindsN (ps := ["row", "many"]) F_names fun _ _ _ _ _ _ us hl => match us, hl with | [_, _], _ => rfl
  obtain ⟨fd_books, F_books⟩ := c.def_ 29 (d := hdFns[29]) rfl
  have b_books := FunD.bindsN (ps := ["cell", "salt"]) F_books fun _ _ _ _ _ _ us hl => match us, hl with | [_, _], _ => rfl
  obtain ⟨fd_copy, F_copy⟩ := c.def_ 30 (d := hdFns[30]) rfl
  have b_copy := FunD.bindsN (ps := ["books"]) F_copy fun _ _ _ _ _ _ us hl => match us, hl with | [_], _ => rfl
  obtain ⟨fd_spots, F_spots⟩ := c.def_ 31 (d := hdFns[31]) rfl
  have b_spots := FunD.bindsN (ps := ["books"]) F_spots fun _ _ _ _ _ _ us hl => match us, hl with | [_], _ => rfl
  obtain ⟨fd_threads, F_threads⟩ := c.def_ 32 (d := hdFns[32]) rfl
  have b_threads := FunD.bindsN (ps := ["row", "size", "span", "low", "way"]) F_threads fun _ _ _ _ _ _ us hl => match us, hl with | [_, _, _, _, _], _ => rfl
  obtain ⟨fd_lawEd, F_lawEd⟩ := c.def_ 33 (d := hdFns[33]) rfl
  have b_lawEd := FunD.bindsN (ps := ["books", "threads", "way"]) F_lawEd fun _ _ _ _ _ _ us hl => match us, hl with | [_, _, _], _ => rfl
  obtain ⟨fd_two, F_two⟩ := c.def_ 34 (d := hdFns[34]) rfl
  have b_two := FunD.bindsN (ps := ["script"]) F_two fun _ _ _ _ _ _ us hl => match us, hl with | [_], _ => rfl
  obtain ⟨fd_divs, F_divs⟩ := c.def_ 35 (d := hdFns[35]) rfl
  have b_divs := FunD.bindsN (ps := ["books"]) F_divs fun _ _ _ _ _ _ us hl => match us, hl with | [_], _ => rfl
  obtain ⟨fd_divided, F_divided⟩ := c.def_ 36 (d := hdFns[36]) rfl
  have b_divided := FunD.bindsN (ps := ["books", "cell"]) F_divided fun _ _ _ _ _ _ us hl => match us, hl with | [_, _], _ => rfl
  obtain ⟨fd_unlike, F_unlike⟩ := c.def_ 37 (d := hdFns[37]) rfl
  have b_unlike := FunD.bindsN (ps := ["books", "first", "others", "second", "cell"]) F_unlike fun _ _ _ _ _ _ us hl => match us, hl with | [_, _, _, _, _], _ => rfl
  obtain ⟨fd_allUnlike, F_allUnlike⟩ := c.def_ 38 (d := hdFns[38]) rfl
  have b_allUnlike := FunD.bindsN (ps := ["one", "unlike"]) F_allUnlike fun _ _ _ _ _ _ us hl => match us, hl with | [_, _], _ => rfl
  obtain ⟨fd_lawEqual, F_lawEqual⟩ := c.def_ 39 (d := hdFns[39]) rfl
  have b_lawEqual := FunD.bindsN (ps := ["one", "other"]) F_lawEqual fun _ _ _ _ _ _ us hl => match us, hl with | [_, _], _ => rfl
  obtain ⟨fd_law, F_law⟩ := c.def_ 40 (d := hdFns[40]) rfl
  have b_law := FunD.bindsN (ps := ["script"]) F_law fun _ _ _ _ _ _ us hl => match us, hl with | [_], _ => rfl
  have g_is_whole := He.glo_ok X G (all_get x3 0 (x := "is_whole"))
  have g_made_of := He.glo_ok X G (all_get x3 1 (x := "made_of"))
  have g_is_name := He.glo_ok X G (all_get x3 2 (x := "is_name"))
  have g_is_row_editions := He.glo_ok X G (all_get x3 3 (x := "is_row_editions"))
  have g_checked_chapter := He.glo_ok X G (all_get x3 4 (x := "checked_chapter"))
  have g_checked_book := He.glo_ok X G (all_get x3 5 (x := "checked_book"))
  have g_checked_books := He.glo_ok X G (all_get x3 6 (x := "checked_books"))
  have g_checked_pair := He.glo_ok X G (all_get x3 7 (x := "checked_pair"))
  have g_checked_lines := He.glo_ok X G (all_get x3 8 (x := "checked_lines"))
  have g_laid_out := He.glo_ok X G (all_get x3 9 (x := "laid_out"))
  have g_stretches_of := He.glo_ok X G (all_get x3 10 (x := "stretches_of"))
  have g_counts_of := He.glo_ok X G (all_get x3 11 (x := "counts_of"))
  have g_rows_of := He.glo_ok X G (all_get x3 12 (x := "rows_of"))
  have g_shown_stretch := He.glo_ok X G (all_get x3 13 (x := "shown_stretch"))
  have g__law_cell_at := He.glo_ok X G (all_get x3 14 (x := "_law_cell_at"))
  have g__law_row := He.glo_ok X G (all_get x3 15 (x := "_law_row"))
  have g__law_names := He.glo_ok X G (all_get x3 16 (x := "_law_names"))
  have g__law_books := He.glo_ok X G (all_get x3 17 (x := "_law_books"))
  have g__law_copy := He.glo_ok X G (all_get x3 18 (x := "_law_copy"))
  have g__law_spots := He.glo_ok X G (all_get x3 19 (x := "_law_spots"))
  have g__law_threads := He.glo_ok X G (all_get x3 20 (x := "_law_threads"))
  have g__law_edition := He.glo_ok X G (all_get x3 21 (x := "_law_edition"))
  have g__law_two := He.glo_ok X G (all_get x3 22 (x := "_law_two"))
  have g__law_divisions := He.glo_ok X G (all_get x3 23 (x := "_law_divisions"))
  have g__law_divided := He.glo_ok X G (all_get x3 24 (x := "_law_divided"))
  have g__law_unlike := He.glo_ok X G (all_get x3 25 (x := "_law_unlike"))
  have g__law_all_unlike := He.glo_ok X G (all_get x3 26 (x := "_law_all_unlike"))
  have g__law_equal := He.glo_ok X G (all_get x3 27 (x := "_law_equal"))
  have g_law := He.glo_ok X G (all_get x3 28 (x := "law"))
  have g_Edition := He.glo_ok X G (all_get x3 29 (x := "Edition"))
  have g_Leading := He.glo_ok X G (all_get x3 30 (x := "Leading"))
  have m_Edition_size := He.meth_ok (all_get x4 0 (x := ("Edition", "size")))
  have m_Edition_lines := He.meth_ok (all_get x4 1 (x := ("Edition", "lines")))
  have m_Edition_told := He.meth_ok (all_get x4 2 (x := ("Edition", "told")))
  have m_Edition_same := He.meth_ok (all_get x4 3 (x := ("Edition", "same")))
  have m_Leading___len__ := He.meth_ok (all_get x4 4 (x := ("Leading", "__len__")))
  have m_Leading___eq__ := He.meth_ok (all_get x4 5 (x := ("Leading", "__eq__")))
  have m_Leading___str__ := He.meth_ok (all_get x4 6 (x := ("Leading", "__str__")))
  have m_Leading_editions := He.meth_ok (all_get x4 7 (x := ("Leading", "editions")))
  have m_Leading_rows := He.meth_ok (all_get x4 8 (x := ("Leading", "rows")))
  have m_Leading_turned := He.meth_ok (all_get x4 9 (x := ("Leading", "turned")))
  obtain ⟨dws, hdv, b_edInit⟩ := FunD.binds1 (ps := ["self", "books", "lines"]) F_edInit 2 0 (by simp [He.DefD.dvs, hdFns]) rfl fun _ _ _ _ _ _ _ us its hl hl2 => match us, hl, its, hl2 with | [_, _], _, [_], _ => ⟨_, rfl, rfl⟩
  have bk_edInit := kbinds1 (ps := ["self", "books", "lines"]) F_edInit 2 ["lines"] (by simp [He.DefD.dvs, hdFns]) fun _ _ _ _ _ _ _ us its ws hl hl2 hl3 => match us, hl, its, hl2, ws, hl3 with | [_, _], _, [_], _, [_], _ => ⟨_, rfl, rfl⟩
  have bA := FunD.bindsA (ps := ["script"]) F_law fun _ _ _ _ _ _ us hl => match us, hl with | [_], _ => rfl
  have el := hfa.symm.trans g_law
  injection el with el
  injection el with el
  subst el
  refine ⟨fd_law, fun s v => bA s [v] rfl, fun base _ _ => ?_⟩
  have K_isWhole : Kn P w K mg base "is_whole" 1 [] (spR K isWholeR) := kn_of F_isWhole g_is_whole b_isWhole (ok_isWhole GG F_isWhole)
  have K_madeOf : Kn P w K mg base "made_of" 1 [] (spR K madeOfR) := kn_of F_madeOf g_made_of b_madeOf (ok_madeOf GG F_madeOf)
  have K_isName : Kn P w K mg base "is_name" 2 [] (spR K isNameR) := kn_of F_isName g_is_name b_isName (ok_isName GG F_isName K_madeOf)
  have K_isRow : Kn P w K mg base "is_row_editions" 1 [] (spR K isRowR) := kn_of F_isRow g_is_row_editions b_isRow (ok_isRow GG F_isRow)
  have K_checkedChapter : Kn P w K mg base "checked_chapter" 2 [] (spR K checkedChapterR) := kn_of F_checkedChapter g_checked_chapter b_checkedChapter (ok_checkedChapter GG F_checkedChapter K_isRow K_isWhole)
  have K_checkedBook : Kn P w K mg base "checked_book" 3 [] (spR K checkedBookR) := kn_of F_checkedBook g_checked_book b_checkedBook (ok_checkedBook GG F_checkedBook K_isRow K_isName K_checkedChapter)
  have K_checkedBooks : Kn P w K mg base "checked_books" 4 [] (spR K checkedBooksR) := kn_of F_checkedBooks g_checked_books b_checkedBooks (ok_checkedBooks GG F_checkedBooks K_isRow K_checkedBook)
  have K_checkedPair : Kn P w K mg base "checked_pair" 2 [] (spN K checkedPairR) := kn_of F_checkedPair g_checked_pair b_checkedPair (ok_checkedPair GG F_checkedPair K_isWhole)
  have K_checkedLines : Kn P w K mg base "checked_lines" 3 [] (spR K checkedLinesR) := kn_of F_checkedLines g_checked_lines b_checkedLines (ok_checkedLines GG F_checkedLines K_checkedPair)
  have K_laidOut : Kn P w K mg base "laid_out" 1 [] (spR K laidOutR) := kn_of F_laidOut g_laid_out b_laidOut (ok_laidOut GG F_laidOut)
  have K_stretches : Kn P w K mg base "stretches_of" 1 [] (spR K stretchesR) := kn_of F_stretches g_stretches_of b_stretches (ok_stretches GG F_stretches)
  have K_counts : Kn P w K mg base "counts_of" 1 [] (spR K countsR) := kn_of F_counts g_counts_of b_counts (ok_counts GG F_counts)
  have o_edInit : FnOk P w K mg base CX0 5 _ fd_edInit ["self", "books", "lines"] (spI K (He.ga K "Edition") (edInR (He.ga K "Edition"))) := ok_edInit GG CE F_edInit K_checkedBooks K_laidOut K_checkedLines K_stretches K_counts
  have C_ed : KnC P w K mg base "Edition" (He.ga K "Edition") 5 [.non] (spI K (He.ga K "Edition") (edInR (He.ga K "Edition"))) := knC_of g_Edition ME b_edInit hdv o_edInit
  have KK_ed : KnK P w K mg base "Edition" (He.ga K "Edition") 5 1 ["lines"] (spI K (He.ga K "Edition") (edInR (He.ga K "Edition"))) := knK_of g_Edition ME bk_edInit o_edInit
  have M_edSize : KnM P w K mg base (He.ga K "Edition") "size" 1 [] (spR K (edSizeR (He.ga K "Edition"))) := knM_of CE.cl m_Edition_size b_edSize (ok_edSize GG CE F_edSize)
  have M_edLines : KnM P w K mg base (He.ga K "Edition") "lines" 1 [] (spR K (edLinesR (He.ga K "Edition"))) := knM_of CE.cl m_Edition_lines b_edLines (ok_edLines GG CE F_edLines)
  have M_edTold : KnM P w K mg base (He.ga K "Edition") "told" 1 [] (spR K (edToldR (He.ga K "Edition"))) := knM_of CE.cl m_Edition_told b_edTold (ok_edTold GG CE F_edTold)
  have M_edSame : KnM P w K mg base (He.ga K "Edition") "same" 2 [] (spR K (edSameR (He.ga K "Edition"))) := knM_of CE.cl m_Edition_same b_edSame (ok_edSame GG CE g_Edition F_edSame M_edTold)
  have K_rowsOf : Kn P w K mg base "rows_of" 1 [] (spR K rowsOfR) := kn_of F_rowsOf g_rows_of b_rowsOf (ok_rowsOf GG F_rowsOf)
  have K_shown : Kn P w K mg base "shown_stretch" 1 [] (spR K shownR) := kn_of F_shown g_shown_stretch b_shown (ok_shown GG F_shown)
  have o_ldInit : FnOk P w K mg base CX0 2 _ fd_ldInit ["self", "one", "other"] (spI K (He.ga K "Leading") (ldInR (He.ga K "Leading") (He.ga K "Edition"))) := ok_ldInit GG CE CL g_Edition F_ldInit M_edLines M_edSize
  have C_ld : KnC P w K mg base "Leading" (He.ga K "Leading") 2 [] (spI K (He.ga K "Leading") (ldInR (He.ga K "Leading") (He.ga K "Edition"))) := knC_of g_Leading ML b_ldInit .nil o_ldInit
  have M_ldLen : KnM P w K mg base (He.ga K "Leading") "__len__" 2 [] (spR K (ldLenR (He.ga K "Leading") (He.ga K "Edition"))) := knM_of CL.cl m_Leading___len__ b_ldLen (ok_ldLen GG CE CL g_Leading F_ldLen K_rowsOf)
  have M_ldEditions : KnM P w K mg base (He.ga K "Leading") "editions" 1 [] (spR K (ldEditionsR (He.ga K "Leading") (He.ga K "Edition"))) := knM_of CL.cl m_Leading_editions b_ldEditions (ok_ldEditions GG CE CL g_Leading F_ldEditions)
  have M_ldRows : KnM P w K mg base (He.ga K "Leading") "rows" 2 [] (spR K (ldRowsR (He.ga K "Leading") (He.ga K "Edition"))) := knM_of CL.cl m_Leading_rows b_ldRows (ok_ldRows GG CE CL g_Leading F_ldRows K_rowsOf)
  have M_ldTurned : KnM P w K mg base (He.ga K "Leading") "turned" 4 [] (spR K (ldTurnedR (He.ga K "Leading") (He.ga K "Edition"))) := knM_of CL.cl m_Leading_turned b_ldTurned (ok_ldTurned GG CE CL g_Leading F_ldTurned C_ld)
  have M_ldEq : KnM P w K mg base (He.ga K "Leading") "__eq__" 3 [] (spR K (ldEqR (He.ga K "Leading") (He.ga K "Edition"))) := knM_of CL.cl m_Leading___eq__ b_ldEq (ok_ldEq GG CE CL g_Leading F_ldEq M_edSame n1 n2)
  have M_ldStr : KnM P w K mg base (He.ga K "Leading") "__str__" 2 [] (spR K (ldStrR (He.ga K "Leading") (He.ga K "Edition"))) := knM_of CL.cl m_Leading___str__ b_ldStr (ok_ldStr GG CE CL g_Leading F_ldStr K_rowsOf K_shown)
  have K_cellAt : Kn P w K mg base "_law_cell_at" 1 [] (spR K cellAtR) := kn_of F_cellAt g__law_cell_at b_cellAt (ok_cellAt GG F_cellAt)
  have K_row : Kn P w K mg base "_law_row" 1 [] (spR K rowR) := kn_of F_row g__law_row b_row (ok_row GG F_row)
  have K_names : Kn P w K mg base "_law_names" 1 [] (spR K namesR) := kn_of F_names g__law_names b_names (ok_names GG F_names)
  have K_books : Kn P w K mg base "_law_books" 2 [] (spR K booksR) := kn_of F_books g__law_books b_books (ok_books GG F_books K_row K_names)
  have K_copy : Kn P w K mg base "_law_copy" 1 [] (spR K copyR) := kn_of F_copy g__law_copy b_copy (ok_copy GG F_copy)
  have KT_copy : Kn P w K mg base "_law_copy" 1 [] (spT K copyR) := kn_of F_copy g__law_copy b_copy (ok_copyT GG F_copy)
  have K_spots : Kn P w K mg base "_law_spots" 1 [] (spR K spotsR) := kn_of F_spots g__law_spots b_spots (ok_spots GG F_spots)
  have K_threads : Kn P w K mg base "_law_threads" 1 [] (spR K threadsR) := kn_of F_threads g__law_threads b_threads (ok_threads GG F_threads)
  have K_lawEd : Kn P w K mg base "_law_edition" 7 [] (spR K (lawEdR (He.ga K "Edition"))) := kn_of F_lawEd g__law_edition b_lawEd (ok_lawEd GG F_lawEd C_ed KK_ed K_copy)
  have K_two : Kn P w K mg base "_law_two" 3 [] (spR K twoR) := kn_of F_two g__law_two b_two (ok_two GG F_two K_cellAt K_books K_spots K_row K_threads)
  have K_divs : Kn P w K mg base "_law_divisions" 1 [] (spR K divsR) := kn_of F_divs g__law_divisions b_divs (ok_divs GG F_divs)
  have K_divided : Kn P w K mg base "_law_divided" 2 [] (spR K dividedR) := kn_of F_divided g__law_divided b_divided (ok_divided GG F_divided K_divs KT_copy)
  have K_unlike : Kn P w K mg base "_law_unlike" 8 [] (spR K (unlikeR (He.ga K "Leading") (He.ga K "Edition"))) := kn_of F_unlike g__law_unlike b_unlike (ok_unlike GG F_unlike KT_copy K_divided K_lawEd C_ld M_ldTurned)
  have K_allUnlike : Kn P w K mg base "_law_all_unlike" 5 [] (spR K (allUnlikeR (He.ga K "Leading") (He.ga K "Edition"))) := kn_of F_allUnlike g__law_all_unlike b_allUnlike (ok_allUnlike GG F_allUnlike M_ldEq M_ldTurned eT)
  have K_lawEqual : Kn P w K mg base "_law_equal" 6 [] (spR K (lawEqualR (He.ga K "Leading") (He.ga K "Edition"))) := kn_of F_lawEqual g__law_equal b_lawEqual (ok_lawEqual GG F_lawEqual M_ldEq M_ldTurned M_ldEditions M_edSame M_ldRows M_ldStr M_ldLen C_ld eT x10)
  exact ok_law GG F_law K_two K_cellAt K_lawEd C_ld KK_ed M_ldEditions M_ldTurned K_lawEqual K_allUnlike K_unlike M_ldEq
end DL
open PySem PySem.W PySem.Calls PyProof.Rows
theorem PySem.Challenge.cw_bookplaces_k66_leadings_equal_holds : PySem.Challenge.rw_bookplaces_k66_leadings_equal.Holds := by
  w_on; o_law
  refine HandSHeadRun.head_any (r := OpenLaw.row PySem.Challenge.rw_bookplaces_k66_leadings_equal) (q := view (OpenLaw.row PySem.Challenge.rw_bookplaces_k66_leadings_equal).prog [74]) (H := DL.hdK) (ob := DL.hdOb) (M := 20000) (loose := DL.hdLoose) (d := HandSHeadRun.topDef (OpenLaw.row PySem.Challenge.rw_bookplaces_k66_leadings_equal).prog 74) (kwd := []) DL.hdOb_eq
    (by kernel_rfl) (fun s => by kernel_rfl) DL.hdRun (by kernel_rfl) (by kernel_rfl) (by kernel_rfl) (by rfl) (by first | assumption | decide +kernel) (by decide +kernel) ⟨rfl, rfl, rfl, rfl, rfl, by decide +kernel⟩ ?hw ?hc
  case hw => w_witness2
  case hc =>
    refine L2.walk_ofE (l := PySem.Challenge.rw_bookplaces_k66_leadings_equal) (n := 63) (k := 9) (x := "script") (CX := L2.CX0) rfl (by decide) (by kernel_rfl) ⟨rfl, by decide, by decide⟩ ?F (fun _ _ _ _ z => z)
    intro w mg fa h Y G hmg0
    obtain ⟨K, KX, c, ex⟩ := Y
    have hmg : mg ("law" : PySem.Str) = some (.ref fa) := by
      have e : (HandSHeadRun.topDef (OpenLaw.row PySem.Challenge.rw_bookplaces_k66_leadings_equal).prog 74).name = ("law" : PySem.Str) := by kernel_rfl
      rw [← e]
      exact hmg0
    obtain ⟨nl, fd, hb, hF⟩ := DL.hdFacts (P := (PySem.Challenge.rw_bookplaces_k66_leadings_equal).prog) (w := w) KX G hmg c ex
    exact ⟨K, fd, DL.spR K DL.lawR, KX, hb, fun H a ns hl _ hS => DL.law_sp nl hS (.mk ns (Nat.le_trans hl (by decide))), hF⟩
