import PyProof.Rows.All
import Wide.All
import OpenK.AllK
import Wide.FinOn
import HandS.ForMost
import HandS.Deep
import HandS.IsInst
import HandS.Defaults
import HandS.HeadHook1
import HandS.HeadHook2
import KE.KDictKeyed
import KE.KeyNested
import HandS.TupAny
import HandS.Wide
import HandS.Style
import HandS.Text
import KE.KDictWalk
import HandS.Iter
import HandS.Words
import HandS.Property
import KE.DataFind
import HandS.SortKw
import KE.SortKeyHeap
import KE.KDictSum
import PySem.Challenge.RW_rootward_k89_whole_torn_chains_and_zones
import HandS.More
import HandS.DictComp
import HandS.Head0
import HandS.Head1
import HandS.Head2
import HandS.HeadEnd
set_option Elab.async false
set_option linter.all false
set_option maxRecDepth 100000
set_option maxHeartbeats 0
namespace Rw
open PySem PySem.Spec PyProof.Rows L2
def topS (i : Nat) : Stmt := PySem.Challenge.pw_rootward_k89_whole_torn_chains_and_zones.main.body.getD i (.Pass ⟨0, 0, 0, 0⟩)
def inClass (s : Stmt) (i : Nat) : Stmt := match s with
  | .ClassDef _ _ _ b _ _ _ _ _ _ _ => b.getD i (.Pass ⟨0, 0, 0, 0⟩)
  | _ => .Pass ⟨0, 0, 0, 0⟩
def dfn (i : Nat) (x : Str) : He.DefD := ⟨(x, none), x, x, defArgs (topS i), defBody (topS i), defScope (topS i), [], []⟩
def dme (j : Nat) (x q : Str) : He.DefD := ⟨("Zone", some x), x, q, defArgs (inClass (topS 99) j), defBody (inClass (topS 99) j), defScope (inClass (topS 99) j), [], []⟩
def fn0 : List He.DefD := [dfn 17 "is_label", dfn 18 "is_name", dfn 19 "is_asked", dfn 22 "name_key", dfn 23 "stands_under", dfn 25 "size_of", dfn 33 "is_kind", dfn 34 "is_below", dfn 35 "is_plain_text", dfn 36 "fits_kind", dfn 37 "is_record", dfn 38 "data_key", dfn 39 "record_key", dfn 40 "need_records", dfn 41 "ordered_records", dfn 42 "need_like_ages", dfn 43 "checked_records", dfn 44 "grouped", dfn 48 "is_integer", dfn 49 "is_count", dfn 50 "is_node", dfn 51 "is_policy", dfn 52 "need_moment", dfn 53 "need_asked", dfn 54 "need_kind", dfn 55 "need_policy", dfn 57 "span_of", dfn 59 "has_moments", dfn 60 "need_timeline", dfn 61 "force_index", dfn 62 "last_force", dfn 63 "got_moments", dfn 64 "told_values", dfn 65 "may_tell", dfn 67 "is_part", dfn 68 "is_thread", dfn 69 "need_story", dfn 70 "need_story_name", dfn 71 "part_key", dfn 72 "name_behind"]
def fn1 : List He.DefD := [dfn 73 "values_for", dfn 74 "told_lists", dfn 75 "were_together", dfn 76 "starts", dfn 77 "torn_lists", dfn 78 "may_tell_whole", dfn 79 "torn", dfn 80 "first_torn", dfn 84 "need_inside", dfn 85 "found_source", dfn 87 "source_answer", dfn 88 "found_answer", dfn 89 "next_name", dfn 90 "stop_word", dfn 91 "walked", dfn 92 "chase", dfn 93 "chase_end", dfn 95 "kinds_by_name", dfn 96 "ones_above", dfn 97 "faults_at", dfn 98 "found_faults", dfn 101 "_law_pot", dfn 102 "_law_draw", dfn 103 "_law_label", dfn 104 "_law_policy", dfn 106 "_law_names", dfn 107 "_law_story", dfn 108 "_law_force", dfn 109 "_law_starts", dfn 110 "_law_zone", dfn 111 "_law_walk", dfn 112 "_law_told_ends", dfn 113 "_law_parts", dfn 114 "_law_at", dfn 115 "_law_fresh", dfn 116 "_law_longer", dfn 117 "_law_turn", dfn 118 "law", dme 0 "__init__" "Zone.__init__", dme 1 "_keep_name" "Zone._keep_name"]
def fn2 : List He.DefD := [dme 17 "kept_set" "Zone.kept_set", dme 18 "kept_nearest" "Zone.kept_nearest", dme 20 "handed_on" "Zone.handed_on"]
def fn : List He.DefD := fn0 ++ (fn1 ++ (fn2))
def fa0 : List He.Fa := [.glo "is_label", .glo "is_name", .glo "is_asked", .glo "name_key", .glo "stands_under", .glo "size_of", .glo "is_kind", .glo "is_below", .glo "is_plain_text", .glo "fits_kind", .glo "is_record", .glo "data_key", .glo "record_key", .glo "need_records", .glo "ordered_records", .glo "need_like_ages", .glo "checked_records", .glo "grouped", .glo "is_integer", .glo "is_count", .glo "is_node", .glo "is_policy", .glo "need_moment", .glo "need_asked", .glo "need_kind", .glo "need_policy", .glo "span_of", .glo "has_moments", .glo "need_timeline", .glo "force_index", .glo "last_force", .glo "got_moments", .glo "told_values", .glo "may_tell", .glo "is_part", .glo "is_thread", .glo "need_story", .glo "need_story_name", .glo "part_key", .glo "name_behind"]
def fa1 : List He.Fa := [.glo "values_for", .glo "told_lists", .glo "were_together", .glo "starts", .glo "torn_lists", .glo "may_tell_whole", .glo "torn", .glo "first_torn", .glo "need_inside", .glo "found_source", .glo "source_answer", .glo "found_answer", .glo "next_name", .glo "stop_word", .glo "walked", .glo "chase", .glo "chase_end", .glo "kinds_by_name", .glo "ones_above", .glo "faults_at", .glo "found_faults", .glo "_law_pot", .glo "_law_draw", .glo "_law_label", .glo "_law_policy", .glo "_law_names", .glo "_law_story", .glo "_law_force", .glo "_law_starts", .glo "_law_zone", .glo "_law_walk", .glo "_law_told_ends", .glo "_law_parts", .glo "_law_at", .glo "_law_fresh", .glo "_law_longer", .glo "_law_turn", .glo "law", .glo "Zone", .free "len"]
def fa2 : List He.Fa := [.free "range", .free "all", .free "any", .free "sum", .free "abs", .free "max", .free "min", .free "int", .free "str", .free "bool", .free "tuple", .free "list", .free "dict", .free "sorted", .free "isinstance", .int "LONGEST" 20, .int "AGES" 2147483648, .int "NUMBERS" 4294967296, .int "LONGEST_TEXT" 60, .int "LARGEST" 255, .int "MOST_NAMES" 100, .str "SIGNS" "-0123456789abcdefghijklmnopqrstuvwxyz", .str "LETTERS" "abcdefghijklmnopqrstuvwxyz", .glo "KINDS", .glo "NAMED", .cls "Zone", .mkr "Zone", .noat "Zone" "_apex", .noat "Zone" "_kept", .noat "Zone" "_sets", .noat "Zone" "_cuts", .noat "Zone" "_trees", .noat "Zone" "_there", .noat "Zone" "_serial", .noat "Zone" "_absent", .meth "Zone" "_keep_name", .meth "Zone" "kept_set", .meth "Zone" "kept_nearest", .meth "Zone" "handed_on"]
def fa : List He.Fa := fa0 ++ (fa1 ++ (fa2))
/-- the objects that the facts speak of: what the module's names name, their codes; the class's names, their codes -/
def stepA (g : Addr → Option Obj) (as : List Addr) : List Addr := as.flatMap fun a => match g a with
  | some o => He.refsO o
  | none => []
def asR (g : Addr → Option Obj) : List Addr :=
  let a1 := stepA g [mainGlobals]
  let a2 := stepA g a1
  let a3 := stepA g a2
  let a4 := stepA g a3
  let a5 := stepA g a4
  mainGlobals :: (a1 ++ (a2 ++ (a3 ++ (a4 ++ a5))))
def apexP (K : PySem.W.Frag) : Addr := He.ma K (He.ga K "Zone") "apex"
def apexG (K : PySem.W.Frag) : Addr := match PySem.W.recIn K (apexP K) "property" with
  | some (.ref g :: _) => g
  | _ => 0
def apexD : He.DefD := ⟨("Zone", some "apex"), "apex", "Zone.apex", defArgs (inClass (topS 99) 4), defBody (inClass (topS 99) 4), defScope (inClass (topS 99) 4), [], []⟩
def okAt (K : PySem.W.Frag) (a : Addr) (d : He.DefD) : Bool := PySem.W.keepIn K (.ref a) && (match K.lookup a with
  | some ⟨_, _, .func fd, _⟩ => PySem.W.codeIn K fd.code d.qual && He.dflB K fd.defaults []
  | _ => false)
def recB (K : PySem.W.Frag) : Bool := match PySem.W.recIn K (apexP K) "property" with
  | some (.ref g :: _) => decide (g = apexG K)
  | _ => false
def propB (K : PySem.W.Frag) : Bool := He.eqO (PySem.W.findIn K (.ref (He.ga K "Zone")) "apex") (some (some (.ref (apexP K)))) && (He.eqO (PySem.W.specialIn K (.ref (apexP K)) "__get__") (some (some (.builtin "property.__get__"))) && (decide (PySem.W.takesIn K (.ref (apexP K)) = some true) && (recB K && okAt K (apexG K) apexD)))
def apexW (K : PySem.W.Frag) : He.FnW := match K.lookup (apexG K) with
  | some ⟨_, _, .func fd, _⟩ => some (fd.name, fd.qualname, fd.params, fd.body, fd.scope, fd.globals, fd.closure, fd.builtins)
  | _ => none
def kindsV : List He.Dv := [.str "addr", .str "alias", .str "back", .str "mail", .str "server", .str "start", .str "text", .str "tree"]
def namedV : List He.Dv := [.str "alias", .str "back", .str "server", .str "tree"]
def moreB (K : PySem.W.Frag) : Bool := He.tupB K "KINDS" kindsV && (He.tupB K "NAMED" namedV && propB K)
abbrev AlR : Type := He.AlD × Bool × He.FnW
def obsR (K : PySem.W.Frag) : AlR := (He.obsD fa fn K, moreB K, apexW K)
def valR : AlR := (He.valD fn, true, apexD.val)
def obR (g : Addr → Option Obj) : AlR := obsR (He.frG g (asR g))
def hk : PySem.W.Hook where
  α := AlR
  obs := fun s => obR s.heap.get?
  val := fun _ => valR
  says := fun _ h => ∃ K : PySem.W.Frag, K.In h ∧ obsR K = valR
  of := fun _ _ e => ⟨_, He.frG_in, e⟩
  keeps := fun _ _ _ ⟨K, hK, c⟩ k => ⟨K, PySem.W.Frag.In.keeps hK k, c⟩
def ob (s : PySem.W.SharedT) : AlR := obR (HandSHeadRun.getT s)
theorem ob_eq (s : PySem.W.SharedT) : ob s = hk.obs s.abs := by
  have e : HandSHeadRun.getT s = s.abs.heap.get? := funext (HandSHeadRun.getT_eq s)
  show obR (HandSHeadRun.getT s) = obR s.abs.heap.get?
  rw [e]
abbrev R : PySem.W.OpenRow := PySem.W.OpenLaw.row PySem.Challenge.rw_rootward_k89_whole_torn_chains_and_zones
abbrev qv : Program := PySem.W.view R.prog [118]
def loose0 : List Str := [("_wall" : Str), ("TreeError" : Str), ("InvalidName" : Str), ("InvalidKind" : Str), ("InvalidRecord" : Str), ("UnlikeAges" : Str), ("OutOfZone" : Str), ("InvalidZone" : Str), ("Unfit" : Str), ("InvalidTimeline" : Str), ("InvalidPolicy" : Str), ("InvalidMoment" : Str), ("SIGNS" : Str), ("LONGEST" : Str), ("rebuilt" : Str), ("is_label" : Str), ("is_name" : Str), ("is_asked" : Str), ("need_name" : Str), ("need_names" : Str), ("name_key" : Str), ("stands_under" : Str), ("ordered" : Str), ("size_of" : Str), ("KINDS" : Str), ("NAMED" : Str), ("AGES" : Str), ("NUMBERS" : Str), ("RANKS" : Str), ("LONGEST_TEXT" : Str), ("is_kind" : Str), ("is_below" : Str), ("is_plain_text" : Str), ("fits_kind" : Str), ("is_record" : Str)]
def loose1 : List Str := [("data_key" : Str), ("record_key" : Str), ("need_records" : Str), ("ordered_records" : Str), ("need_like_ages" : Str), ("checked_records" : Str), ("grouped" : Str), ("LETTERS" : Str), ("anew" : Str), ("is_integer" : Str), ("is_count" : Str), ("is_node" : Str), ("is_policy" : Str), ("need_moment" : Str), ("need_asked" : Str), ("need_kind" : Str), ("need_policy" : Str), ("span_of" : Str), ("has_moments" : Str), ("need_timeline" : Str), ("force_index" : Str), ("last_force" : Str), ("got_moments" : Str), ("told_values" : Str), ("may_tell" : Str), ("is_part" : Str), ("is_thread" : Str), ("need_story" : Str), ("need_story_name" : Str), ("part_key" : Str), ("name_behind" : Str), ("values_for" : Str), ("told_lists" : Str), ("were_together" : Str), ("starts" : Str)]
def loose2 : List Str := [("torn_lists" : Str), ("may_tell_whole" : Str), ("torn" : Str), ("first_torn" : Str), ("LARGEST" : Str), ("MOST_NAMES" : Str), ("need_inside" : Str), ("found_source" : Str), ("cut_answer" : Str), ("source_answer" : Str), ("found_answer" : Str), ("next_name" : Str), ("stop_word" : Str), ("walked" : Str), ("chase" : Str), ("chase_end" : Str), ("kinds_by_name" : Str), ("ones_above" : Str), ("faults_at" : Str), ("found_faults" : Str), ("Zone" : Str), ("_law_pot" : Str), ("_law_draw" : Str), ("_law_label" : Str), ("_law_policy" : Str), ("_law_span" : Str), ("_law_names" : Str), ("_law_story" : Str), ("_law_force" : Str), ("_law_starts" : Str), ("_law_zone" : Str), ("_law_walk" : Str), ("_law_told_ends" : Str), ("_law_parts" : Str), ("_law_at" : Str)]
def loose3 : List Str := [("_law_fresh" : Str), ("_law_longer" : Str), ("_law_turn" : Str)]
def loose : List Str := loose0 ++ (loose1 ++ (loose2 ++ (loose3)))
noncomputable def endS (w : World) (os : OsState) : Option PySem.W.SharedT := HandSHeadRun.endF (HandSHeadRun.stepQ (HandSHeadRun.denQ HandSHeadRun.tabQ) R.prog w) 7000 R.prog w os
end Rw
namespace Rw
open PySem PySem.Spec PyProof.Rows L2
theorem run1 (w : World) (os : OsState) : (HandSHeadRun.endF (HandSHeadRun.stepQ (HandSHeadRun.denQ HandSHeadRun.tabQ) R.prog w) 7000 R.prog w os).map (fun s => HandSHeadRun.looksF R.prog (PySem.W.boot_heap w.params) s.abs) = some true := by
  kernel_rfl
end Rw
namespace Rw
open PySem PySem.Spec PyProof.Rows L2
theorem run2 (w : World) (os : OsState) : (HandSHeadRun.endF (HandSHeadRun.stepQ (HandSHeadRun.denQ HandSHeadRun.tabQ) R.prog w) 7000 R.prog w os).map (fun s => HandSHeadRun.seenQ qv loose (PySem.importedModules R.prog.main.body) (fun s => PySem.W.xlAt qv [] s && PySem.W.recOk R.toRowW.records s) s.abs) = some (PySem.W.openGood qv loose) := by
  kernel_rfl
end Rw
namespace Rw
open PySem PySem.Spec PyProof.Rows L2
theorem run3 (w : World) (os : OsState) : (HandSHeadRun.endF (HandSHeadRun.stepQ (HandSHeadRun.denQ HandSHeadRun.tabQ) R.prog w) 7000 R.prog w os).map ob = some valR := by
  kernel_rfl
end Rw
set_option maxHeartbeats 4000000
namespace Rw
open PySem PySem.Spec PyProof.Rows L2

/-! ### data -/
inductive Dt where
  | non | bl (b : Bool) | int (i : Int) | str (s : Str)
  | lst (xs : List Dt) | tup (xs : List Dt)
  | dic (kvs : List (NestedKey × Dt))
  | zon (z : List (Str × Dt))
  | fls (xs : List Dt)

mutual
/-- a key of a dict as a datum -/
def nkD : NestedKey → Dt
  | .none => .non
  | .num i => .int i
  | .text x => .str x
  | .tup ks => .tup (nkDs ks)
def nkDs : List NestedKey → List Dt
  | [] => []
  | k :: ks => nkD k :: nkDs ks
end

/-- what stands in a dict: keys at addresses, values; the count of its changes -/
abbrev DX := List (NestedKey × Addr × V) × Nat
abbrev RelX : NestedKey × Addr × V → NestedKey × Addr × Value → Prop := fun p q => p.1 = q.1 ∧ p.2.1 = q.2.1 ∧ RelV p.2.2 q.2.2
/-- a dict object at a -/
def DObj (P : Program) (w : World) (a : Addr) (xs : DX) (h : Heap) : Prop :=
  (a == sysModules) = false ∧ xs.1.length ≤ sizeLine ∧ (xs.1.map (·.1)).Nodup ∧ ∃ us : List (NestedKey × Addr × Value), Paired RelX xs.1 us ∧
    ∃ o es, h.get? a = some o ∧ o.ExactDict ∧ o.data = .dict es xs.2 ∧ es.toList = us.map (entryOfKey (nestedKind P w))

section
variable (P : Program) (w : World) (K : PySem.W.Frag)
mutual
inductive Rep (H : Hp) : V → Dt → Prop
  | non : Rep H .non .non
  | bl (b : Bool) : Rep H (.bl b) (.bl b)
  | int (i : Int) : Rep H (.int i) (.int i)
  | str (s : Str) : Rep H (.str s) (.str s)
  | lst {a : Addr} {xs : List V} {ds : List Dt} : H a = some (.lst xs) → RepL H xs ds → Rep H (.ref a) (.lst ds)
  | tup {a : Addr} {xs : List V} {ds : List Dt} : SqT K H a xs → RepL H xs ds → Rep H (.ref a) (.tup ds)
  | dic {a : Addr} {xs : DX} {kvs : List (NestedKey × Dt)} : H a = some (.ext (DObj P w a xs)) → RepD H xs.1 kvs → Rep H (.ref a) (.dic kvs)
  | zon {a dx : Addr} {fs : List (Str × V)} {z : List (Str × Dt)} : H a = some (.ins (He.ga K "Zone") dx fs) → RepF H fs z → Rep H (.ref a) (.zon z)
  | fls {a : Addr} {xs : List V} {ds : List Dt} : SqL K H a xs → RepL H xs ds → Rep H (.ref a) (.fls ds)
inductive RepL (H : Hp) : List V → List Dt → Prop
  | nil : RepL H [] []
  | cons {v : V} {vs : List V} {d : Dt} {ds : List Dt} : Rep H v d → RepL H vs ds → RepL H (v :: vs) (d :: ds)
inductive RepD (H : Hp) : List (NestedKey × Addr × V) → List (NestedKey × Dt) → Prop
  | nil : RepD H [] []
  | cons {k : NestedKey} {b : Addr} {v : V} {d : Dt} {xs : List (NestedKey × Addr × V)} {kvs : List (NestedKey × Dt)} : Rep H (.ref b) (nkD k) → k.depth ≤ 8 → Rep H v d → RepD H xs kvs → RepD H ((k, b, v) :: xs) ((k, d) :: kvs)
inductive RepF (H : Hp) : List (Str × V) → List (Str × Dt) → Prop
  | nil : RepF H [] []
  | cons {x : Str} {v : V} {d : Dt} {fs : List (Str × V)} {z : List (Str × Dt)} : Rep H v d → RepF H fs z → RepF H ((x, v) :: fs) ((x, d) :: z)
end
end

/-! ### heaps -/
/-- all that is tracked is kept -/
def Ex (H H' : Hp) : Prop := ∀ a o, H a = some o → H' a = some o
theorem Ex.refl (H : Hp) : Ex H H := fun _ _ h => h
theorem Ex.trans {H H1 H2 : Hp} (a : Ex H H1) (b : Ex H1 H2) : Ex H H2 := fun x o h => b x o (a x o h)
theorem Ex.new {H : Hp} {p : Addr} {o : HO} (h : H p = none) : Ex H (upd H p o) := fun a u e => by
  rw [upd_ne (ne_of_none e h)]
  exact e
theorem Ex.back {H H' : Hp} {p : Addr} (e : Ex H H') (h : H' p = none) : H p = none := by
  cases q : H p with
  | none => rfl
  | some o => rw [e p o q] at h; cases h
/-- what may be locked: dicts -/
def isExt : HO → Bool
  | .ext _ => true
  | _ => false
/-- the data's heap lies within H, dicts may be locked -/
def Sub (Hd H : Hp) : Prop := ∀ a o, Hd a = some o → H a = some o ∨ (isExt o = true ∧ ∃ od, H a = some (.frz od o))
theorem Sub.refl (H : Hp) : Sub H H := fun _ _ h => .inl h
theorem Sub.of_ex {Hd H : Hp} (e : Ex Hd H) : Sub Hd H := fun a o h => .inl (e a o h)
theorem Sub.rd {Hd H : Hp} {a : Addr} {o : HO} (s : Sub Hd H) (h : Hd a = some o) : Rd H a o := by
  rcases s a o h with h | ⟨_, od, h⟩
  · exact .inl h
  · exact .inr ⟨od, h⟩
theorem Sub.exact {Hd H : Hp} {a : Addr} {o : HO} (s : Sub Hd H) (h : Hd a = some o) (ho : isExt o = false) : H a = some o := by
  rcases s a o h with h | ⟨e, _⟩
  · exact h
  · rw [ho] at e; cases e
theorem Sub.back {Hd H : Hp} {a : Addr} (s : Sub Hd H) (h : H a = none) : Hd a = none := by
  cases q : Hd a with
  | none => rfl
  | some o =>
    rcases s a o q with z | ⟨_, od, z⟩ <;> (rw [h] at z; cases z)
theorem Sub.sql {K : PySem.W.Frag} {Hd H : Hp} {a : Addr} {xs : List V} (s : Sub Hd H) (h : SqL K Hd a xs) : SqL K H a xs := by
  rcases h with (h | ⟨od, h⟩) | h
  · exact .inl (.inl (s.exact h rfl))
  · exact .inl (.inr ⟨od, s.exact h rfl⟩)
  · exact .inr h
theorem Sub.sqt {K : PySem.W.Frag} {Hd H : Hp} {a : Addr} {xs : List V} (s : Sub Hd H) (h : SqT K Hd a xs) : SqT K H a xs := by
  rcases h with (h | ⟨od, h⟩) | h
  · exact .inl (.inl (s.exact h rfl))
  · exact .inl (.inr ⟨od, s.exact h rfl⟩)
  · exact .inr h
theorem Ex.sql {K : PySem.W.Frag} {H H' : Hp} {a : Addr} {xs : List V} (e : Ex H H') (h : SqL K H a xs) : SqL K H' a xs := (Sub.of_ex e).sql h
theorem Ex.sqt {K : PySem.W.Frag} {H H' : Hp} {a : Addr} {xs : List V} (e : Ex H H') (h : SqT K H a xs) : SqT K H' a xs := (Sub.of_ex e).sqt h

section
variable {P : Program} {w : World} {K : PySem.W.Frag} {H H' : Hp}
mutual
theorem Rep.mono (e : Ex H H') : ∀ {v : V} {d : Dt}, Rep P w K H v d → Rep P w K H' v d
  | _, _, .non => .non
  | _, _, .bl b => .bl b
  | _, _, .int i => .int i
  | _, _, .str s => .str s
  | _, _, .lst h r => .lst (e _ _ h) (RepL.mono e r)
  | _, _, .tup h r => .tup (e.sqt h) (RepL.mono e r)
  | _, _, .dic h r => .dic (e _ _ h) (RepD.mono e r)
  | _, _, .zon h r => .zon (e _ _ h) (RepF.mono e r)
  | _, _, .fls h r => .fls (e.sql h) (RepL.mono e r)
theorem RepL.mono (e : Ex H H') : ∀ {vs : List V} {ds : List Dt}, RepL P w K H vs ds → RepL P w K H' vs ds
  | _, _, .nil => .nil
  | _, _, .cons h r => .cons (Rep.mono e h) (RepL.mono e r)
theorem RepD.mono (e : Ex H H') : ∀ {xs : List (NestedKey × Addr × V)} {kvs : List (NestedKey × Dt)}, RepD P w K H xs kvs → RepD P w K H' xs kvs
  | _, _, .nil => .nil
  | _, _, .cons h z g r => .cons (Rep.mono e h) z (Rep.mono e g) (RepD.mono e r)
theorem RepF.mono (e : Ex H H') : ∀ {fs : List (Str × V)} {z : List (Str × Dt)}, RepF P w K H fs z → RepF P w K H' fs z
  | _, _, .nil => .nil
  | _, _, .cons h r => .cons (Rep.mono e h) (RepF.mono e r)
end
theorem RepL.length : ∀ {vs : List V} {ds : List Dt}, RepL P w K H vs ds → vs.length = ds.length
  | _, _, .nil => rfl
  | _, _, .cons _ r => congrArg (· + 1) (RepL.length r)
theorem RepL.get : ∀ {vs : List V} {ds : List Dt} {i : Nat} {d : Dt}, RepL P w K H vs ds → ds[i]? = some d → ∃ v, vs[i]? = some v ∧ Rep P w K H v d
  | _, _, _, _, .nil, e => by simp at e
  | _, _, 0, _, .cons h _, e => by simp at e; subst e; exact ⟨_, rfl, h⟩
  | _, _, i + 1, _, .cons _ r, e => by
    obtain ⟨v, h1, h2⟩ := RepL.get (i := i) r (by simpa using e)
    exact ⟨v, by simpa using h1, h2⟩
theorem RepL.getV : ∀ {vs : List V} {ds : List Dt} {i : Nat} {v : V}, RepL P w K H vs ds → vs[i]? = some v → ∃ d, ds[i]? = some d ∧ Rep P w K H v d
  | _, _, _, _, .nil, e => by simp at e
  | _, _, 0, _, .cons h _, e => by simp at e; subst e; exact ⟨_, rfl, h⟩
  | _, _, i + 1, _, .cons _ r, e => by
    obtain ⟨d, h1, h2⟩ := RepL.getV (i := i) r (by simpa using e)
    exact ⟨d, by simpa using h1, h2⟩
theorem RepL.append : ∀ {vs us : List V} {ds es : List Dt}, RepL P w K H vs ds → RepL P w K H us es → RepL P w K H (vs ++ us) (ds ++ es)
  | _, _, _, _, .nil, s => s
  | _, _, _, _, .cons h r, s => .cons h (RepL.append r s)
theorem RepL.drop : ∀ {vs : List V} {ds : List Dt} (n : Nat), RepL P w K H vs ds → RepL P w K H (vs.drop n) (ds.drop n)
  | _, _, 0, r => r
  | _, _, _ + 1, .nil => .nil
  | _, _, n + 1, .cons _ r => RepL.drop n r
theorem RepL.take : ∀ {vs : List V} {ds : List Dt} (n : Nat), RepL P w K H vs ds → RepL P w K H (vs.take n) (ds.take n)
  | _, _, 0, _ => .nil
  | _, _, _ + 1, .nil => .nil
  | _, _, n + 1, .cons h r => .cons h (RepL.take n r)
theorem RepL.set : ∀ {vs : List V} {ds : List Dt} {v : V} {d : Dt} (n : Nat), RepL P w K H vs ds → Rep P w K H v d → RepL P w K H (vs.set n v) (ds.set n d)
  | _, _, _, _, _, .nil, _ => .nil
  | _, _, _, _, 0, .cons _ r, h => .cons h r
  | _, _, _, _, n + 1, .cons g r, h => .cons g (RepL.set n r h)
theorem RepL.rev : ∀ {vs : List V} {ds : List Dt}, RepL P w K H vs ds → RepL P w K H vs.reverse ds.reverse
  | _, _, .nil => .nil
  | _, _, .cons h r => by
    rw [List.reverse_cons, List.reverse_cons]
    exact RepL.append (RepL.rev r) (.cons h .nil)
/-- data without objects -/
def scal : Dt → Bool
  | .non | .bl _ | .int _ | .str _ => true
  | _ => false
theorem Rep.scal {v : V} {d : Dt} (r : Rep P w K H v d) (h : scal d = true) : Rep P w K H' v d := by
  cases r with
  | non => exact .non
  | bl b => exact .bl b
  | int i => exact .int i
  | str s => exact .str s
  | lst _ _ => cases h
  | tup _ _ => cases h
  | dic _ _ => cases h
  | zon _ _ => cases h
  | fls _ _ => cases h
end

/-! ### the frame's entries -/
inductive En where
  | un | dat (d : Dt) | ol (ds : List Dt) | od (kvs : List (NestedKey × Dt)) | ob (o : HO)
def isOwn : En → Bool
  | .ol _ | .od _ | .ob _ => true
  | _ => false
section
variable (P : Program) (w : World) (K : PySem.W.Frag)
def EnR (F Hd H : Hp) : Option V → En → Prop
  | _, .un => True
  | x, .dat d => ∃ v, x = some v ∧ Rep P w K Hd v d
  | x, .ol ds => ∃ a xs, x = some (.ref a) ∧ F a = none ∧ Hd a = none ∧ H a = some (.lst xs) ∧ RepL P w K Hd xs ds
  | x, .od kvs => ∃ a xs, x = some (.ref a) ∧ F a = none ∧ Hd a = none ∧ H a = some (.ext (DObj P w a xs)) ∧ RepD P w K Hd xs.1 kvs
  | x, .ob o => ∃ a, x = some (.ref a) ∧ F a = none ∧ Hd a = none ∧ H a = some o
/-- pp: the address that slot 0 holds for ever; F: what stays as it is; G: the data at the entry; Hd: the data; H: all -/
structure ER (pp : Option Addr) (F G Hd H : Hp) (σ : L2.St) (ρ : List En) : Prop where
  pt : ∀ a, pp = some a → σ[0]? = some (some (.ref a))
  fr : Ex F H
  gd : Ex G Hd
  sb : Sub Hd H
  sep : ∀ a, F a ≠ none → G a = none → Hd a = none
  len : σ.length = ρ.length
  sl : ∀ (i : Nat) (e : En), ρ[i]? = some e → ∃ x, σ[i]? = some x ∧ EnR P w K F Hd H x e
  ow : ∀ (i j : Nat) (e e' : En) (a : Addr), ρ[i]? = some e → ρ[j]? = some e' → isOwn e = true → isOwn e' = true → σ[i]? = some (some (.ref a)) → σ[j]? = some (some (.ref a)) → i = j
end
end Rw
namespace Rw
open PySem PySem.Spec PyProof.Rows L2

/-! ### the frame's relation -/
section
variable {P : Program} {w : World} {K : PySem.W.Frag} {pp : Option Addr} {F G Hd H H' : Hp} {σ : L2.St} {ρ : List En}
theorem EnR.new {x : Option V} {e : En} {p : Addr} {o : HO} (h : EnR P w K F Hd H x e) (hp : H p = none) (sb : Sub Hd H) : EnR P w K F (upd Hd p o) (upd H p o) x e := by
  have ed : Ex Hd (upd Hd p o) := Ex.new (sb.back hp)
  cases e with
  | un => trivial
  | dat d => obtain ⟨v, e1, r⟩ := h; exact ⟨v, e1, r.mono ed⟩
  | ol ds =>
    obtain ⟨a, xs, e1, hF, hHd, hH, r⟩ := h
    have ne : a ≠ p := ne_of_none hH hp
    exact ⟨a, xs, e1, hF, by rw [upd_ne ne]; exact hHd, by rw [upd_ne ne]; exact hH, r.mono ed⟩
  | od kvs =>
    obtain ⟨a, xs, e1, hF, hHd, hH, r⟩ := h
    have ne : a ≠ p := ne_of_none hH hp
    exact ⟨a, xs, e1, hF, by rw [upd_ne ne]; exact hHd, by rw [upd_ne ne]; exact hH, r.mono ed⟩
  | ob oo =>
    obtain ⟨a, e1, hF, hHd, hH⟩ := h
    have ne : a ≠ p := ne_of_none hH hp
    exact ⟨a, e1, hF, by rw [upd_ne ne]; exact hHd, by rw [upd_ne ne]; exact hH⟩
/-- a new object is data -/
theorem ER.new {p : Addr} {o : HO} (er : ER P w K pp F G Hd H σ ρ) (hp : H p = none) : ER P w K pp F G (upd Hd p o) (upd H p o) σ ρ where
  pt := er.pt
  fr := er.fr.trans (Ex.new hp)
  gd := er.gd.trans (Ex.new (er.sb.back hp))
  sb := fun a u e => by
    by_cases h : a = p
    · subst h; rw [upd_same] at e; rw [upd_same]; exact .inl e
    · rw [upd_ne h] at e; rw [upd_ne h]; exact er.sb a u e
  sep := fun a h1 h2 => by
    by_cases h : a = p
    · subst h; exact absurd (er.fr.back hp) h1
    · rw [upd_ne h]; exact er.sep a h1 h2
  len := er.len
  sl := fun i e h => let ⟨x, h1, h2⟩ := er.sl i e h; ⟨x, h1, h2.new hp er.sb⟩
  ow := er.ow
/-- the heap grows, the data stay -/
theorem ER.grow (er : ER P w K pp F G Hd H σ ρ) (e : Ex H H') : ER P w K pp F G Hd H' σ ρ where
  pt := er.pt
  fr := er.fr.trans e
  gd := er.gd
  sb := fun a u h => by
    rcases er.sb a u h with z | ⟨z, od, q⟩
    · exact .inl (e a u z)
    · exact .inr ⟨z, od, e a _ q⟩
  sep := er.sep
  len := er.len
  sl := fun i en h => by
    obtain ⟨x, h1, h2⟩ := er.sl i en h
    refine ⟨x, h1, ?_⟩
    cases en with
    | un => trivial
    | dat d => exact h2
    | ol ds => obtain ⟨a, xs, e1, hF, hHd, hH, r⟩ := h2; exact ⟨a, xs, e1, hF, hHd, e a _ hH, r⟩
    | od kvs => obtain ⟨a, xs, e1, hF, hHd, hH, r⟩ := h2; exact ⟨a, xs, e1, hF, hHd, e a _ hH, r⟩
    | ob oo => obtain ⟨a, e1, hF, hHd, hH⟩ := h2; exact ⟨a, e1, hF, hHd, e a _ hH⟩
  ow := er.ow
theorem ER.fresh {p : Addr} (er : ER P w K pp F G Hd H σ ρ) (hp : H p = none) : Hd p = none := er.sb.back hp
/-- a slot is given a datum -/
theorem ER.set {i : Nat} {v : V} {d : Dt} (er : ER P w K pp F G Hd H σ ρ) (r : Rep P w K Hd v d) (hi : i ≠ 0) : ER P w K pp F G Hd H (σ.set i (some v)) (ρ.set i (.dat d)) where
  pt := fun a h => by rw [List.getElem?_set_ne hi]; exact er.pt a h
  fr := er.fr
  gd := er.gd
  sb := er.sb
  sep := er.sep
  len := by rw [List.length_set, List.length_set]; exact er.len
  sl := fun j e h => by
    by_cases hj : i = j
    · subst hj
      have hl : i < (ρ.set i (.dat d)).length := (List.getElem?_eq_some_iff.mp h).1
      rw [List.length_set] at hl
      rw [List.getElem?_set_self hl] at h
      cases h
      refine ⟨some v, ?_, v, rfl, r⟩
      rw [List.getElem?_set_self (by rw [er.len]; exact hl)]
    · rw [List.getElem?_set_ne hj] at h ⊢
      exact er.sl j e h
  ow := fun a b e e' x h1 h2 o1 o2 s1 s2 => by
    by_cases ha : i = a
    · subst ha
      have hl : i < (ρ.set i (.dat d)).length := (List.getElem?_eq_some_iff.mp h1).1
      rw [List.length_set] at hl
      rw [List.getElem?_set_self hl] at h1
      cases h1; cases o1
    · by_cases hb : i = b
      · subst hb
        have hl : i < (ρ.set i (.dat d)).length := (List.getElem?_eq_some_iff.mp h2).1
        rw [List.length_set] at hl
        rw [List.getElem?_set_self hl] at h2
        cases h2; cases o2
      · rw [List.getElem?_set_ne ha] at h1 s1
        rw [List.getElem?_set_ne hb] at h2 s2
        exact er.ow a b e e' x h1 h2 o1 o2 s1 s2
end

/-! ### the judgements -/
abbrev XR (X : Cx) := ER X.prog X.w X.K
abbrev XRep (X : Cx) := Rep X.prog X.w X.K
abbrev XRepL (X : Cx) := RepL X.prog X.w X.K
section
variable (X : Cx)
def cE (e : Expr) : TE := fun σ H Q => ∀ pins s, Inv X pins σ H s → wpAny (model X.prog X.w) X.A (eval e X.env) (EP X pins σ Q) X.xe s
def cT (e : Expr) : TT := fun σ H Q => ∀ pins s, Inv X pins σ H s → wpAny (model X.prog X.w) X.A (isTrue e X.env (eval e X.env)) (TP X pins σ Q) X.xe s
def cW (e : Expr) : TT := fun σ H Q => ∀ whole pins s, Inv X pins σ H s → wpAny (model X.prog X.w) X.A (isTrue e X.env whole) (TP X pins σ Q) X.xe s
def cA (es : List Expr) : TA := fun σ H Q => ∀ pos pins s, Inv X pins σ H s → wpAny (model X.prog X.w) X.A (spliced (backTo pos (starEach es X.env))) (AP X pins σ Q) X.xe s
def cI (tg iter : Expr) : TI := fun σ H R => ∀ pins s, Inv X pins σ H s → wpAny (model X.prog X.w) X.A (eval iter X.env) (fun v s1 => wpAny (model X.prog X.w) X.A (pyIter v) (PIE X pins σ tg R) X.xe s1) X.xe s
def cP (st : Stmt) : TS := fun D σ H => ∀ pins s, Inv X pins σ H s → wpAny (model X.prog X.w) X.A (exec st X.env) (SP X pins D) X.xe s
def cS (st : List Stmt) : TS := fun D σ H => ∀ pins s, Inv X pins σ H s → wpAny (model X.prog X.w) X.A (execs st X.env) (SP X pins D) X.xe s
end
section
variable {X : Cx}
theorem pe_c {e : Expr} : PE X e (cE X e) := ⟨fun pins s _ _ _ I h => h pins s I⟩
theorem pt_c {e : Expr} : PT X e (cT X e) := ⟨fun pins s _ _ _ I h => h pins s I⟩
theorem pw_c {e : Expr} : PW X e (cW X e) := ⟨fun wh pins s _ _ _ I h => h wh pins s I⟩
theorem pa_c {es : List Expr} : PA X es (cA X es) := ⟨fun pos pins s _ _ _ I h => h pos pins s I⟩
theorem pi_c {tg iter : Expr} : PI X tg iter (cI X tg iter) := ⟨fun pins s _ _ _ I h => h pins s I⟩
theorem ps_c {st : Stmt} : PS X st (cP X st) := ⟨fun pins s _ _ _ I h => h pins s I⟩
theorem pss_c {st : List Stmt} : PSs X st (cS X st) := ⟨fun pins s _ _ _ I h => h pins s I⟩
end

/-- what follows an expression: a value of the datum, the frame's entries -/
def KE (X : Cx) (pp : Option Addr) (F G Hd : Hp) (σ : L2.St) (d : Dt) (ρ : List En) (Q : VK) : Prop := ∀ v Hd' H', Ex Hd Hd' → XR X pp F G Hd' H' σ ρ → XRep X Hd' v d → Q v H'
def EV (X : Cx) (e : Expr) (ρ : List En) (d : Dt) (ρ' : List En) : Prop := ∀ pp F G Hd H σ Q, XR X pp F G Hd H σ ρ → KE X pp F G Hd σ d ρ' Q → cE X e σ H Q
def ET (X : Cx) (e : Expr) (ρ : List En) (b : Bool) (ρ' : List En) : Prop := ∀ pp F G Hd H σ (Q : Bool → Hp → Prop), XR X pp F G Hd H σ ρ → (∀ Hd' H', Ex Hd Hd' → XR X pp F G Hd' H' σ ρ' → Q b H') → cT X e σ H Q
def EW (X : Cx) (e : Expr) (ρ : List En) (b : Bool) (ρ' : List En) : Prop := ∀ pp F G Hd H σ (Q : Bool → Hp → Prop), XR X pp F G Hd H σ ρ → (∀ Hd' H', Ex Hd Hd' → XR X pp F G Hd' H' σ ρ' → Q b H') → cW X e σ H Q
def EA (X : Cx) (es : List Expr) (ρ : List En) (ds : List Dt) (ρ' : List En) : Prop := ∀ pp F G Hd H σ (Q : List V → Hp → Prop), XR X pp F G Hd H σ ρ → (∀ vs Hd' H', Ex Hd Hd' → XR X pp F G Hd' H' σ ρ' → XRepL X Hd' vs ds → Q vs H') → cA X es σ H Q

section
variable {X : Cx} {ρ ρ' ρ1 ρ2 ρ3 : List En} {d d1 d2 d3 : Dt} {e a b c : Expr} {es : List Expr} {pos : Pos} {ds : List Dt}
theorem EV.is (h : EV X e ρ d ρ') (hd : d = d1) : EV X e ρ d1 ρ' := hd ▸ h
theorem EV.isE (h : EV X e ρ d ρ') (hd : ρ' = ρ1) : EV X e ρ d ρ1 := hd ▸ h
theorem ET.is {b1 b2 : Bool} (h : ET X e ρ b1 ρ') (hd : b1 = b2) : ET X e ρ b2 ρ' := hd ▸ h
theorem EV.of {t : TE} (h : PE X e t) (hq : ∀ pp F G Hd H σ Q, XR X pp F G Hd H σ ρ → KE X pp F G Hd σ d ρ' Q → t σ H Q) : EV X e ρ d ρ' :=
  fun pp F G Hd H σ Q er k pins s I => h.run pins s σ H Q I (hq pp F G Hd H σ Q er k)
theorem ET.of {b : Bool} {t : TT} (h : PT X e t) (hq : ∀ pp F G Hd H σ (Q : Bool → Hp → Prop), XR X pp F G Hd H σ ρ → (∀ Hd' H', Ex Hd Hd' → XR X pp F G Hd' H' σ ρ' → Q b H') → t σ H Q) : ET X e ρ b ρ' :=
  fun pp F G Hd H σ Q er k pins s I => h.run pins s σ H Q I (hq pp F G Hd H σ Q er k)
theorem EW.of {b : Bool} {t : TT} (h : PW X e t) (hq : ∀ pp F G Hd H σ (Q : Bool → Hp → Prop), XR X pp F G Hd H σ ρ → (∀ Hd' H', Ex Hd Hd' → XR X pp F G Hd' H' σ ρ' → Q b H') → t σ H Q) : EW X e ρ b ρ' :=
  fun pp F G Hd H σ Q er k wh pins s I => h.run wh pins s σ H Q I (hq pp F G Hd H σ Q er k)
theorem KE.now {pp : Option Addr} {F G Hd H : Hp} {σ : L2.St} {Q : VK} {v : V} (k : KE X pp F G Hd σ d ρ Q) (er : XR X pp F G Hd H σ ρ) (r : XRep X Hd v d) : Q v H := k v Hd H (Ex.refl _) er r
theorem KE.new {pp : Option Addr} {F G Hd H : Hp} {σ : L2.St} {Q : VK} {p : Addr} {o : HO} (k : KE X pp F G Hd σ d ρ Q) (er : XR X pp F G Hd H σ ρ) (hp : H p = none) (r : XRep X (upd Hd p o) (.ref p) d) : Q (.ref p) (upd H p o) :=
  k _ _ _ (Ex.new (er.fresh hp)) (er.new hp) r
theorem KE.up {pp : Option Addr} {F G Hd Hd' : Hp} {σ : L2.St} {Q : VK} (k : KE X pp F G Hd σ d ρ Q) (e : Ex Hd Hd') : KE X pp F G Hd' σ d ρ Q := fun v Hd2 H2 e2 er r => k v Hd2 H2 (e.trans e2) er r

/-! ### names and constants -/
theorem EV.var {i : Nat} {x : Str} (h : ρ[i]? = some (.dat d)) (hN : X.N[i]? = some x := by rfl) (hv : Vis X.env.scope x := by first | exact Or.inl rfl | exact Or.inr (Or.inl rfl) | exact Or.inr (Or.inr rfl)) (hd : (x == ("__debug__" : Str)) = false := by decide)
    (hcd : (x == ("__classdict__" : Str)) = false := by decide) : EV X (.Name x pos) ρ d ρ :=
  .of (pe_var hN hv hd hcd) fun pp F G Hd H σ Q er k => by
    obtain ⟨y, h1, v, rfl, r⟩ := er.sl i _ h
    exact ⟨v, h1, k.now er r⟩
theorem EV.int {i : Int} {j : Nat} : EV X (.Constant (.int i) j pos) ρ (.int i) ρ := .of pe_int fun pp F G Hd H σ Q er k => k.now er (.int i)
theorem EV.bl {i : Bool} {j : Nat} : EV X (.Constant (.bool i) j pos) ρ (.bl i) ρ := .of pe_bl fun pp F G Hd H σ Q er k => k.now er (.bl i)
theorem EV.non {j : Nat} : EV X (.Constant .none j pos) ρ .non ρ := .of pe_non fun pp F G Hd H σ Q er k => k.now er .non
theorem EV.str {i : Str} {j : Nat} : EV X (.Constant (.str i) j pos) ρ (.str i) ρ := .of pe_str fun pp F G Hd H σ Q er k => k.now er (.str i)
theorem EV.glob {x : Str} {v : V} {u : Value} (hm : X.mg x = some u) (r : RelV v u) (hr : ∀ H, XRep X H v d) (hg : Gl X x := by rfl) (hd : (x == ("__debug__" : Str)) = false := by decide) : EV X (.Name x pos) ρ d ρ :=
  .of (pe_glob hg hm r hd) fun pp F G Hd H σ Q er k => k.now er (hr Hd)
/-- a list of one's own is told as data -/
theorem ER.freeze {P : Program} {w : World} {K : PySem.W.Frag} {pp : Option Addr} {F G Hd H : Hp} {σ : L2.St} {i : Nat} {ds : List Dt} (er : ER P w K pp F G Hd H σ ρ) (h : ρ[i]? = some (.ol ds)) (hp : i ≠ 0) :
    ∃ a Hd', σ[i]? = some (some (.ref a)) ∧ Ex Hd Hd' ∧ ER P w K pp F G Hd' H σ (ρ.set i (.dat (.lst ds))) ∧ Rep P w K Hd' (.ref a) (.lst ds) := by
  obtain ⟨y, h1, a, xs, rfl, hF, hHd, hH, r⟩ := er.sl i _ h
  have ed : Ex Hd (upd Hd a (.lst xs)) := Ex.new hHd
  have hl : i < ρ.length := (List.getElem?_eq_some_iff.mp h).1
  refine ⟨a, upd Hd a (.lst xs), h1, ed, ⟨er.pt, er.fr, er.gd.trans ed, fun b u e => ?_, fun b q1 q2 => ?_, by rw [List.length_set]; exact er.len, fun j e g => ?_, fun j k e e' b g1 g2 o1 o2 s1 s2 => ?_⟩, .lst upd_same (r.mono ed)⟩
  · by_cases hb : b = a
    · subst hb; rw [upd_same] at e; cases e; exact .inl hH
    · rw [upd_ne hb] at e; exact er.sb b u e
  · have hb : b ≠ a := fun z => by subst z; exact q1 hF
    rw [upd_ne hb]; exact er.sep b q1 q2
  · by_cases hj : i = j
    · subst hj
      rw [List.getElem?_set_self hl] at g
      cases g
      exact ⟨_, h1, _, rfl, .lst upd_same (r.mono ed)⟩
    · rw [List.getElem?_set_ne hj] at g
      obtain ⟨x, z1, z2⟩ := er.sl j e g
      refine ⟨x, z1, ?_⟩
      cases e with
      | un => trivial
      | dat d => obtain ⟨v, e1, r'⟩ := z2; exact ⟨v, e1, r'.mono ed⟩
      | ol ds' =>
        obtain ⟨b, ys, e1, kF, kHd, kH, r'⟩ := z2
        have hb : b ≠ a := fun z => by subst z; subst e1; exact hj (er.ow i j _ _ _ h g rfl rfl h1 z1)
        exact ⟨b, ys, e1, kF, by rw [upd_ne hb]; exact kHd, kH, r'.mono ed⟩
      | od kvs =>
        obtain ⟨b, ys, e1, kF, kHd, kH, r'⟩ := z2
        have hb : b ≠ a := fun z => by subst z; subst e1; exact hj (er.ow i j _ _ _ h g rfl rfl h1 z1)
        exact ⟨b, ys, e1, kF, by rw [upd_ne hb]; exact kHd, kH, r'.mono ed⟩
      | ob oo =>
        obtain ⟨b, e1, kF, kHd, kH⟩ := z2
        have hb : b ≠ a := fun z => by subst z; subst e1; exact hj (er.ow i j _ _ _ h g rfl rfl h1 z1)
        exact ⟨b, e1, kF, by rw [upd_ne hb]; exact kHd, kH⟩
  · by_cases hj : i = j
    · subst hj
      rw [List.getElem?_set_self hl] at g1
      cases g1; cases o1
    · by_cases hk : i = k
      · subst hk
        rw [List.getElem?_set_self hl] at g2
        cases g2; cases o2
      · rw [List.getElem?_set_ne hj] at g1
        rw [List.getElem?_set_ne hk] at g2
        exact er.ow j k e e' b g1 g2 o1 o2 s1 s2
theorem ER.freezeD {P : Program} {w : World} {K : PySem.W.Frag} {pp : Option Addr} {F G Hd H : Hp} {σ : L2.St} {i : Nat} {ds : List (NestedKey × Dt)} (er : ER P w K pp F G Hd H σ ρ) (h : ρ[i]? = some (.od ds)) (hp : i ≠ 0) :
    ∃ a Hd', σ[i]? = some (some (.ref a)) ∧ Ex Hd Hd' ∧ ER P w K pp F G Hd' H σ (ρ.set i (.dat (.dic ds))) ∧ Rep P w K Hd' (.ref a) (.dic ds) := by
  obtain ⟨y, h1, a, xs, rfl, hF, hHd, hH, r⟩ := er.sl i _ h
  have ed : Ex Hd (upd Hd a (.ext (DObj P w a xs))) := Ex.new hHd
  have hl : i < ρ.length := (List.getElem?_eq_some_iff.mp h).1
  refine ⟨a, upd Hd a (.ext (DObj P w a xs)), h1, ed, ⟨er.pt, er.fr, er.gd.trans ed, fun b u e => ?_, fun b q1 q2 => ?_, by rw [List.length_set]; exact er.len, fun j e g => ?_, fun j k e e' b g1 g2 o1 o2 s1 s2 => ?_⟩, .dic upd_same (r.mono ed)⟩
  · by_cases hb : b = a
    · subst hb; rw [upd_same] at e; cases e; exact .inl hH
    · rw [upd_ne hb] at e; exact er.sb b u e
  · have hb : b ≠ a := fun z => by subst z; exact q1 hF
    rw [upd_ne hb]; exact er.sep b q1 q2
  · by_cases hj : i = j
    · subst hj
      rw [List.getElem?_set_self hl] at g
      cases g
      exact ⟨_, h1, _, rfl, .dic upd_same (r.mono ed)⟩
    · rw [List.getElem?_set_ne hj] at g
      obtain ⟨x, z1, z2⟩ := er.sl j e g
      refine ⟨x, z1, ?_⟩
      cases e with
      | un => trivial
      | dat d => obtain ⟨v, e1, r'⟩ := z2; exact ⟨v, e1, r'.mono ed⟩
      | ol ds' =>
        obtain ⟨b, ys, e1, kF, kHd, kH, r'⟩ := z2
        have hb : b ≠ a := fun z => by subst z; subst e1; exact hj (er.ow i j _ _ _ h g rfl rfl h1 z1)
        exact ⟨b, ys, e1, kF, by rw [upd_ne hb]; exact kHd, kH, r'.mono ed⟩
      | od kvs =>
        obtain ⟨b, ys, e1, kF, kHd, kH, r'⟩ := z2
        have hb : b ≠ a := fun z => by subst z; subst e1; exact hj (er.ow i j _ _ _ h g rfl rfl h1 z1)
        exact ⟨b, ys, e1, kF, by rw [upd_ne hb]; exact kHd, kH, r'.mono ed⟩
      | ob oo =>
        obtain ⟨b, e1, kF, kHd, kH⟩ := z2
        have hb : b ≠ a := fun z => by subst z; subst e1; exact hj (er.ow i j _ _ _ h g rfl rfl h1 z1)
        exact ⟨b, e1, kF, by rw [upd_ne hb]; exact kHd, kH⟩
  · by_cases hj : i = j
    · subst hj
      rw [List.getElem?_set_self hl] at g1
      cases g1; cases o1
    · by_cases hk : i = k
      · subst hk
        rw [List.getElem?_set_self hl] at g2
        cases g2; cases o2
      · rw [List.getElem?_set_ne hj] at g1
        rw [List.getElem?_set_ne hk] at g2
        exact er.ow j k e e' b g1 g2 o1 o2 s1 s2
theorem EV.own {i : Nat} {x : Str} (h : ρ[i]? = some (.ol ds)) (h0 : i ≠ 0 := by decide) (hN : X.N[i]? = some x := by rfl) (hv : Vis X.env.scope x := by first | exact Or.inl rfl | exact Or.inr (Or.inl rfl) | exact Or.inr (Or.inr rfl)) (hd : (x == ("__debug__" : Str)) = false := by decide)
    (hcd : (x == ("__classdict__" : Str)) = false := by decide) : EV X (.Name x pos) ρ (.lst ds) (ρ.set i (.dat (.lst ds))) :=
  .of (pe_var hN hv hd hcd) fun pp F G Hd H σ Q er k => by
    obtain ⟨a, Hd', h1, e, er', r⟩ := er.freeze h h0
    exact ⟨.ref a, h1, k _ _ _ e er' r⟩
theorem EV.ownD {i : Nat} {x : Str} {kvs : List (NestedKey × Dt)} (h : ρ[i]? = some (.od kvs)) (h0 : i ≠ 0 := by decide) (hN : X.N[i]? = some x := by rfl) (hv : Vis X.env.scope x := by first | exact Or.inl rfl | exact Or.inr (Or.inl rfl) | exact Or.inr (Or.inr rfl)) (hd : (x == ("__debug__" : Str)) = false := by decide)
    (hcd : (x == ("__classdict__" : Str)) = false := by decide) : EV X (.Name x pos) ρ (.dic kvs) (ρ.set i (.dat (.dic kvs))) :=
  .of (pe_var hN hv hd hcd) fun pp F G Hd H σ Q er k => by
    obtain ⟨a, Hd', h1, e, er', r⟩ := er.freezeD h h0
    exact ⟨.ref a, h1, k _ _ _ e er' r⟩
end
end Rw
namespace Rw
open PySem PySem.Spec PyProof.Rows L2
theorem RepL.one {P : Program} {w : World} {K : PySem.W.Frag} {H : Hp} {vs : List V} {d : Dt} (h : RepL P w K H vs [d]) : ∃ v, vs = [v] ∧ Rep P w K H v d := by
  cases h with
  | cons a r => cases r; exact ⟨_, rfl, a⟩
theorem RepL.two {P : Program} {w : World} {K : PySem.W.Frag} {H : Hp} {vs : List V} {d e : Dt} (h : RepL P w K H vs [d, e]) : ∃ v u, vs = [v, u] ∧ Rep P w K H v d ∧ Rep P w K H u e := by
  cases h with
  | cons a r => cases r with
    | cons b r => cases r; exact ⟨_, _, rfl, a, b⟩
section
variable {X : Cx} {ρ ρ' ρ1 ρ2 ρ3 : List En} {d d1 d2 d3 x y z : Dt} {e a b c : Expr} {es rest : List Expr} {pos : Pos} {ds : List Dt} {k k' : Bool} {i j : Int}

/-! ### arguments, tuples, lists -/
theorem EA.of {t : TA} (h : PA X es t) (hq : ∀ pp F G Hd H σ (Q : List V → Hp → Prop), XR X pp F G Hd H σ ρ → (∀ vs Hd' H', Ex Hd Hd' → XR X pp F G Hd' H' σ ρ' → XRepL X Hd' vs ds → Q vs H') → t σ H Q) : EA X es ρ ds ρ' :=
  fun pp F G Hd H σ Q er k pos pins s I => h.run pos pins s σ H Q I (hq pp F G Hd H σ Q er k)
theorem EA.nil : EA X [] ρ [] ρ := .of pa_nil fun pp F G Hd H σ Q er k => k [] Hd H (Ex.refl _) er .nil
theorem EA.cons (h : EV X e ρ d ρ1) (r : EA X es ρ1 ds ρ2) (hs : starEach (e :: es) X.env = (false, eval e X.env) :: starEach es X.env := by rfl) : EA X (e :: es) ρ (d :: ds) ρ2 :=
  .of (pa_cons pe_c pa_c hs) fun pp F G Hd H σ Q er k => h pp F G Hd H σ _ er fun v Hd1 H1 e1 er1 r1 => r pp F G Hd1 H1 σ _ er1 fun vs Hd2 H2 e2 er2 r2 => k (v :: vs) Hd2 H2 (e1.trans e2) er2 (.cons (r1.mono e2) r2)
theorem EA.one (h : EV X e ρ d ρ1) (hs : starEach (e :: []) X.env = (false, eval e X.env) :: starEach [] X.env := by rfl) : EA X [e] ρ [d] ρ1 := .cons h .nil hs
theorem EV.tup {c : Nat} (h : EA X es ρ ds ρ') (hl : ds.length ≤ 1000 := by first | exact Nat.le_of_ble_eq_true rfl | assumption) : EV X (.Tuple es c pos) ρ (.tup ds) ρ' :=
  .of (pe_tup pa_c) fun pp F G Hd H σ Q er k => h pp F G Hd H σ _ er fun vs Hd1 H1 e1 er1 r1 => ⟨by rw [r1.length, sizeLine_eq]; omega, fun p hp => (k.up e1).new er1 hp (.tup (.inl (.inl upd_same)) (r1.mono (Ex.new (er1.fresh hp))))⟩
theorem EV.list (h : EA X es ρ ds ρ') (hl : ds.length ≤ 1000 := by first | exact Nat.le_of_ble_eq_true rfl | assumption) : EV X (.List es pos) ρ (.lst ds) ρ' :=
  .of (pe_lst pa_c) fun pp F G Hd H σ Q er k => h pp F G Hd H σ _ er fun vs Hd1 H1 e1 er1 r1 => ⟨by rw [r1.length, sizeLine_eq]; omega, fun p hp => (k.up e1).new er1 hp (.lst upd_same (r1.mono (Ex.new (er1.fresh hp))))⟩

/-! ### two-place operations -/
def ROp (X : Cx) (r : R2) (x y d : Dt) : Prop := ∀ pp F G Hd H σ ρ vx vy Q, XR X pp F G Hd H σ ρ → XRep X Hd vx x → XRep X Hd vy y → KE X pp F G Hd σ d ρ Q → r vx vy H Q
theorem EV.bin {op : Operator} {r : R2} (ho : OpR X (binaryOp op) r) (hr : ROp X r x y d) (ha : EV X a ρ x ρ1) (hb : EV X b ρ1 y ρ2) : EV X (.BinOp a op b pos) ρ d ρ2 :=
  .of (pe_op ho pe_c pe_c) fun pp F G Hd H σ Q er k => ha pp F G Hd H σ _ er fun v Hd1 H1 e1 er1 r1 => hb pp F G Hd1 H1 σ _ er1 fun u Hd2 H2 e2 er2 r2 => hr pp F G Hd2 H2 σ ρ2 v u Q er2 (r1.mono e2) r2 (k.up (e1.trans e2))
theorem ROp.I0 {g : Int → Int → V} (h : ∀ Hd, XRep X Hd (g i j) d) : ROp X (rI0 g) (.int i) (.int j) d := fun pp F G Hd H σ ρ vx vy Q er r1 r2 k => by
  cases r1; cases r2; exact ⟨i, j, rfl, rfl, k.now er (h _)⟩
theorem ROp.I {C : Int → Int → Prop} {g : Int → Int → V} (hc : C i j) (h : ∀ Hd, XRep X Hd (g i j) d) : ROp X (rI C g) (.int i) (.int j) d := fun pp F G Hd H σ ρ vx vy Q er r1 r2 k => by
  cases r1; cases r2; exact ⟨i, j, rfl, rfl, hc, k.now er (h _)⟩
theorem EV.add (ha : EV X a ρ (.int i) ρ1) (hb : EV X b ρ1 (.int j) ρ2) : EV X (.BinOp a .Add b pos) ρ (.int (i + j)) ρ2 := .bin op_add (.I0 fun _ => .int _) ha hb
theorem EV.sub (ha : EV X a ρ (.int i) ρ1) (hb : EV X b ρ1 (.int j) ρ2) : EV X (.BinOp a .Sub b pos) ρ (.int (i - j)) ρ2 := .bin op_sub (.I0 fun _ => .int _) ha hb
theorem EV.mul (ha : EV X a ρ (.int i) ρ1) (hb : EV X b ρ1 (.int j) ρ2) (h : CMul i j) : EV X (.BinOp a .Mult b pos) ρ (.int (i * j)) ρ2 := .bin op_mul (.I h fun _ => .int _) ha hb
theorem EV.mod (ha : EV X a ρ (.int i) ρ1) (hb : EV X b ρ1 (.int j) ρ2) (h : 0 < j) : EV X (.BinOp a .Mod b pos) ρ (.int (i % j)) ρ2 := .bin op_mod (.I h fun _ => .int _) ha hb
theorem EV.fdiv (ha : EV X a ρ (.int i) ρ1) (hb : EV X b ρ1 (.int j) ρ2) (h : CDivW i j) : EV X (.BinOp a .FloorDiv b pos) ρ (.int (i / j)) ρ2 := .bin op_fdivW (.I h fun _ => .int _) ha hb
def CPowW (i j : Int) : Prop := 0 ≤ j ∧ (Builtin.Int.intBits i : Int) * j ≤ 2 ^ 27
theorem op_powW : OpR X (binaryOp .Pow) (rI CPowW fun i j => .int (i ^ j.toNat)) := opI fun _ _ _ _ _ _ _ hc q => pow_int hc.1 hc.2 q
theorem EV.pow (ha : EV X a ρ (.int i) ρ1) (hb : EV X b ρ1 (.int j) ρ2) (h : CPowW i j) : EV X (.BinOp a .Pow b pos) ρ (.int (i ^ j.toNat)) ρ2 := .bin op_powW (.I h fun _ => .int _) ha hb
theorem EV.neg (ha : EV X a ρ (.int i) ρ1) : EV X (.UnaryOp .USub a pos) ρ (.int (-i)) ρ1 :=
  .of (pe_un un_neg pe_c) fun pp F G Hd H σ Q er k => ha pp F G Hd H σ _ er fun v Hd1 H1 e1 er1 r1 => by
    cases r1
    exact ⟨i, rfl, (k.up e1).now er1 (.int _)⟩
theorem EV.addS {s t : Str} (ha : EV X a ρ (.str s) ρ1) (hb : EV X b ρ1 (.str t) ρ2) (h : s.length + t.length ≤ sizeLine) : EV X (.BinOp a .Add b pos) ρ (.str (s ++ t)) ρ2 :=
  .bin op_add_str (fun pp F G Hd H σ ρ vx vy Q er r1 r2 k => by cases r1; cases r2; exact ⟨s, t, rfl, rfl, h, k.now er (.str _)⟩) ha hb
theorem EV.addT {xs ys : List Dt} (ha : EV X a ρ (.tup xs) ρ1) (hb : EV X b ρ1 (.tup ys) ρ2) (h : xs.length + ys.length ≤ sizeLine) : EV X (.BinOp a .Add b pos) ρ (.tup (xs ++ ys)) ρ2 :=
  .bin op_catA (fun pp F G Hd H σ ρ vx vy Q er r1 r2 k => by
    cases r1 with
    | tup h1 l1 =>
      cases r2 with
      | tup h2 l2 =>
        refine ⟨_, _, _, _, rfl, rfl, er.sb.sqt h1, er.sb.sqt h2, by rw [l1.length, l2.length]; exact h, fun e => ?_, fun _ e => ?_, fun _ _ p hp => ?_⟩
        · subst e
          cases l1
          exact k.now er (.tup h2 l2)
        · subst e
          cases l2
          rw [List.append_nil] at k
          exact k.now er (.tup h1 l1)
        · exact k.new er hp (.tup (.inl (.inl upd_same)) ((l1.append l2).mono (Ex.new (er.fresh hp))))) ha hb
/-! a list's object as it stands -/
theorem lst_at {K : PySem.W.Frag} {H : Hp} {p : Addr} {xs : List V} (h : SqL K H p xs) : SqL K H p xs := h

/-! ### comparisons -/
def EC (X : Cx) (op : CmpOp) (a b : Expr) (ρ : List En) (k : Bool) (ρ2 : List En) : Prop := ∃ r ρ1 x y, OpR X (compareOp op) r ∧ EV X a ρ x ρ1 ∧ EV X b ρ1 y ρ2 ∧ ROp X r x y (.bl k)
theorem EV.cmp {op : CmpOp} (h : EC X op a b ρ k ρ') (hm : behindInMarks op b = false := by first | exact nomark _ | rfl) : EV X (.Compare a [op] [b] pos) ρ (.bl k) ρ' := by
  obtain ⟨r, ρ1, x, y, ho, ha, hb, hr⟩ := h
  exact .of (pe_cmpR ho pe_c pe_c hm) fun pp F G Hd H σ Q er k => ha pp F G Hd H σ _ er fun v Hd1 H1 e1 er1 r1 => hb pp F G Hd1 H1 σ _ er1 fun u Hd2 H2 e2 er2 r2 => hr pp F G Hd2 H2 σ _ v u Q er2 (r1.mono e2) r2 (k.up (e1.trans e2))
theorem ET.cmp {op : CmpOp} (h : EC X op a b ρ k ρ') (hm : behindInMarks op b = false := by first | exact nomark _ | rfl) : ET X (.Compare a [op] [b] pos) ρ k ρ' := by
  obtain ⟨r, ρ1, x, y, ho, ha, hb, hr⟩ := h
  exact .of (pt_cmpR ho pe_c pe_c hm) fun pp F G Hd H σ Q er k => ha pp F G Hd H σ _ er fun v Hd1 H1 e1 er1 r1 => hb pp F G Hd1 H1 σ _ er1 fun u Hd2 H2 e2 er2 r2 => hr pp F G Hd2 H2 σ _ v u _ er2 (r1.mono e2) r2 fun v3 Hd3 H3 e3 er3 r3 => by
    cases r3
    exact ⟨_, rfl, k _ _ ((e1.trans e2).trans e3) er3⟩
theorem EC.lt (ha : EV X a ρ (.int i) ρ1) (hb : EV X b ρ1 (.int j) ρ2) : EC X .Lt a b ρ (decide (i < j)) ρ2 := ⟨_, _, _, _, op_lt, ha, hb, .I0 fun _ => .bl _⟩
theorem EC.le (ha : EV X a ρ (.int i) ρ1) (hb : EV X b ρ1 (.int j) ρ2) : EC X .LtE a b ρ (decide (i ≤ j)) ρ2 := ⟨_, _, _, _, op_le, ha, hb, .I0 fun _ => .bl _⟩
theorem EC.gt (ha : EV X a ρ (.int i) ρ1) (hb : EV X b ρ1 (.int j) ρ2) : EC X .Gt a b ρ (decide (j < i)) ρ2 := ⟨_, _, _, _, op_gt, ha, hb, .I0 fun _ => .bl _⟩
theorem EC.ge (ha : EV X a ρ (.int i) ρ1) (hb : EV X b ρ1 (.int j) ρ2) : EC X .GtE a b ρ (decide (j ≤ i)) ρ2 := ⟨_, _, _, _, op_ge, ha, hb, .I0 fun _ => .bl _⟩
theorem EC.eqI (ha : EV X a ρ (.int i) ρ1) (hb : EV X b ρ1 (.int j) ρ2) : EC X .Eq a b ρ (decide (i = j)) ρ2 := ⟨_, _, _, _, op_eq, ha, hb, fun pp F G Hd H σ ρ vx vy Q er r1 r2 k => by
  cases r1; cases r2
  refine ⟨rfl, ?_⟩
  rw [dec_int]
  exact k.now er (by rw [Bool.beq_eq_decide_eq]; exact .bl _)⟩
theorem EC.neI (ha : EV X a ρ (.int i) ρ1) (hb : EV X b ρ1 (.int j) ρ2) : EC X .NotEq a b ρ (!decide (i = j)) ρ2 := ⟨_, _, _, _, op_ne, ha, hb, fun pp F G Hd H σ ρ vx vy Q er r1 r2 k => by
  cases r1; cases r2
  refine ⟨rfl, ?_⟩
  rw [dec_int]
  exact k.now er (by rw [Bool.beq_eq_decide_eq]; exact .bl _)⟩
theorem EC.eqS {s t : Str} (ha : EV X a ρ (.str s) ρ1) (hb : EV X b ρ1 (.str t) ρ2) : EC X .Eq a b ρ (decide (s = t)) ρ2 := ⟨_, _, _, _, op_eq, ha, hb, fun pp F G Hd H σ ρ vx vy Q er r1 r2 k => by
  cases r1; cases r2
  refine ⟨rfl, ?_⟩
  rw [dec_str]
  exact k.now er (by rw [Bool.beq_eq_decide_eq]; exact .bl _)⟩
theorem EC.neS {s t : Str} (ha : EV X a ρ (.str s) ρ1) (hb : EV X b ρ1 (.str t) ρ2) : EC X .NotEq a b ρ (!decide (s = t)) ρ2 := ⟨_, _, _, _, op_ne, ha, hb, fun pp F G Hd H σ ρ vx vy Q er r1 r2 k => by
  cases r1; cases r2
  refine ⟨rfl, ?_⟩
  rw [dec_str]
  exact k.now er (by rw [Bool.beq_eq_decide_eq]; exact .bl _)⟩
def isNon : Dt → Bool
  | .non => true
  | _ => false
theorem RepNon {P : Program} {w : World} {K : PySem.W.Frag} {H : Hp} {v : V} (r : Rep P w K H v d) : decide (v = .non) = isNon d := by cases r <;> rfl
theorem EC.isN {p : Pos} {n : Nat} (ha : EV X a ρ x ρ1) : EC X .Is a (.Constant .none n p) ρ (isNon x) ρ1 := ⟨_, _, _, _, op_isN, ha, EV.non, fun pp F G Hd H σ ρ vx vy Q er r1 r2 k => by
  cases r2
  refine ⟨rfl, ?_⟩
  rw [RepNon r1]
  exact k.now er (.bl _)⟩
theorem EC.notN {p : Pos} {n : Nat} (ha : EV X a ρ x ρ1) : EC X .IsNot a (.Constant .none n p) ρ (!isNon x) ρ1 := ⟨_, _, _, _, op_notN, ha, EV.non, fun pp F G Hd H σ ρ vx vy Q er r1 r2 k => by
  cases r2
  refine ⟨rfl, ?_⟩
  rw [RepNon r1]
  exact k.now er (.bl _)⟩
theorem EC.ltS {s t : Str} (ha : EV X a ρ (.str s) ρ1) (hb : EV X b ρ1 (.str t) ρ2) : EC X .Lt a b ρ (decide (s.cps.toList < t.cps.toList)) ρ2 := ⟨_, _, _, _, op_lt_str, ha, hb, fun pp F G Hd H σ ρ vx vy Q er r1 r2 k => by
  cases r1; cases r2
  exact ⟨s, t, rfl, rfl, k.now er (.bl _)⟩⟩
theorem EC.leS {s t : Str} (ha : EV X a ρ (.str s) ρ1) (hb : EV X b ρ1 (.str t) ρ2) : EC X .LtE a b ρ (!decide (t.cps.toList < s.cps.toList)) ρ2 := ⟨_, _, _, _, op_le_str, ha, hb, fun pp F G Hd H σ ρ vx vy Q er r1 r2 k => by
  cases r1; cases r2
  exact ⟨s, t, rfl, rfl, k.now er (.bl _)⟩⟩
theorem EC.inSign {c : Nat} {t : Str} (ha : EV X a ρ (.str ⟨#[c]⟩) ρ1) (hb : EV X b ρ1 (.str t) ρ2) : EC X .In a b ρ (decide (c ∈ t.cps.toList)) ρ2 := ⟨_, _, _, _, op_in_sign, ha, hb, fun pp F G Hd H σ ρ vx vy Q er r1 r2 k => by
  cases r1; cases r2
  exact ⟨c, t, rfl, rfl, k.now er (.bl _)⟩⟩
/-- a op b op' c, all without effects -/
theorem EV.chain {op op' : CmpOp} {r r' : R2} (ho : OpR X (compareOp op) r) (ho' : OpR X (compareOp op') r') (ha : EV X a ρ x ρ) (hb : EV X b ρ y ρ) (hc : EV X c ρ z ρ) (h1 : ROp X r x y (.bl k)) (h2 : k = true → ROp X r' y z (.bl k'))
    (hm : lastMarks [op, op'] [b, c] = false := by with_unfolding_all rfl) : EV X (.Compare a [op, op'] [b, c] pos) ρ (.bl (k && k')) ρ :=
  .of (pe_chain ho ho' pe_c pe_c pe_c hm) fun pp F G Hd H σ Q er kk => ha pp F G Hd H σ _ er fun v Hd1 H1 e1 er1 r1 => hb pp F G Hd1 H1 σ _ er1 fun u Hd2 H2 e2 er2 r2 => h1 pp F G Hd2 H2 σ _ v u _ er2 (r1.mono e2) r2 fun v3 Hd3 H3 e3 er3 r3 => by
    cases r3
    refine ⟨_, rfl, ?_⟩
    cases k with
    | false => exact iteF (kk _ _ _ ((e1.trans e2).trans e3) er3 (.bl _))
    | true => exact iteT (hc pp F G Hd3 H3 σ _ er3 fun w4 Hd4 H4 e4 er4 r4 => h2 rfl pp F G Hd4 H4 σ _ u w4 _ er4 (r2.mono (e3.trans e4)) r4 (kk.up (((e1.trans e2).trans e3).trans e4)))
theorem ET.chain {op op' : CmpOp} {r r' : R2} (ho : OpR X (compareOp op) r) (ho' : OpR X (compareOp op') r') (ha : EV X a ρ x ρ) (hb : EV X b ρ y ρ) (hc : EV X c ρ z ρ) (h1 : ROp X r x y (.bl k)) (h2 : k = true → ROp X r' y z (.bl k'))
    (hm : lastMarks [op, op'] [b, c] = false := by with_unfolding_all rfl) : ET X (.Compare a [op, op'] [b, c] pos) ρ (k && k') ρ :=
  .of (pt_chain ho ho' pe_c pe_c pe_c hm) fun pp F G Hd H σ Q er kk => ha pp F G Hd H σ _ er fun v Hd1 H1 e1 er1 r1 => hb pp F G Hd1 H1 σ _ er1 fun u Hd2 H2 e2 er2 r2 => h1 pp F G Hd2 H2 σ _ v u _ er2 (r1.mono e2) r2 fun v3 Hd3 H3 e3 er3 r3 => by
    cases r3
    refine ⟨_, rfl, ?_⟩
    cases k with
    | false => exact iteF ⟨_, rfl, kk _ _ ((e1.trans e2).trans e3) er3⟩
    | true => exact iteT (hc pp F G Hd3 H3 σ _ er3 fun w4 Hd4 H4 e4 er4 r4 => h2 rfl pp F G Hd4 H4 σ _ u w4 _ er4 (r2.mono (e3.trans e4)) r4 fun v5 Hd5 H5 e5 er5 r5 => by
        cases r5
        exact ⟨_, rfl, kk _ _ ((((e1.trans e2).trans e3).trans e4).trans e5) er5⟩)
theorem RLe : ROp X (rI0 fun i j => .bl (decide (i ≤ j))) (.int i) (.int j) (.bl (decide (i ≤ j))) := .I0 fun _ => .bl _
theorem RLt : ROp X (rI0 fun i j => .bl (decide (i < j))) (.int i) (.int j) (.bl (decide (i < j))) := .I0 fun _ => .bl _
theorem EV.leLe {n : Int} (ha : EV X a ρ (.int i) ρ) (hb : EV X b ρ (.int j) ρ) (hc : EV X c ρ (.int n) ρ) (hm : lastMarks [.LtE, .LtE] [b, c] = false := by with_unfolding_all rfl) : EV X (.Compare a [.LtE, .LtE] [b, c] pos) ρ (.bl (decide (i ≤ j) && decide (j ≤ n))) ρ := .chain op_le op_le ha hb hc RLe (fun _ => RLe) hm
theorem ET.leLe {n : Int} (ha : EV X a ρ (.int i) ρ) (hb : EV X b ρ (.int j) ρ) (hc : EV X c ρ (.int n) ρ) (hm : lastMarks [.LtE, .LtE] [b, c] = false := by with_unfolding_all rfl) : ET X (.Compare a [.LtE, .LtE] [b, c] pos) ρ (decide (i ≤ j) && decide (j ≤ n)) ρ := .chain op_le op_le ha hb hc RLe (fun _ => RLe) hm
theorem EV.leLt {n : Int} (ha : EV X a ρ (.int i) ρ) (hb : EV X b ρ (.int j) ρ) (hc : EV X c ρ (.int n) ρ) (hm : lastMarks [.LtE, .Lt] [b, c] = false := by with_unfolding_all rfl) : EV X (.Compare a [.LtE, .Lt] [b, c] pos) ρ (.bl (decide (i ≤ j) && decide (j < n))) ρ := .chain op_le op_lt ha hb hc RLe (fun _ => RLt) hm
theorem ET.leLt {n : Int} (ha : EV X a ρ (.int i) ρ) (hb : EV X b ρ (.int j) ρ) (hc : EV X c ρ (.int n) ρ) (hm : lastMarks [.LtE, .Lt] [b, c] = false := by with_unfolding_all rfl) : ET X (.Compare a [.LtE, .Lt] [b, c] pos) ρ (decide (i ≤ j) && decide (j < n)) ρ := .chain op_le op_lt ha hb hc RLe (fun _ => RLt) hm
theorem RLeS {s t : Str} : ROp X (fun x y H Q => ∃ i j, x = .str i ∧ y = .str j ∧ Q (.bl (!decide (j.cps.toList < i.cps.toList))) H) (.str s) (.str t) (.bl (!decide (t.cps.toList < s.cps.toList))) := fun pp F G Hd H σ ρ vx vy Q er r1 r2 k => by
  cases r1; cases r2
  exact ⟨s, t, rfl, rfl, k.now er (.bl _)⟩
theorem RLtS {s t : Str} : ROp X (fun x y H Q => ∃ i j, x = .str i ∧ y = .str j ∧ Q (.bl (decide (i.cps.toList < j.cps.toList))) H) (.str s) (.str t) (.bl (decide (s.cps.toList < t.cps.toList))) := fun pp F G Hd H σ ρ vx vy Q er r1 r2 k => by
  cases r1; cases r2
  exact ⟨s, t, rfl, rfl, k.now er (.bl _)⟩
theorem EV.leLeS {s t u : Str} (ha : EV X a ρ (.str s) ρ) (hb : EV X b ρ (.str t) ρ) (hc : EV X c ρ (.str u) ρ) (hm : lastMarks [.LtE, .LtE] [b, c] = false := by with_unfolding_all rfl) :
    EV X (.Compare a [.LtE, .LtE] [b, c] pos) ρ (.bl ((!decide (t.cps.toList < s.cps.toList)) && !decide (u.cps.toList < t.cps.toList))) ρ := .chain op_le_str op_le_str ha hb hc RLeS (fun _ => RLeS) hm
theorem EV.ltLtS {s t u : Str} (ha : EV X a ρ (.str s) ρ) (hb : EV X b ρ (.str t) ρ) (hc : EV X c ρ (.str u) ρ) (hm : lastMarks [.Lt, .Lt] [b, c] = false := by with_unfolding_all rfl) :
    EV X (.Compare a [.Lt, .Lt] [b, c] pos) ρ (.bl (decide (s.cps.toList < t.cps.toList) && decide (t.cps.toList < u.cps.toList))) ρ := .chain op_lt_str op_lt_str ha hb hc RLtS (fun _ => RLtS) hm

/-! ### tests -/
theorem ET.val (h : EV X e ρ (.bl k) ρ') (he : ∀ whole, isTrue e X.env whole = (do let v ← whole; standAt e.pos; holding [v] (truthy v)) := by intro _; rfl) : ET X e ρ k ρ' :=
  .of (pt_val pe_c he) fun pp F G Hd H σ Q er kk => h pp F G Hd H σ _ er fun v Hd1 H1 e1 er1 r1 => by
    cases r1
    exact ⟨_, rfl, kk _ _ e1 er1⟩
theorem ET.not (h : ET X a ρ k ρ') : ET X (.UnaryOp .Not a pos) ρ (!k) ρ' := .of (pt_not pt_c) fun pp F G Hd H σ Q er kk => h pp F G Hd H σ _ er kk
theorem ET.w (h : EW X e ρ k ρ') : ET X e ρ k ρ' := .of (PW.pt pw_c) fun pp F G Hd H σ Q er kk => h pp F G Hd H σ _ er kk
theorem EW.and1 (h : ET X a ρ k ρ') : EW X (.BoolOp .And [a] pos) ρ k ρ' := .of (pw_and1 pt_c) fun pp F G Hd H σ Q er kk => h pp F G Hd H σ _ er kk
theorem EW.or1 (h : ET X a ρ k ρ') : EW X (.BoolOp .Or [a] pos) ρ k ρ' := .of (pw_or1 pt_c) fun pp F G Hd H σ Q er kk => h pp F G Hd H σ _ er kk
theorem EW.and (h : ET X a ρ k ρ) (h2 : k = true → EW X (.BoolOp .And (b :: rest) pos) ρ k' ρ) : EW X (.BoolOp .And (a :: b :: rest) pos) ρ (k && k') ρ := .of (pw_and pt_c pw_c) fun pp F G Hd H σ Q er kk => h pp F G Hd H σ _ er fun Hd1 H1 e1 er1 => by
  cases k with
  | false => exact iteF (kk _ _ e1 er1)
  | true => exact iteT (h2 rfl pp F G Hd1 H1 σ _ er1 fun Hd2 H2 e2 er2 => kk _ _ (e1.trans e2) er2)
theorem EW.or (h : ET X a ρ k ρ) (h2 : k = false → EW X (.BoolOp .Or (b :: rest) pos) ρ k' ρ) : EW X (.BoolOp .Or (a :: b :: rest) pos) ρ (k || k') ρ := .of (pw_or pt_c pw_c) fun pp F G Hd H σ Q er kk => h pp F G Hd H σ _ er fun Hd1 H1 e1 er1 => by
  cases k with
  | true => exact iteT (kk _ _ e1 er1)
  | false => exact iteF (h2 rfl pp F G Hd1 H1 σ _ er1 fun Hd2 H2 e2 er2 => kk _ _ (e1.trans e2) er2)
theorem EV.not (h : EV X a ρ (.bl k) ρ') : EV X (.UnaryOp .Not a pos) ρ (.bl (!k)) ρ' := .of (pe_not pe_c) fun pp F G Hd H σ Q er kk => h pp F G Hd H σ _ er fun v Hd1 H1 e1 er1 r1 => by
  cases r1
  exact ⟨_, rfl, kk _ _ _ e1 er1 (.bl _)⟩
theorem EV.one {op : BoolOp} (h : EV X a ρ d ρ') : EV X (.BoolOp op [a] pos) ρ d ρ' := .of (pe_one pe_c) fun pp F G Hd H σ Q er kk => h pp F G Hd H σ _ er kk
theorem EV.and (h : EV X a ρ (.bl k) ρ) (h2 : k = true → EV X (.BoolOp .And (b :: rest) pos) ρ (.bl k') ρ) : EV X (.BoolOp .And (a :: b :: rest) pos) ρ (.bl (k && k')) ρ := .of (pe_and pe_c pe_c) fun pp F G Hd H σ Q er kk => h pp F G Hd H σ _ er fun v Hd1 H1 e1 er1 r1 => by
  cases r1
  refine ⟨_, rfl, ?_⟩
  cases k with
  | false => exact iteF (kk _ _ _ e1 er1 (.bl _))
  | true => exact iteT (h2 rfl pp F G Hd1 H1 σ _ er1 (KE.up kk e1))
theorem EV.or (h : EV X a ρ (.bl k) ρ) (h2 : k = false → EV X (.BoolOp .Or (b :: rest) pos) ρ (.bl k') ρ) : EV X (.BoolOp .Or (a :: b :: rest) pos) ρ (.bl (k || k')) ρ := .of (pe_or pe_c pe_c) fun pp F G Hd H σ Q er kk => h pp F G Hd H σ _ er fun v Hd1 H1 e1 er1 r1 => by
  cases r1
  refine ⟨_, rfl, ?_⟩
  cases k with
  | true => exact iteT (kk _ _ _ e1 er1 (.bl _))
  | false => exact iteF (h2 rfl pp F G Hd1 H1 σ _ er1 (KE.up kk e1))
theorem EV.ifE (h : ET X c ρ k ρ1) (h1 : k = true → EV X a ρ1 d ρ2) (h2 : k = false → EV X b ρ1 d ρ2) : EV X (.IfExp c a b pos) ρ d ρ2 := .of (pe_ifExp pt_c pe_c pe_c) fun pp F G Hd H σ Q er kk => h pp F G Hd H σ _ er fun Hd1 H1 e1 er1 => by
  cases k with
  | true => exact iteT (h1 rfl pp F G Hd1 H1 σ _ er1 (KE.up kk e1))
  | false => exact iteF (h2 rfl pp F G Hd1 H1 σ _ er1 (KE.up kk e1))
theorem EV.ifC (h : ET X c ρ k ρ1) (h1 : k = true → EV X a ρ1 d1 ρ2) (h2 : k = false → EV X b ρ1 d2 ρ2) : EV X (.IfExp c a b pos) ρ (if k = true then d1 else d2) ρ2 :=
  .ifE h (fun e => by rw [if_pos e]; exact h1 e) fun e => by rw [if_neg (by rw [e]; exact Bool.false_ne_true)]; exact h2 e

/-! ### a list of one's own, looked at -/
def noOwn (ρ : List En) : List En := ρ.map fun e => if isOwn e = true then .un else e
theorem ER.bare {P : Program} {w : World} {K : PySem.W.Frag} {pp : Option Addr} {F G Hd H : Hp} {σ : L2.St} (er : ER P w K pp F G Hd H σ ρ) : ER P w K pp H Hd Hd H σ (noOwn ρ) where
  pt := er.pt
  fr := Ex.refl _
  gd := Ex.refl _
  sb := er.sb
  sep := fun _ _ h => h
  len := by unfold Rw.noOwn; rw [List.length_map]; exact er.len
  sl := fun i e h => by
    unfold Rw.noOwn at h
    rw [List.getElem?_map] at h
    cases q : ρ[i]? with
    | none => rw [q] at h; cases h
    | some u =>
      rw [q] at h
      obtain ⟨x, z1, z2⟩ := er.sl i u q
      have h' : (if isOwn u = true then En.un else u) = e := Option.some.inj h
      refine ⟨x, z1, ?_⟩
      cases u with
      | un => subst h'; exact z2
      | dat d => subst h'; exact z2
      | ol ds => subst h'; trivial
      | od ds => subst h'; trivial
      | ob oo => subst h'; trivial
  ow := fun i j e e' a h1 _ o1 _ _ _ => by
    unfold Rw.noOwn at h1
    rw [List.getElem?_map] at h1
    cases q : ρ[i]? with
    | none => rw [q] at h1; cases h1
    | some u =>
      rw [q] at h1
      have h' : (if isOwn u = true then En.un else u) = e := Option.some.inj h1
      by_cases hu : isOwn u = true
      · rw [if_pos hu] at h'; subst h'; cases o1
      · rw [if_neg hu] at h'; subst h'; exact absurd o1 hu
/-- an entry of one's own stands among the data while an expression without effects is told -/
theorem ER.lend {P : Program} {w : World} {K : PySem.W.Frag} {pp : Option Addr} {F G Hd H : Hp} {σ : L2.St} {i : Nat} (er : ER P w K pp F G Hd H σ ρ) (h : ρ[i]? = some (.ol ds)) :
    ∃ Hd1, ER P w K pp H Hd1 Hd1 H σ ((noOwn ρ).set i (.dat (.lst ds))) := by
  obtain ⟨y, h1, a, xs, rfl, hF, hHd, hH, r⟩ := er.sl i _ h
  have en := er.bare
  have ed : Ex Hd (upd Hd a (.lst xs)) := Ex.new hHd
  have hl : i < (Rw.noOwn ρ).length := by unfold Rw.noOwn; rw [List.length_map]; exact (List.getElem?_eq_some_iff.mp h).1
  refine ⟨upd Hd a (.lst xs), er.pt, Ex.refl _, Ex.refl _, fun b u e => ?_, fun _ _ z => z, by rw [List.length_set]; exact en.len, fun j e g => ?_, fun j k e e' b g1 g2 o1 o2 s1 s2 => ?_⟩
  · by_cases hb : b = a
    · subst hb; rw [upd_same] at e; cases e; exact .inl hH
    · rw [upd_ne hb] at e; exact er.sb b u e
  · by_cases hj : i = j
    · subst hj
      rw [List.getElem?_set_self hl] at g
      cases g
      exact ⟨_, h1, _, rfl, .lst upd_same (r.mono ed)⟩
    · rw [List.getElem?_set_ne hj] at g
      obtain ⟨x, z1, z2⟩ := en.sl j e g
      refine ⟨x, z1, ?_⟩
      cases e with
      | un => trivial
      | dat d => obtain ⟨v, e1, r'⟩ := z2; exact ⟨v, e1, r'.mono ed⟩
      | ol ds' => obtain ⟨b, ys, e1, kF, kHd, kH, r'⟩ := z2; rw [kF] at kH; cases kH
      | od kvs => obtain ⟨b, ys, e1, kF, kHd, kH, r'⟩ := z2; rw [kF] at kH; cases kH
      | ob oo => obtain ⟨b, e1, kF, kHd, kH⟩ := z2; rw [kF] at kH; cases kH
  · by_cases hj : i = j
    · subst hj
      rw [List.getElem?_set_self hl] at g1
      cases g1; cases o1
    · by_cases hk : i = k
      · subst hk
        rw [List.getElem?_set_self hl] at g2
        cases g2; cases o2
      · rw [List.getElem?_set_ne hj] at g1
        rw [List.getElem?_set_ne hk] at g2
        exact en.ow j k e e' b g1 g2 o1 o2 s1 s2
theorem EV.lend {n : Nat} (h : ρ[n]? = some (.ol ds)) (hv : EV X e ((noOwn ρ).set n (.dat (.lst ds))) d ρ1) (hs : scal d = true) : EV X e ρ d ρ := fun pp F G Hd H σ Q er k => by
  obtain ⟨Hd1, er1⟩ := er.lend h
  exact hv pp H Hd1 Hd1 H σ Q er1 fun v Hd2 H2 e2 er2 r2 => k v Hd H2 (Ex.refl _) (er.grow er2.fr) (r2.scal hs)
theorem ET.lend {n : Nat} (h : ρ[n]? = some (.ol ds)) (hv : ET X e ((noOwn ρ).set n (.dat (.lst ds))) k ρ1) : ET X e ρ k ρ := fun pp F G Hd H σ Q er kk => by
  obtain ⟨Hd1, er1⟩ := er.lend h
  exact hv pp H Hd1 Hd1 H σ Q er1 fun Hd2 H2 e2 er2 => kk Hd H2 (Ex.refl _) (er.grow er2.fr)
end
end Rw
namespace Rw
open PySem PySem.Spec PyProof.Rows L2

/-! ### t[::-1] of a tuple -/
section
open HT
variable {prog : Program} {w : World} {A : Around} {E : Value → Shared → Prop} {s : Shared}
theorem adjust_rev (n : Nat) : Builtin.Slice.sliceAdjust none none (-1) (n : Int) = ((n : Int) - 1, -1) := rfl
theorem places_rev (n : Nat) : Builtin.Slice.slicePlaces ((n : Int) - 1) (-1) (-1) = n := by
  show (if (-1 : Int) > 0 then _ else (if (n : Int) - 1 > -1 then ((n : Int) - 1 - -1 - 1) / (- -1) + 1 else 0)).toNat = n
  rw [if_neg (by decide)]
  by_cases h : (n : Int) - 1 > -1
  · rw [if_pos h]
    have e : ((n : Int) - 1 - -1 - 1) / (- -1) = (n : Int) - 1 := by
      rw [show (- -1 : Int) = 1 by decide, Int.ediv_one]
      omega
    rw [e]
    omega
  · rw [if_neg h]
    omega
theorem sliceApplied_rev {sl : Addr} {vl vu vs : Value} {n : Nat} {Q : Int × Int × Nat → Shared → Prop} (hs : s.heap.IsSliceOf sl vl vu vs) (pl : IsPart vl none) (pu : IsPart vu none) (ps : IsPart vs (some (-1)))
    (h : Q ((n : Int) - 1, -1, n) s) : wpAny (model prog w) A (Builtin.Slice.sliceApplied (.ref sl) (pure (n : Int))) Q E s := by
  obtain ⟨os, hos, hcs, hds⟩ := id hs
  unfold Builtin.Slice.sliceApplied Builtin.Slice.sliceFields
  refine wpAny_bind (wpAny_bind (wpAny_field hos hds (x := vl) rfl (wpAny_bind (wpAny_field hos hds (x := vu) rfl (wpAny_bind (wpAny_field hos hds (x := vs) rfl (wpAny_pure ?_)))))))
  refine wpAny_bind (slicePart_ ps ?_)
  show wpAny _ _ (if ((-1 : Int) == 0) = true then _ else _) _ _ s
  rw [if_neg (by decide)]
  refine wpAny_bind (slicePart_ pl (wpAny_bind (slicePart_ pu (wpAny_bind (wpAny_pure ?_)))))
  show wpAny _ _ (match Builtin.Slice.sliceAdjust none none (-1) (n : Int) with | (lo, hi) => pure (lo, (-1 : Int), Builtin.Slice.slicePlaces lo hi (-1))) _ _ s
  rw [adjust_rev n]
  show wpAny _ _ (pure ((n : Int) - 1, (-1 : Int), Builtin.Slice.slicePlaces ((n : Int) - 1) (-1) (-1))) _ _ s
  rw [places_rev]
  exact wpAny_pure h
theorem fmap_congr {α β : Type} (f g : α → Option β) : ∀ l : List α, (∀ a, a ∈ l → f a = g a) → l.filterMap f = l.filterMap g
  | [], _ => rfl
  | a :: l, h => by
    rw [List.filterMap_cons, List.filterMap_cons, h a List.mem_cons_self, fmap_congr f g l fun b hb => h b (List.mem_cons_of_mem _ hb)]
theorem pick_rev (xs : Array Value) : ((List.range xs.size).filterMap fun (m : Nat) => xs[((xs.size : Int) - 1 + (m : Int) * (-1)).toNat]?).toArray = xs.toList.reverse.toArray := by
  congr 1
  apply List.ext_getElem?
  intro i
  have key : ∀ (m : Nat), m < xs.size → xs[((xs.size : Int) - 1 + (m : Int) * (-1)).toNat]? = xs.toList.reverse[m]? := by
    intro m hm
    have e : ((xs.size : Int) - 1 + (m : Int) * (-1)).toNat = xs.size - 1 - m := by omega
    rw [e, List.getElem?_reverse (by simpa using hm), Array.length_toList, Array.getElem?_toList]
  have e2 : (List.range xs.size).filterMap (fun (m : Nat) => xs[((xs.size : Int) - 1 + (m : Int) * (-1)).toNat]?) = (List.range xs.size).filterMap (fun m => xs.toList.reverse[m]?) :=
    fmap_congr _ _ _ fun m hm => key m (List.mem_range.mp hm)
  rw [e2]
  have e3 : (List.range xs.size).filterMap (fun m => xs.toList.reverse[m]?) = xs.toList.reverse := by
    have hl : xs.toList.reverse.length = xs.size := by simp
    rw [← hl]
    generalize xs.toList.reverse = l
    clear key e2 hl
    induction l with
    | nil => rfl
    | cons a r ih =>
      rw [List.length_cons, List.range_succ_eq_map, List.filterMap_cons]
      show a :: (List.filterMap (fun m => (a :: r)[m]?) (List.map Nat.succ (List.range r.length))) = a :: r
      rw [List.filterMap_map]
      congr 1
  rw [e3]
theorem getItem_tuple_rev {t sl : Addr} {items : Array Value} {vl vu vs : Value} {Q : Value → Shared → Prop} (ht : IsTup s.heap t items) (hs : s.heap.IsSliceOf sl vl vu vs) (pl : IsPart vl none) (pu : IsPart vu none) (ps : IsPart vs (some (-1)))
    (h : Q (.ref s.heap.objs.size) { s with heap := s.heap.push { cls := .type "tuple", data := .seq items.toList.reverse.toArray } })
    (hsz : items.size ≤ sizeLine) : wpAny (model prog w) A (getItem (.ref t) (.ref sl)) Q E s := by
  have htake : sizeOk (.seq items.toList.reverse.toArray) := by
    show items.toList.reverse.toArray.size ≤ sizeLine
    rw [List.size_toArray, List.length_reverse, Array.length_toList]
    exact hsz
  obtain ⟨os, hos, hcs, hds⟩ := id hs
  have hTs : s.TypeIs (.ref sl) "slice" := ⟨os, hos, hcs⟩
  unfold getItem
  try with_reducible refine wpAny_holding ?_
  first | refine wpAny_bind (wpAny_pure ?_) | skip
  refine wpAny_bind (wpAny_sequenceKey ht.typeIs (by decide) ?_)
  refine wpAny_bind (wpAny_callSpecial?_slot (name := Str.ofString "__getitem__") ht.typeIs PyProof.Rows.slot_tuple_getitem
    (wpAny_call_entry PyProof.Rows.slot_tuple_getitem ht.typeIs entry_tuple_getitem ?_ (args_tuple_getitem _ _)))
  show wpAny _ _ (Builtin.Tuple.tupleItemsOf (.ref t) >>= _) _ _ s
  refine wpAny_bind (tupleItemsOf_ ht ?_)
  refine wpAny_bind (wpAny_typeOf hTs ?_)
  rw [if_pos (by decide)]
  refine wpAny_bind (sliceApplied_rev hs pl pu ps ?_)
  have hno : ¬ (((items.size : Int) - 1 == 0 && (-1 : Int) == 1 && items.size == items.size) = true) := by
    intro q
    rw [Bool.and_eq_true, Bool.and_eq_true] at q
    exact absurd q.1.2 (by decide)
  show wpAny _ _ (if ((items.size : Int) - 1 == 0 && (-1 : Int) == 1 && items.size == items.size) = true then _ else _) _ _ s
  rw [if_neg hno, pick_rev]
  first
    | exact wpAny_bind (m := Builtin.Tuple.tupleExact _) (wpAny_newObj_type (wpAny_pure ⟨_, rfl, wpAny_pure h⟩) htake)
    | exact wpAny_bind (m := Builtin.Tuple.tupleExact _) (wpAny_newObj_type (wpAny_bind (wpAny_pure (wpAny_pure ⟨_, rfl, wpAny_pure h⟩))) htake)
    | exact wpAny_bind (wpAny_bind (m := Builtin.Tuple.tupleExact _) (wpAny_newObj_type (wpAny_pure (wpAny_pure ⟨_, rfl, wpAny_pure h⟩)) htake))
    | exact wpAny_bind (wpAny_bind (m := Builtin.Tuple.tupleExact _) (wpAny_newObj_type (wpAny_pure ⟨_, rfl, wpAny_pure h⟩) htake))
end
section
variable {X : Cx}
def tRevT (K : PySem.W.Frag) (te : TE) : TE := fun σ H Q => te σ H fun x H1 => ∃ a xs, x = .ref a ∧ SqT K H1 a xs ∧ ∀ p, H1 p = none → Q (.ref p) (upd H1 p (.tup xs.reverse))
theorem pe_revT {e : Expr} {te : TE} {k : Nat} {p1 p2 p3 pos : Pos} (he : PE X e te) : PE X (.Subscript e (.Slice none none (some (.UnaryOp .USub (.Constant (.int 1) k p1) p2)) p3) pos) (tRevT X.K te) := by
  refine ⟨fun pins s σ H Q I h => ?_⟩
  refine Subscript_ (thn (he.run pins s σ H _ I h) fun v s1 ⟨x, H1, I1, r1, q1⟩ => ?_)
  obtain ⟨a, xs, ex, hx, q⟩ := q1
  subst ex
  cases r1
  have hst : PO X (some (.UnaryOp .USub (.Constant (.int 1) k p1) p2)) (tPart (tUn (rU fun i => .int (-i)) (tC (.int 1)))) := po_some (pe_un un_neg pe_int)
  refine wpAny_Slice (thn (po_none.run pins s1 σ H1 (fun o H2 => o = none ∧ H2 = H1) I1 ⟨rfl, rfl⟩) fun vl s2 ⟨l, H2, I2, pl, el, e2⟩ => ?_)
  subst el e2
  refine thn (po_none.run pins s2 σ H2 (fun o H3 => o = none ∧ H3 = H2) I2 ⟨rfl, rfl⟩) fun vu s3 ⟨u, H3, I3, pu, eu, e3⟩ => ?_
  subst eu e3
  refine thn (hst.run pins s3 σ H3 (fun o H4 => o = some (-1) ∧ H4 = H3) I3 ⟨1, rfl, -1, rfl, rfl, rfl⟩) fun vs s4 ⟨o, H4, I4, ps, eo, e4⟩ => ?_
  subst eo e4
  have I5 : Inv X pins σ H4 { s4 with heap := s4.heap.push { cls := .type "slice", data := .fields #[vl, vu, vs] } } := I4.kept (t' := s4.toks) fun b ob q => Heap.get?_push_of_some _ q
  obtain ⟨its, r, ht, hz⟩ := I5.tuple hx
  have hlen := r.length
  show wpAny (model X.prog X.w) X.A (subscriptTail e (.Slice none none (some (.UnaryOp .USub (.Constant (.int 1) k p1) p2)) p3) (.ref a) (.ref s4.heap.objs.size)) (EP X pins σ Q) X.xe { s4 with heap := s4.heap.push { cls := .type "slice", data := .fields #[vl, vu, vs] } }
  refine tail_any (ops := [.ref a, .ref s4.heap.objs.size]) ht.typeIs (PyProof.Rows.slot_tuple_getitem.lookup) ?_ (by with_unfolding_all rfl)
  refine getItem_tuple_rev ht (Heap.IsSliceOf.new _ vl vu vs) pl pu ps ?_ (by rw [List.size_toArray]; omega)
  refine ⟨.ref _, _, I5.laid (t' := s4.toks) (o := .tup xs.reverse) (fun b ob q => Heap.get?_push_of_some _ q) (Nat.le_refl _) ?_, rfl, q _ (I5.hok.fresh (Nat.le_refl _))⟩
  exact ⟨by rw [List.length_reverse]; exact hz, _, r.reverse, ⟨_, Heap.get?_push_size _ rfl, rfl, _, rfl⟩⟩
end

section
variable {X : Cx} {ρ ρ' ρ1 ρ2 ρ3 : List En} {d d1 d2 d3 x y z : Dt} {e a b c : Expr} {es rest : List Expr} {pos p p2 : Pos} {ds xs ys : List Dt} {k k' : Bool} {i j : Int} {n m : Nat}
theorem EV.rev {q : Nat} {p1 p2 p3 : Pos} (ha : EV X e ρ (.tup ds) ρ1) : EV X (.Subscript e (.Slice none none (some (.UnaryOp .USub (.Constant (.int 1) q p1) p2)) p3) pos) ρ (.tup ds.reverse) ρ1 :=
  .of (pe_revT pe_c) fun pp F G Hd H σ Q er k => ha pp F G Hd H σ _ er fun v Hd1 H1 e1 er1 r1 => by
    cases r1 with
    | tup h1 l1 => exact ⟨_, _, rfl, er1.sb.sqt h1, fun p hp => (k.up e1).new er1 hp (.tup (.inl (.inl upd_same)) (l1.rev.mono (Ex.new (er1.fresh hp))))⟩

/-! ### subscripts -/
theorem EV.ix {r : R2} (hr : L2.IxR X r) (ha : EV X a ρ x ρ1) (hb : EV X b ρ1 y ρ2) (h : ROp X r x y d) (hs : PlainIx b := by exact fun _ _ => rfl) : EV X (.Subscript a b pos) ρ d ρ2 :=
  .of (pe_ix hr pe_c pe_c hs) fun pp F G Hd H σ Q er k => ha pp F G Hd H σ _ er fun v Hd1 H1 e1 er1 r1 => hb pp F G Hd1 H1 σ _ er1 fun u Hd2 H2 e2 er2 r2 => h pp F G Hd2 H2 σ _ v u Q er2 (r1.mono e2) r2 (k.up (e1.trans e2))
theorem atI_rep {P : Program} {w : World} {K : PySem.W.Frag} {H : Hp} {vs : List V} {ds : List Dt} {i : Int} {d : Dt} (r : RepL P w K H vs ds) (h : atI ds i = some d) : ∃ v, atI vs i = some v ∧ Rep P w K H v d := by
  unfold atI at h ⊢
  rw [← r.length] at h
  cases q : ixN vs.length i with
  | none => rw [q] at h; cases h
  | some j =>
    rw [q] at h
    obtain ⟨v, h1, h2⟩ := r.get (show ds[j]? = some d from h)
    exact ⟨v, h1, h2⟩
theorem EV.ixL (ha : EV X a ρ (.lst ds) ρ1) (hb : EV X b ρ1 (.int i) ρ2) (h : atI ds i = some d) (hs : PlainIx b := by exact fun _ _ => rfl) : EV X (.Subscript a b pos) ρ d ρ2 :=
  .ix ix_list ha hb (fun pp F G Hd H σ ρ vx vy Q er r1 r2 k => by
    cases r2
    cases r1 with
    | lst h1 l1 =>
      obtain ⟨v, e, r⟩ := atI_rep l1 h
      exact ⟨_, _, _, v, rfl, rfl, .of (er.sb.exact h1 rfl), e, k.now er r⟩) hs
theorem EV.ixT (ha : EV X a ρ (.tup ds) ρ1) (hb : EV X b ρ1 (.int i) ρ2) (h : atI ds i = some d) (hs : PlainIx b := by exact fun _ _ => rfl) : EV X (.Subscript a b pos) ρ d ρ2 :=
  .ix ix_tup ha hb (fun pp F G Hd H σ ρ vx vy Q er r1 r2 k => by
    cases r2
    cases r1 with
    | tup h1 l1 =>
      obtain ⟨v, e, r⟩ := atI_rep l1 h
      exact ⟨_, _, _, v, rfl, rfl, er.sb.sqt h1, e, k.now er r⟩) hs
theorem EV.ixS {s : Str} {c : Nat} (ha : EV X a ρ (.str s) ρ1) (hb : EV X b ρ1 (.int i) ρ2) (hz : s.length ≤ sizeLine) (h : atI s.cps.toList i = some c) (hs : PlainIx b := by exact fun _ _ => rfl) : EV X (.Subscript a b pos) ρ (.str ⟨#[c]⟩) ρ2 :=
  .ix ix_str ha hb (fun pp F G Hd H σ ρ vx vy Q er r1 r2 k => by
    cases r2
    cases r1
    exact ⟨s, i, c, rfl, rfl, hz, h, k.now er (.str _)⟩) hs
/-- an item of a list of one's own -/
theorem EV.ixO {q : Nat} {x : Str} {px : Pos} (hx : ρ[q]? = some (.ol ds)) (hb : EV X b ρ (.int i) ρ) (h : atI ds i = some d) (hN : X.N[q]? = some x := by rfl) (hv : Vis X.env.scope x := by first | exact Or.inl rfl | exact Or.inr (Or.inl rfl) | exact Or.inr (Or.inr rfl)) (hd : (x == ("__debug__" : Str)) = false := by decide)
    (hcd : (x == ("__classdict__" : Str)) = false := by decide) (hs : PlainIx b := by exact fun _ _ => rfl) : EV X (.Subscript (.Name x px) b pos) ρ d ρ :=
  .of (pe_ix ix_list (pe_var hN hv hd hcd) pe_c hs) fun pp F G Hd H σ Q er k => by
    obtain ⟨y, h1, a, xs, rfl, hF, hHd, hH, r⟩ := er.sl q _ hx
    refine ⟨.ref a, h1, hb pp F G Hd H σ _ er fun u Hd2 H2 e2 er2 r2 => ?_⟩
    cases r2
    obtain ⟨y', h1', a', xs', e', hF', hHd', hH', r'⟩ := er2.sl q _ hx
    subst e'
    rw [h1] at h1'
    cases h1'
    obtain ⟨v, e, rr⟩ := atI_rep r' h
    exact ⟨_, _, _, v, rfl, rfl, .of hH', e, (k.up e2).now er2 rr⟩

/-! ### slices -/
theorem take_all {α : Type} {l : List α} {n : Nat} (h : l.length ≤ n) : l.take n = l := List.take_of_length_le h
theorem cut_from {α : Type} {l : List α} {n : Nat} : (l.drop (HT.sIx l.length 0 (some (n : Int)))).take (HT.sIx l.length l.length none - HT.sIx l.length 0 (some (n : Int))) = l.drop n := by
  rw [HT.sIx_nat, HT.sIx_none]
  by_cases h : n ≤ l.length
  · rw [Nat.min_eq_left h]
    exact take_all (by rw [List.length_drop]; omega)
  · rw [Nat.min_eq_right (by omega), List.drop_of_length_le (Nat.le_refl _), List.drop_of_length_le (by omega), List.take_nil]
theorem cut_to {α : Type} {l : List α} {n : Nat} : (l.drop (HT.sIx l.length 0 none)).take (HT.sIx l.length l.length (some (n : Int)) - HT.sIx l.length 0 none) = l.take n := by
  rw [HT.sIx_nat, HT.sIx_none, List.drop_zero, Nat.sub_zero]
  by_cases h : n ≤ l.length
  · rw [Nat.min_eq_left h]
  · rw [Nat.min_eq_right (by omega), take_all (Nat.le_refl _), take_all (by omega)]
theorem RSl (lo hi : Option Int) {pp : Option Addr} {F G Hd H : Hp} {σ : L2.St} {Q : VK} {v : V} (er : XR X pp F G Hd H σ ρ) (r : XRep X Hd v (.tup ds))
    (k : KE X pp F G Hd σ (.tup ((ds.drop (HT.sIx ds.length 0 lo)).take (HT.sIx ds.length ds.length hi - HT.sIx ds.length 0 lo))) ρ Q) : rSlA X.K v lo hi H Q := by
  cases r with
  | @tup a xs _ h1 l1 =>
    have hl := l1.length
    refine ⟨a, xs, rfl, er.sb.sqt h1, fun hw => ?_, fun _ p hp => ?_⟩
    · rw [hl] at hw
      rw [hw.1, hw.2, List.drop_zero, Nat.sub_zero, take_all (Nat.le_refl _)] at k
      exact k.now er (.tup h1 l1)
    · refine k.new er hp (.tup (.inl (.inl upd_same)) (RepL.mono (Ex.new (er.fresh hp)) ?_))
      unfold cutV
      rw [hl]
      exact (l1.drop _).take _
theorem EV.tFrom (ha : EV X a ρ (.tup ds) ρ1) (hb : EV X b ρ1 (.int (n : Int)) ρ2) : EV X (.Subscript a (.Slice (some b) none none p2) pos) ρ (.tup (ds.drop n)) ρ2 :=
  .of (pe_slice sl_tupA pe_c (po_some pe_c) po_none) fun pp F G Hd H σ Q er k => ha pp F G Hd H σ _ er fun v Hd1 H1 e1 er1 r1 => hb pp F G Hd1 H1 σ _ er1 fun u Hd2 H2 e2 er2 r2 => by
    cases r2
    refine ⟨_, rfl, RSl (some (n : Int)) none er2 (r1.mono e2) ?_⟩
    rw [cut_from]
    exact k.up (e1.trans e2)
theorem EV.tTo (ha : EV X a ρ (.tup ds) ρ1) (hb : EV X b ρ1 (.int (n : Int)) ρ2) : EV X (.Subscript a (.Slice none (some b) none p2) pos) ρ (.tup (ds.take n)) ρ2 :=
  .of (pe_slice sl_tupA pe_c po_none (po_some pe_c)) fun pp F G Hd H σ Q er k => ha pp F G Hd H σ _ er fun v Hd1 H1 e1 er1 r1 => hb pp F G Hd1 H1 σ _ er1 fun u Hd2 H2 e2 er2 r2 => by
    cases r2
    refine ⟨_, rfl, RSl none (some (n : Int)) er2 (r1.mono e2) ?_⟩
    rw [cut_to]
    exact k.up (e1.trans e2)
end
end Rw
namespace Rw
open PySem PySem.Spec PyProof.Rows L2

/-! ### data compared as wholes -/
mutual
def py : Dt → PyData
  | .non => .none
  | .bl b => .bool b
  | .int i => .int i
  | .str s => .str s
  | .lst xs => .list (pys xs)
  | .tup xs => .tuple (pys xs)
  | .dic _ => .none
  | .zon _ => .none
  | .fls _ => .none
def pys : List Dt → List PyData
  | [] => []
  | x :: xs => py x :: pys xs
end
mutual
def plain : Dt → Bool
  | .lst xs => plains xs
  | .tup xs => plains xs
  | .dic _ => false
  | .zon _ => false
  | .fls _ => false
  | .str s => (PyData.canLay0 (.str s))
  | _ => true
def plains : List Dt → Bool
  | [] => true
  | x :: xs => plain x && plains xs
end
mutual
/-- how deep a datum is -/
def dep : Dt → Nat
  | .lst xs => deps xs + 1
  | .tup xs => deps xs + 1
  | _ => 0
def deps : List Dt → Nat
  | [] => 0
  | x :: xs => max (dep x) (deps xs)
end
theorem pys_map (xs : List Dt) : pys xs = xs.map py := by
  induction xs with
  | nil => rfl
  | cons x xs ih => show py x :: pys xs = py x :: xs.map py; rw [ih]
theorem plains_all (xs : List Dt) : plains xs = xs.all plain := by
  induction xs with
  | nil => rfl
  | cons x xs ih => show (plain x && plains xs) = (plain x && xs.all plain); rw [ih]
mutual
theorem py_lay : ∀ d : Dt, plain d = true → (py d).canLay0 = true
  | .non, _ => rfl
  | .bl _, _ => rfl
  | .int _, _ => rfl
  | .str _, h => h
  | .lst xs, h => by simp only [py, PyData.canLay0]; exact pys_lay xs h
  | .tup xs, h => by simp only [py, PyData.canLay0]; exact pys_lay xs h
  | .dic _, h => nomatch h
  | .zon _, h => nomatch h
  | .fls _, h => nomatch h
theorem pys_lay : ∀ xs : List Dt, plains xs = true → PyData.canLayAll0 (pys xs) = true
  | [], _ => rfl
  | x :: xs, h => by simp only [pys, PyData.canLayAll0, py_lay x (Bool.and_eq_true_iff.mp h).1, pys_lay xs (Bool.and_eq_true_iff.mp h).2, Bool.and_self]
end
mutual
theorem py_depth : ∀ d : Dt, (py d).depth ≤ dep d
  | .non => by simp [py, PyData.depth]
  | .bl _ => by simp [py, PyData.depth]
  | .int _ => by simp [py, PyData.depth]
  | .str _ => by simp [py, PyData.depth]
  | .lst xs => by have := pys_depth xs; simp only [py, PyData.depth, dep]; omega
  | .tup xs => by have := pys_depth xs; simp only [py, PyData.depth, dep]; omega
  | .dic _ => by simp [py, PyData.depth]
  | .zon _ => by simp [py, PyData.depth]
  | .fls _ => by simp [py, PyData.depth]
theorem pys_depth : ∀ xs : List Dt, PyData.depthAll (pys xs) ≤ deps xs
  | [] => by simp [pys, PyData.depthAll]
  | x :: xs => by have h1 := py_depth x; have h2 := pys_depth xs; simp only [pys, PyData.depthAll, deps]; omega
end
theorem shaped_of {d : Dt} (p : plain d = true) (h : dep d ≤ 64) : SeqAt.shaped (py d) = true := by
  show ((py d).canLay0 && decide ((py d).depth ≤ 64)) = true
  rw [Bool.and_eq_true]
  exact ⟨py_lay d p, decide_eq_true (Nat.le_trans (py_depth d) h)⟩
section
variable {P : Program} {w : World} {K : PySem.W.Frag} {Hd H : Hp}
mutual
theorem Rep.dp (sb : Sub Hd H) : ∀ {v : V} {d : Dt}, Rep P w K Hd v d → plain d = true → Dp K H v (py d)
  | _, _, .non, _ => .non
  | _, _, .bl b, _ => .bl b
  | _, _, .int i, _ => .int i
  | _, _, .str s, _ => .str s
  | _, _, .lst h r, p => .lst (.of (sb.exact h rfl)) (RepL.dp sb r p)
  | _, _, .tup h r, p => .tup (sb.sqt h) (RepL.dp sb r p)
  | _, _, .dic _ _, p => nomatch p
  | _, _, .zon _ _, p => nomatch p
  | _, _, .fls _ _, p => nomatch p
theorem RepL.dp (sb : Sub Hd H) : ∀ {vs : List V} {ds : List Dt}, RepL P w K Hd vs ds → plains ds = true → DpAll K H vs (pys ds)
  | _, _, .nil, _ => .nil
  | _, _, .cons h r, p => .cons (Rep.dp sb h (Bool.and_eq_true_iff.mp p).1) (RepL.dp sb r (Bool.and_eq_true_iff.mp p).2)
end
end
/-- == of two data -/
def eqd (x y : Dt) : Bool := PyData.eqv (py x) (py y)
mutual
/-- no truth values within (True == 1) -/
def nobl : Dt → Bool
  | .bl _ => false
  | .lst xs => nobls xs
  | .tup xs => nobls xs
  | .dic _ => false
  | .zon _ => false
  | .fls _ => false
  | .str s => (PyData.canLay0 (.str s))
  | _ => true
def nobls : List Dt → Bool
  | [] => true
  | x :: xs => nobl x && nobls xs
end
mutual
theorem eqd_iff : ∀ x y : Dt, nobl x = true → nobl y = true → (eqd x y = true ↔ x = y)
  | .non, y, _, hy => by cases y <;> simp_all [eqd, py, PyData.eqv, nobl]
  | .bl b, y, hx, _ => by cases hx
  | .int i, y, _, hy => by cases y <;> simp_all [eqd, py, PyData.eqv, nobl]
  | .str s, y, _, hy => by cases y <;> simp_all [eqd, py, PyData.eqv, nobl]
  | .lst xs, y, hx, hy => by
    cases y with
    | lst ys =>
      have := eqds_iff xs ys hx hy
      simp only [eqd, py, PyData.eqv, Dt.lst.injEq]
      exact this
    | _ => simp_all [eqd, py, PyData.eqv, nobl]
  | .tup xs, y, hx, hy => by
    cases y with
    | tup ys =>
      have := eqds_iff xs ys hx hy
      simp only [eqd, py, PyData.eqv, Dt.tup.injEq]
      exact this
    | _ => simp_all [eqd, py, PyData.eqv, nobl]
  | .dic _, y, hx, _ => by cases hx
  | .zon _, y, hx, _ => by cases hx
  | .fls _, y, hx, _ => by cases hx
theorem eqds_iff : ∀ xs ys : List Dt, nobls xs = true → nobls ys = true → (PyData.eqvAll (pys xs) (pys ys) = true ↔ xs = ys)
  | [], [], _, _ => by simp [pys, PyData.eqvAll]
  | [], y :: ys, _, _ => by simp [pys, PyData.eqvAll]
  | x :: xs, [], _, _ => by simp [pys, PyData.eqvAll]
  | x :: xs, y :: ys, hx, hy => by
    have h1 := eqd_iff x y (Bool.and_eq_true_iff.mp hx).1 (Bool.and_eq_true_iff.mp hy).1
    have h2 := eqds_iff xs ys (Bool.and_eq_true_iff.mp hx).2 (Bool.and_eq_true_iff.mp hy).2
    simp only [pys, PyData.eqvAll, Bool.and_eq_true, List.cons.injEq, h2]
    exact and_congr_left fun _ => h1
end
theorem eqd_self {x : Dt} (h : nobl x = true) : eqd x x = true := (eqd_iff x x h h).mpr rfl
theorem eqd_ne {x y : Dt} (hx : nobl x = true) (hy : nobl y = true) (h : x ≠ y) : eqd x y = false := by
  cases q : eqd x y with
  | true => exact absurd ((eqd_iff x y hx hy).mp q) h
  | false => rfl
mutual
theorem plain_of : ∀ d : Dt, nobl d = true → plain d = true
  | .non, _ => rfl
  | .bl _, _ => rfl
  | .int _, _ => rfl
  | .str _, h => h
  | .lst xs, h => plains_of xs h
  | .tup xs, h => plains_of xs h
  | .dic _, h => h
  | .zon _, h => h
  | .fls _, h => h
theorem plains_of : ∀ xs : List Dt, nobls xs = true → plains xs = true
  | [], _ => rfl
  | x :: xs, h => by
    show (plain x && plains xs) = true
    rw [plain_of x (Bool.and_eq_true_iff.mp h).1, plains_of xs (Bool.and_eq_true_iff.mp h).2]
    rfl
end
theorem nobls_all (xs : List Dt) : nobls xs = xs.all nobl := by
  induction xs with
  | nil => rfl
  | cons x xs ih => show (nobl x && nobls xs) = (nobl x && xs.all nobl); rw [ih]

section
variable {X : Cx} {ρ ρ' ρ1 ρ2 ρ3 : List En} {d d1 d2 d3 x y z : Dt} {e a b c : Expr} {es rest : List Expr} {pos p p2 : Pos} {ds xs ys : List Dt} {k k' : Bool} {i j : Int} {n m r : Nat}
theorem EC.eqD (hr : Room r X.A) (ha : EV X a ρ x ρ1) (hb : EV X b ρ1 y ρ2) (h1 : plain x = true) (h2 : plain y = true) (h3 : dep x ≤ 64) (h4 : dep y ≤ 64) : EC X .Eq a b ρ (eqd x y) ρ2 := ⟨_, _, _, _, op_eqD hr.units, ha, hb, fun pp F G Hd H σ ρ vx vy Q er r1 r2 k =>
  ⟨_, _, r1.dp er.sb h1, r2.dp er.sb h2, shaped_of h1 h3, shaped_of h2 h4, k.now er (.bl _)⟩⟩
theorem EC.neD (hr : Room r X.A) (ha : EV X a ρ x ρ1) (hb : EV X b ρ1 y ρ2) (h1 : plain x = true) (h2 : plain y = true) (h3 : dep x ≤ 64) (h4 : dep y ≤ 64) : EC X .NotEq a b ρ (!eqd x y) ρ2 := ⟨_, _, _, _, op_neD hr.units, ha, hb, fun pp F G Hd H σ ρ vx vy Q er r1 r2 k =>
  ⟨_, _, r1.dp er.sb h1, r2.dp er.sb h2, shaped_of h1 h3, shaped_of h2 h4, k.now er (.bl _)⟩⟩
theorem units65 (hr : Room r X.A) : X.A.units + 65 < cLine := by have := hr.un; omega
/-- x in xs: data of any depth -/
def ind (x : Dt) (xs : List Dt) : Bool := xs.any fun z => eqd z x
theorem any_pys (x : Dt) (xs : List Dt) : ((pys xs).any fun z => PyData.eqv z (py x)) = ind x xs := by
  rw [pys_map, List.any_map]
  rfl
theorem EC.inD (hr : Room r X.A) (ha : EV X a ρ x ρ1) (hb : EV X b ρ1 (.lst ys) ρ2) (h1 : plain x = true) (h2 : plains ys = true) (h3 : dep x ≤ 64) (h4 : dep (.lst ys) ≤ 64) : EC X .In a b ρ (ind x ys) ρ2 := ⟨_, _, _, _, op_inD (units65 hr), ha, hb, fun pp F G Hd H σ ρ vx vy Q er r1 r2 k =>
  ⟨_, _, r1.dp er.sb h1, (r2.dp er.sb h2 : Dp _ _ _ (py (.lst ys))), shaped_of h1 h3, (shaped_of (d := .lst ys) h2 h4 : SeqAt.shaped (py (.lst ys)) = true), by
    rw [any_pys]
    exact k.now er (.bl _)⟩⟩
theorem EC.ninD (hr : Room r X.A) (ha : EV X a ρ x ρ1) (hb : EV X b ρ1 (.lst ys) ρ2) (h1 : plain x = true) (h2 : plains ys = true) (h3 : dep x ≤ 64) (h4 : dep (.lst ys) ≤ 64) : EC X .NotIn a b ρ (!ind x ys) ρ2 := ⟨_, _, _, _, op_notInD (units65 hr), ha, hb, fun pp F G Hd H σ ρ vx vy Q er r1 r2 k =>
  ⟨_, _, r1.dp er.sb h1, (r2.dp er.sb h2 : Dp _ _ _ (py (.lst ys))), shaped_of h1 h3, (shaped_of (d := .lst ys) h2 h4 : SeqAt.shaped (py (.lst ys)) = true), by
    rw [any_pys]
    exact k.now er (.bl _)⟩⟩
/-- a text in a tuple of texts -/
theorem RepL.strs {P : Program} {w : World} {K : PySem.W.Frag} {H : Hp} : ∀ {vs : List V} {ss : List Str}, RepL P w K H vs (ss.map .str) → vs = ss.map V.str
  | _, [], .nil => rfl
  | _, s :: ss, .cons (.str _) r => by rw [RepL.strs (ss := ss) r]; rfl
theorem RepL.ints {P : Program} {w : World} {K : PySem.W.Frag} {H : Hp} : ∀ {vs : List V} {ss : List Int}, RepL P w K H vs (ss.map .int) → vs = ss.map V.int
  | _, [], .nil => rfl
  | _, s :: ss, .cons (.int _) r => by rw [RepL.ints (ss := ss) r]; rfl
theorem RepL.bls {P : Program} {w : World} {K : PySem.W.Frag} {H : Hp} : ∀ {vs : List V} {ss : List Bool}, RepL P w K H vs (ss.map .bl) → vs = ss.map V.bl
  | _, [], .nil => rfl
  | _, s :: ss, .cons (.bl _) r => by rw [RepL.bls (ss := ss) r]; rfl
theorem RepL.of_ints {P : Program} {w : World} {K : PySem.W.Frag} {H : Hp} : ∀ (ss : List Int), RepL P w K H (ss.map V.int) (ss.map .int)
  | [] => .nil
  | s :: ss => .cons (.int s) (RepL.of_ints ss)
theorem RepL.of_strs {P : Program} {w : World} {K : PySem.W.Frag} {H : Hp} : ∀ (ss : List Str), RepL P w K H (ss.map V.str) (ss.map .str)
  | [] => .nil
  | s :: ss => .cons (.str s) (RepL.of_strs ss)
theorem flat_strs (ss : List Str) : (ss.map V.str).all flatV = true := by
  induction ss with
  | nil => rfl
  | cons s ss ih => exact ih
theorem inV_strs (s : Str) (ss : List Str) : inV (.str s) (ss.map V.str) = ss.contains s := by
  unfold inV
  rw [List.any_map]
  induction ss with
  | nil => rfl
  | cons t ss ih =>
    rw [List.any_cons, List.contains_cons, ih]
    show ((t == s) || _) = _
    rw [Bool.beq_comm]
theorem EC.inT {s : Str} {ss : List Str} (ha : EV X a ρ (.str s) ρ1) (hb : EV X b ρ1 (.tup (ss.map .str)) ρ2) : EC X .In a b ρ (ss.contains s) ρ2 := ⟨_, _, _, _, op_in_seq, ha, hb, fun pp F G Hd H σ ρ vx vy Q er r1 r2 k => by
  cases r1
  cases r2 with
  | tup h1 l1 =>
    have e := l1.strs
    subst e
    refine ⟨_, _, rfl, .inr (er.sb.sqt h1), rfl, flat_strs _, ?_⟩
    rw [if_neg Bool.false_ne_true, inV_strs]
    exact k.now er (.bl _)⟩
theorem EC.ninT {s : Str} {ss : List Str} (ha : EV X a ρ (.str s) ρ1) (hb : EV X b ρ1 (.tup (ss.map .str)) ρ2) : EC X .NotIn a b ρ (!ss.contains s) ρ2 := ⟨_, _, _, _, op_notIn_seq, ha, hb, fun pp F G Hd H σ ρ vx vy Q er r1 r2 k => by
  cases r1
  cases r2 with
  | tup h1 l1 =>
    have e := l1.strs
    subst e
    refine ⟨_, _, rfl, .inr (er.sb.sqt h1), rfl, flat_strs _, ?_⟩
    rw [if_pos rfl, inV_strs]
    exact k.now er (.bl _)⟩
theorem EC.inL {s : Str} {ss : List Str} (ha : EV X a ρ (.str s) ρ1) (hb : EV X b ρ1 (.lst (ss.map .str)) ρ2) : EC X .In a b ρ (ss.contains s) ρ2 := ⟨_, _, _, _, op_in_seq, ha, hb, fun pp F G Hd H σ ρ vx vy Q er r1 r2 k => by
  cases r1
  cases r2 with
  | lst h1 l1 =>
    have e := l1.strs
    subst e
    refine ⟨_, _, rfl, .inl (.of (er.sb.exact h1 rfl)), rfl, flat_strs _, ?_⟩
    rw [if_neg Bool.false_ne_true, inV_strs]
    exact k.now er (.bl _)⟩
theorem EC.ninL {s : Str} {ss : List Str} (ha : EV X a ρ (.str s) ρ1) (hb : EV X b ρ1 (.lst (ss.map .str)) ρ2) : EC X .NotIn a b ρ (!ss.contains s) ρ2 := ⟨_, _, _, _, op_notIn_seq, ha, hb, fun pp F G Hd H σ ρ vx vy Q er r1 r2 k => by
  cases r1
  cases r2 with
  | lst h1 l1 =>
    have e := l1.strs
    subst e
    refine ⟨_, _, rfl, .inl (.of (er.sb.exact h1 rfl)), rfl, flat_strs _, ?_⟩
    rw [if_pos rfl, inV_strs]
    exact k.now er (.bl _)⟩
theorem EV.addL (ha : EV X a ρ (.lst xs) ρ1) (hb : EV X b ρ1 (.lst ys) ρ2) (h : xs.length + ys.length ≤ sizeLine) : EV X (.BinOp a .Add b pos) ρ (.lst (xs ++ ys)) ρ2 :=
  .bin op_cat (fun pp F G Hd H σ ρ vx vy Q er r1 r2 k => by
    cases r1 with
    | lst h1 l1 =>
      cases r2 with
      | lst h2 l2 => exact ⟨_, _, _, _, rfl, rfl, er.sb.exact h1 rfl, er.sb.exact h2 rfl, by rw [l1.length, l2.length]; exact h, fun p hp => k.new er hp (.lst upd_same ((l1.append l2).mono (Ex.new (er.fresh hp))))⟩) ha hb

/-! ### calls of what is built in -/
def CD (X : Cx) (r : List V → Hp → VK → Prop) (ds : List Dt) (d : Dt) : Prop := ∀ pp F G Hd H σ ρ vs Q, XR X pp F G Hd H σ ρ → XRepL X Hd vs ds → KE X pp F G Hd σ d ρ Q → r vs H Q
theorem EV.callB {f : Str} {id : String} {r : List V → Hp → VK → Prop} (hc : CallR X (.builtin id) r) (hv : bootBuiltins f = some (.builtin id)) (hm : X.mg f = none) (ha : EA X (e :: es) ρ ds ρ') (hr : CD X r ds d) (hg : Gl X f := by rfl)
    (hn : f ≠ "__name__" := by decide) (hdb : (f == ("__debug__" : Str)) = false := by decide) (he : starEach (e :: es) X.env = (false, eval e X.env) :: starEach es X.env := by rfl) (hpl : (backTo pos (starEach es X.env)).any (·.1) = false := by rfl) :
    EV X (.Call (.Name f p) (e :: es) [] pos) ρ d ρ' :=
  .of (pe_callB hc hg hm hv pa_c hn hdb he hpl) fun pp F G Hd H σ Q er k => ha pp F G Hd H σ _ er fun vs Hd1 H1 e1 er1 r1 => hr pp F G Hd1 H1 σ _ vs Q er1 r1 (k.up e1)
theorem EV.callTy {f : Str} {T : String} {r : List V → Hp → VK → Prop} (hc : CallR X (.type T) r) (hv : bootBuiltins f = some (.type T)) (hm : X.mg f = none) (ha : EA X (e :: es) ρ ds ρ') (hr : CD X r ds d) (hg : Gl X f := by rfl)
    (hn : f ≠ "__name__" := by decide) (hdb : (f == ("__debug__" : Str)) = false := by decide) (he : starEach (e :: es) X.env = (false, eval e X.env) :: starEach es X.env := by rfl) (hpl : (backTo pos (starEach es X.env)).any (·.1) = false := by rfl) :
    EV X (.Call (.Name f p) (e :: es) [] pos) ρ d ρ' :=
  .of (pe_callTy hc hg hm hv pa_c hn hdb he hpl) fun pp F G Hd H σ Q er k => ha pp F G Hd H σ _ er fun vs Hd1 H1 e1 er1 r1 => hr pp F G Hd1 H1 σ _ vs Q er1 r1 (k.up e1)
theorem EV.lenL (hm : X.mg "len" = none) (ha : EV X e ρ (.lst ds) ρ') (hg : Gl X "len" := by rfl) (he : starEach (e :: []) X.env = (false, eval e X.env) :: starEach [] X.env := by rfl) : EV X (.Call (.Name "len" p) [e] [] pos) ρ (.int (ds.length : Int)) ρ' :=
  .callB call_len_seq PySem.boot_len hm (.one ha he) (fun pp F G Hd H σ ρ vs Q er r k => by
    obtain ⟨v, rfl, r1⟩ := r.one
    cases r1 with
    | lst h l =>
      refine ⟨_, _, rfl, .inl (.of (er.sb.exact h rfl)), ?_⟩
      rw [l.length]
      exact k.now er (.int _)) hg (by decide) (by decide) he (by rfl)
theorem EV.lenT (hm : X.mg "len" = none) (ha : EV X e ρ (.tup ds) ρ') (hg : Gl X "len" := by rfl) (he : starEach (e :: []) X.env = (false, eval e X.env) :: starEach [] X.env := by rfl) : EV X (.Call (.Name "len" p) [e] [] pos) ρ (.int (ds.length : Int)) ρ' :=
  .callB call_len_seq PySem.boot_len hm (.one ha he) (fun pp F G Hd H σ ρ vs Q er r k => by
    obtain ⟨v, rfl, r1⟩ := r.one
    cases r1 with
    | tup h l =>
      refine ⟨_, _, rfl, .inr (er.sb.sqt h), ?_⟩
      rw [l.length]
      exact k.now er (.int _)) hg (by decide) (by decide) he (by rfl)
theorem EV.lenS {s : Str} (hm : X.mg "len" = none) (ha : EV X e ρ (.str s) ρ') (hz : s.length ≤ sizeLine) (hg : Gl X "len" := by rfl) (he : starEach (e :: []) X.env = (false, eval e X.env) :: starEach [] X.env := by rfl) : EV X (.Call (.Name "len" p) [e] [] pos) ρ (.int (s.length : Int)) ρ' :=
  .callB call_len_str PySem.boot_len hm (.one ha he) (fun pp F G Hd H σ ρ vs Q er r k => by
    obtain ⟨v, rfl, r1⟩ := r.one
    cases r1
    exact ⟨_, rfl, hz, k.now er (.int _)⟩) hg (by decide) (by decide) he (by rfl)
theorem EV.all {bs : List Bool} (hc : X.calm = true) (hm : X.mg "all" = none) (ha : EV X e ρ (.lst (bs.map .bl)) ρ') (hg : Gl X "all" := by rfl) (he : starEach (e :: []) X.env = (false, eval e X.env) :: starEach [] X.env := by rfl) : EV X (.Call (.Name "all" p) [e] [] pos) ρ (.bl (bs.all id)) ρ' :=
  .callB (cr_all hc) (by decide +kernel) hm (.one ha he) (fun pp F G Hd H σ ρ vs Q er r k => by
    obtain ⟨v, rfl, r1⟩ := r.one
    cases r1 with
    | lst h l =>
      have e := l.bls
      subst e
      exact ⟨_, bs, rfl, .of (er.sb.exact h rfl), k.now er (.bl _)⟩) hg (by decide) (by decide) he (by rfl)
theorem EV.any {bs : List Bool} (hc : X.calm = true) (hm : X.mg "any" = none) (ha : EV X e ρ (.lst (bs.map .bl)) ρ') (hg : Gl X "any" := by rfl) (he : starEach (e :: []) X.env = (false, eval e X.env) :: starEach [] X.env := by rfl) : EV X (.Call (.Name "any" p) [e] [] pos) ρ (.bl (bs.any id)) ρ' :=
  .callB (cr_any hc) (by decide +kernel) hm (.one ha he) (fun pp F G Hd H σ ρ vs Q er r k => by
    obtain ⟨v, rfl, r1⟩ := r.one
    cases r1 with
    | lst h l =>
      have e := l.bls
      subst e
      exact ⟨_, bs, rfl, .of (er.sb.exact h rfl), k.now er (.bl _)⟩) hg (by decide) (by decide) he (by rfl)
theorem EV.sum {ns : List Int} (hc : X.calm = true) (hm : X.mg "sum" = none) (ha : EV X e ρ (.lst (ns.map .int)) ρ') (hg : Gl X "sum" := by rfl) (he : starEach (e :: []) X.env = (false, eval e X.env) :: starEach [] X.env := by rfl) : EV X (.Call (.Name "sum" p) [e] [] pos) ρ (.int ns.sum) ρ' :=
  .callB (cr_sum hc) (by decide +kernel) hm (.one ha he) (fun pp F G Hd H σ ρ vs Q er r k => by
    obtain ⟨v, rfl, r1⟩ := r.one
    cases r1 with
    | lst h l =>
      have e := l.ints
      subst e
      exact ⟨_, ns, rfl, .of (er.sb.exact h rfl), k.now er (.int _)⟩) hg (by decide) (by decide) he (by rfl)
theorem EV.abs (hm : X.mg "abs" = none) (ha : EV X e ρ (.int i) ρ') (hg : Gl X "abs" := by rfl) (he : starEach (e :: []) X.env = (false, eval e X.env) :: starEach [] X.env := by rfl) : EV X (.Call (.Name "abs" p) [e] [] pos) ρ (.int (if i < 0 then -i else i)) ρ' :=
  .callB call_abs (by decide +kernel) hm (.one ha he) (fun pp F G Hd H σ ρ vs Q er r k => by
    obtain ⟨v, rfl, r1⟩ := r.one
    cases r1
    exact ⟨_, rfl, k.now er (.int _)⟩) hg (by decide) (by decide) he (by rfl)
theorem EV.max2 (hc : X.calm = true) (hm : X.mg "max" = none) (ha : EA X [a, b] ρ [.int i, .int j] ρ') (hg : Gl X "max" := by rfl) (he : starEach (a :: [b]) X.env = (false, eval a X.env) :: starEach [b] X.env := by rfl) (hpl : (backTo pos (starEach [b] X.env)).any (·.1) = false := by rfl) :
    EV X (.Call (.Name "max" p) [a, b] [] pos) ρ (.int (if j > i then j else i)) ρ' :=
  .callB (call_max2 hc) (by decide +kernel) hm ha (fun pp F G Hd H σ ρ vs Q er r k => by
    obtain ⟨v, u, rfl, r1, r2⟩ := r.two
    cases r1
    cases r2
    exact ⟨_, _, rfl, k.now er (.int _)⟩) hg (by decide) (by decide) he hpl
theorem EV.min2 (hc : X.calm = true) (hm : X.mg "min" = none) (ha : EA X [a, b] ρ [.int i, .int j] ρ') (hg : Gl X "min" := by rfl) (he : starEach (a :: [b]) X.env = (false, eval a X.env) :: starEach [b] X.env := by rfl) (hpl : (backTo pos (starEach [b] X.env)).any (·.1) = false := by rfl) :
    EV X (.Call (.Name "min" p) [a, b] [] pos) ρ (.int (if j < i then j else i)) ρ' :=
  .callB (call_min2 hc) (by decide +kernel) hm ha (fun pp F G Hd H σ ρ vs Q er r k => by
    obtain ⟨v, u, rfl, r1, r2⟩ := r.two
    cases r1
    cases r2
    exact ⟨_, _, rfl, k.now er (.int _)⟩) hg (by decide) (by decide) he hpl
theorem EV.toInt (hm : X.mg "int" = none) (ha : EV X e ρ (.int i) ρ') (hg : Gl X "int" := by rfl) (he : starEach (e :: []) X.env = (false, eval e X.env) :: starEach [] X.env := by rfl) : EV X (.Call (.Name "int" p) [e] [] pos) ρ (.int i) ρ' :=
  .callTy call_int1 boot_int hm (.one ha he) (fun pp F G Hd H σ ρ vs Q er r k => by
    obtain ⟨v, rfl, r1⟩ := r.one
    cases r1
    exact .inl ⟨_, rfl, k.now er (.int _)⟩) hg (by decide) (by decide) he (by rfl)
theorem EV.ofBool {q : Bool} (hm : X.mg "int" = none) (ha : EV X e ρ (.bl q) ρ') (hg : Gl X "int" := by rfl) (he : starEach (e :: []) X.env = (false, eval e X.env) :: starEach [] X.env := by rfl) : EV X (.Call (.Name "int" p) [e] [] pos) ρ (.int (if q = true then 1 else 0)) ρ' :=
  .callTy call_int1 boot_int hm (.one ha he) (fun pp F G Hd H σ ρ vs Q er r k => by
    obtain ⟨v, rfl, r1⟩ := r.one
    cases r1
    exact .inr ⟨_, rfl, k.now er (.int _)⟩) hg (by decide) (by decide) he (by rfl)
theorem EV.toStr (hm : X.mg "str" = none) (ha : EV X e ρ (.int i) ρ') (hi : i.natAbs.log2 < 1920) (hg : Gl X "str" := by rfl) (he : starEach (e :: []) X.env = (false, eval e X.env) :: starEach [] X.env := by rfl) : EV X (.Call (.Name "str" p) [e] [] pos) ρ (.str (toString i)) ρ' :=
  .callTy call_str_int (by decide +kernel) hm (.one ha he) (fun pp F G Hd H σ ρ vs Q er r k => by
    obtain ⟨v, rfl, r1⟩ := r.one
    cases r1
    exact ⟨_, rfl, hi, k.now er (.str _)⟩) hg (by decide) (by decide) he (by rfl)
theorem EV.sortedI {ns : List Int} (hm : X.mg "sorted" = none) (ha : EV X e ρ (.lst (ns.map .int)) ρ') (h64 : ns.length < 64) (hs : ∀ ns' : List Int, ns'.Perm ns → ns'.Pairwise (· ≤ ·) → d = .lst (ns'.map .int)) (hg : Gl X "sorted" := by rfl) (he : starEach (e :: []) X.env = (false, eval e X.env) :: starEach [] X.env := by rfl) :
    EV X (.Call (.Name "sorted" p) [e] [] pos) ρ d ρ' :=
  .callB cr_sorted (by decide +kernel) hm (.one ha he) (fun pp F G Hd H σ ρ vs Q er r k => by
    obtain ⟨v, rfl, r1⟩ := r.one
    cases r1 with
    | lst h l =>
      have e := l.ints
      subst e
      refine ⟨_, ns, rfl, .of (er.sb.exact h rfl), h64, fun ns' p hp hs' hn => ?_⟩
      rw [hs ns' hp hs'] at k
      exact k.new er hn (.lst upd_same (RepL.of_ints _))) hg (by decide) (by decide) he (by rfl)
theorem EV.sortedS {ss : List Str} (hm : X.mg "sorted" = none) (ha : EV X e ρ (.lst (ss.map .str)) ρ') (h64 : ss.length < 64) (hs : ∀ ns' : List Str, ns'.Perm ss → PyProof.Rows.sortedS ns' = true → d = .lst (ns'.map .str)) (hg : Gl X "sorted" := by rfl) (he : starEach (e :: []) X.env = (false, eval e X.env) :: starEach [] X.env := by rfl) :
    EV X (.Call (.Name "sorted" p) [e] [] pos) ρ d ρ' :=
  .callB cr_sortedS (by decide +kernel) hm (.one ha he) (fun pp F G Hd H σ ρ vs Q er r k => by
    obtain ⟨v, rfl, r1⟩ := r.one
    cases r1 with
    | lst h l =>
      have e := l.strs
      subst e
      refine ⟨_, ss, rfl, .of (er.sb.exact h rfl), h64, fun ns' p hp hs' hn => ?_⟩
      rw [hs ns' hp hs'] at k
      exact k.new er hn (.lst upd_same (RepL.of_strs _))) hg (by decide) (by decide) he (by rfl)
end
end Rw
namespace Rw
open PySem PySem.Spec PyProof.Rows L2

/-! ### calls of the program's own defs -/
/-- a def on data: it gives a datum, what stood stands -/
def spD (P : Program) (w : World) (K : PySem.W.Frag) (n : Nat) (rel : List Dt → Dt → Prop) : Sp := fun vs H Q _ => ∃ Hd ds d, Sub Hd H ∧ RepL P w K Hd vs ds ∧ ds.length = n ∧ rel ds d ∧
  ∀ v H' Hd', Ex H H' → Ex Hd Hd' → Sub Hd' H' → (∀ a, H a ≠ none → Hd a = none → Hd' a = none) → Rep P w K Hd' v d → Q v H'
/-- a def on a list of one's own (its first argument) and data -/
def spP (P : Program) (w : World) (K : PySem.W.Frag) (n : Nat) (rel : List Dt → List Dt → Dt → List Dt → Prop) : Sp := fun vs H Q _ => ∃ p vs' xs Hd pt ds d pt', vs = .ref p :: vs' ∧ H p = some (.lst xs) ∧ Hd p = none ∧ RepL P w K Hd xs pt ∧ Sub Hd H ∧ RepL P w K Hd vs' ds ∧ ds.length = n ∧
  rel pt ds d pt' ∧ ∀ v H' Hd' xs', (∀ a o, a ≠ p → H a = some o → H' a = some o) → Ex Hd Hd' → Sub Hd' H' → (∀ a, H a ≠ none → Hd a = none → Hd' a = none) → H' p = some (.lst xs') → RepL P w K Hd' xs' pt' → Rep P w K Hd' v d → Q v H'
structure DefOk (P : Program) (w : World) (K : PySem.W.Frag) (mg : Str → Option Value) (base : Heap) (f : Str) (k n : Nat) (sp : Sp) : Prop where
  ex : ∃ fa fd ps, ps.length = n ∧ mg f = some (.ref fa) ∧ PySem.W.keepIn K (.ref fa) = true ∧ Binds K fd ps [] ∧ FnOk P w K mg base CX0 k fa fd ps sp
abbrev XDef (X : Cx) := DefOk X.prog X.w X.K X.mg X.base
section
variable {P : Program} {w : World} {K : PySem.W.Frag} {pp : Option Addr} {F G Hd H Hd' H' : Hp} {σ : L2.St} {ρ : List En}
theorem ER.called (er : ER P w K pp F G Hd H σ ρ) (eH : Ex H H') (eHd : Ex Hd Hd') (sb : Sub Hd' H') (sp : ∀ a, H a ≠ none → Hd a = none → Hd' a = none) : ER P w K pp F G Hd' H' σ ρ where
  pt := er.pt
  fr := er.fr.trans eH
  gd := er.gd.trans eHd
  sb := sb
  sep := fun a h1 h2 => sp a (fun z => h1 (er.fr.back z)) (er.sep a h1 h2)
  len := er.len
  sl := fun i e h => by
    obtain ⟨x, h1, h2⟩ := er.sl i e h
    refine ⟨x, h1, ?_⟩
    cases e with
    | un => trivial
    | dat d => obtain ⟨v, e1, r⟩ := h2; exact ⟨v, e1, r.mono eHd⟩
    | ol ds => obtain ⟨a, xs, e1, hF, hHd, hH, r⟩ := h2; exact ⟨a, xs, e1, hF, sp a (by rw [hH]; exact Option.some_ne_none _) hHd, eH a _ hH, r.mono eHd⟩
    | od kvs => obtain ⟨a, xs, e1, hF, hHd, hH, r⟩ := h2; exact ⟨a, xs, e1, hF, sp a (by rw [hH]; exact Option.some_ne_none _) hHd, eH a _ hH, r.mono eHd⟩
    | ob oo => obtain ⟨a, e1, hF, hHd, hH⟩ := h2; exact ⟨a, e1, hF, sp a (by rw [hH]; exact Option.some_ne_none _) hHd, eH a _ hH⟩
  ow := er.ow
/-- one's own list, at slot i, has another content -/
theorem ER.calledP {i : Nat} {p : Addr} {xs' : List V} {pt pt' : List Dt} (er : ER P w K pp F G Hd H σ ρ) (hi : ρ[i]? = some (.ol pt)) (hp : σ[i]? = some (some (.ref p))) (eH : ∀ a o, a ≠ p → H a = some o → H' a = some o) (eHd : Ex Hd Hd') (sb : Sub Hd' H')
    (sp : ∀ a, H a ≠ none → Hd a = none → Hd' a = none) (hH' : H' p = some (.lst xs')) (r' : RepL P w K Hd' xs' pt') : ER P w K pp F G Hd' H' σ (ρ.set i (.ol pt')) := by
  obtain ⟨y, h1, p', xs, rfl, hF, hHd, hH, r⟩ := er.sl i _ hi
  rw [hp] at h1
  cases h1
  have hl : i < ρ.length := (List.getElem?_eq_some_iff.mp hi).1
  have hpd : Hd' p = none := sp p (by rw [hH]; exact Option.some_ne_none _) hHd
  refine ⟨er.pt, fun a o e => eH a o (fun z => by subst z; rw [hF] at e; cases e) (er.fr a o e), er.gd.trans eHd, sb, fun a q1 q2 => sp a (fun z => q1 (er.fr.back z)) (er.sep a q1 q2), by rw [List.length_set]; exact er.len, fun j e g => ?_, fun j k e e' b g1 g2 o1 o2 s1 s2 => ?_⟩
  · by_cases hj : i = j
    · subst hj
      rw [List.getElem?_set_self hl] at g
      cases g
      exact ⟨_, hp, p, xs', rfl, hF, hpd, hH', r'⟩
    · rw [List.getElem?_set_ne hj] at g
      obtain ⟨x, z1, z2⟩ := er.sl j e g
      refine ⟨x, z1, ?_⟩
      cases e with
      | un => trivial
      | dat d => obtain ⟨v, e1, r⟩ := z2; exact ⟨v, e1, r.mono eHd⟩
      | ol ds =>
        obtain ⟨a, ys, e1, kF, kHd, kH, q⟩ := z2
        have ne : a ≠ p := fun z => by subst z; subst e1; exact hj (er.ow i j _ _ _ hi g rfl rfl hp z1)
        exact ⟨a, ys, e1, kF, sp a (by rw [kH]; exact Option.some_ne_none _) kHd, eH a _ ne kH, q.mono eHd⟩
      | od kvs =>
        obtain ⟨a, ys, e1, kF, kHd, kH, q⟩ := z2
        have ne : a ≠ p := fun z => by subst z; subst e1; exact hj (er.ow i j _ _ _ hi g rfl rfl hp z1)
        exact ⟨a, ys, e1, kF, sp a (by rw [kH]; exact Option.some_ne_none _) kHd, eH a _ ne kH, q.mono eHd⟩
      | ob oo =>
        obtain ⟨a, e1, kF, kHd, kH⟩ := z2
        have ne : a ≠ p := fun z => by subst z; subst e1; exact hj (er.ow i j _ _ _ hi g rfl rfl hp z1)
        exact ⟨a, e1, kF, sp a (by rw [kH]; exact Option.some_ne_none _) kHd, eH a _ ne kH⟩
  · have fw : ∀ (j : Nat) (e : En), (ρ.set i (.ol pt'))[j]? = some e → isOwn e = true → ∃ e0, ρ[j]? = some e0 ∧ isOwn e0 = true := fun j e g o => by
      by_cases hj : i = j
      · subst hj; exact ⟨_, hi, rfl⟩
      · rw [List.getElem?_set_ne hj] at g; exact ⟨e, g, o⟩
    obtain ⟨a1, b1, c1⟩ := fw j e g1 o1
    obtain ⟨a2, b2, c2⟩ := fw k e' g2 o2
    exact er.ow j k _ _ b b1 b2 c1 c2 s1 s2
end
section
variable {X : Cx} {ρ ρ' ρ1 ρ2 ρ3 : List En} {d d1 d2 d3 x y z : Dt} {e a b c : Expr} {es : List Expr} {pos p p2 : Pos} {ds xs ys : List Dt} {k n : Nat} {f : Str} {rel : List Dt → Dt → Prop}
theorem EV.call (D : XDef X f k n (spD X.prog X.w X.K n rel)) (hr : Room k X.A) (ha : EA X (e :: es) ρ ds ρ1) (h : rel ds d) (hn : ds.length = n := by rfl) (hg : Gl X f := by rfl) (hdb : (f == ("__debug__" : Str)) = false := by decide) (he : starEach (e :: es) X.env = (false, eval e X.env) :: starEach es X.env := by rfl)
    (hpl : (backTo pos (starEach es X.env)).any (·.1) = false := by rfl) : EV X (.Call (.Name f p) (e :: es) [] pos) ρ d ρ1 := by
  obtain ⟨fa, fd, ps, hl, hm, hk, hb, F⟩ := D.ex
  refine .of (pe_call F hr hg hm hk hb .nil pass0 pa_c hdb he hpl) fun pp F G Hd H σ Q er k => ha pp F G Hd H σ _ er fun vs Hd1 H1 e1 er1 r1 => ?_
  refine ⟨Hd1, ds, d, er1.sb, by rw [List.append_nil]; exact r1, hn, h, fun v H' Hd' eH eHd sb sp r => ?_⟩
  exact k v Hd' H' (e1.trans eHd) (er1.called eH eHd sb sp) r
/-- f(own, ..) -/
theorem EV.callP {i : Nat} {x : Str} {px : Pos} {relP : List Dt → List Dt → Dt → List Dt → Prop} {pt pt' : List Dt} (D : XDef X f k (n + 1) (spP X.prog X.w X.K n relP)) (hr : Room k X.A) (hi : ρ1[i]? = some (.ol pt)) (hi0 : ∃ pt0, ρ[i]? = some (.ol pt0)) (ha : EA X es ρ ds ρ1) (h : relP pt ds d pt') (hn : ds.length = n := by rfl) (hg : Gl X f := by rfl)
    (hdb : (f == ("__debug__" : Str)) = false := by decide) (he : starEach (.Name x px :: es) X.env = (false, eval (.Name x px) X.env) :: starEach es X.env := by rfl) (hpl : (backTo pos (starEach es X.env)).any (·.1) = false := by rfl)
    (hN : X.N[i]? = some x := by rfl) (hv : Vis X.env.scope x := by first | exact Or.inl rfl | exact Or.inr (Or.inl rfl) | exact Or.inr (Or.inr rfl)) (hd : (x == ("__debug__" : Str)) = false := by decide) (hcd : (x == ("__classdict__" : Str)) = false := by decide) :
    EV X (.Call (.Name f p) (.Name x px :: es) [] pos) ρ d (ρ1.set i (.ol pt')) := by
  obtain ⟨fa, fd, ps, hl, hm, hk, hb, F⟩ := D.ex
  refine .of (pe_call F hr hg hm hk hb .nil pass0 (pa_cons (pe_var hN hv hd hcd) pa_c he) hdb he hpl) fun pp F G Hd H σ Q er k => ?_
  obtain ⟨pt0, hi0⟩ := hi0
  obtain ⟨y0, h0, a, xs0, rfl, _⟩ := er.sl i _ hi0
  refine ⟨.ref a, h0, ha pp F G Hd H σ _ er fun vs Hd1 H1 e1 er1 r1 => ?_⟩
  obtain ⟨y, h1, a', xs, ey, hF, hHd, hH, r⟩ := er1.sl i _ hi
  subst ey
  rw [h0] at h1
  cases h1
  refine ⟨a, vs, xs, Hd1, pt, ds, d, pt', by rw [List.append_nil], hH, hHd, r, er1.sb, r1, hn, h, fun v H' Hd' xs' eH eHd sb sp hp' rp rv => ?_⟩
  exact k v Hd' H' (e1.trans eHd) (er1.calledP hi h0 eH eHd sb sp hp' rp) rv
end

/-! ### blocks -/
inductive Ou where
  | nx (ρ : List En) | rt (d : Dt) (ρ : List En) | bk (ρ : List En) | ct (ρ : List En)
structure DK (X : Cx) (pp : Option Addr) (F G Hd : Hp) (P : Ou → Prop) (D : Ends) : Prop where
  nx : ∀ σ' Hd' H' ρ', Ex Hd Hd' → XR X pp F G Hd' H' σ' ρ' → P (.nx ρ') → D.nx σ' H'
  bk : ∀ σ' Hd' H' ρ', Ex Hd Hd' → XR X pp F G Hd' H' σ' ρ' → P (.bk ρ') → D.bk σ' H'
  ct : ∀ σ' Hd' H' ρ', Ex Hd Hd' → XR X pp F G Hd' H' σ' ρ' → P (.ct ρ') → D.ct σ' H'
  rt : ∀ v σ' Hd' H' ρ' d, Ex Hd Hd' → XR X pp F G Hd' H' σ' ρ' → XRep X Hd' v d → P (.rt d ρ') → D.rt v H'
theorem DK.up {X : Cx} {pp : Option Addr} {F G Hd Hd1 : Hp} {P : Ou → Prop} {D : Ends} (k : DK X pp F G Hd P D) (e : Ex Hd Hd1) : DK X pp F G Hd1 P D :=
  ⟨fun σ' Hd' H' ρ' e' => k.nx σ' Hd' H' ρ' (e.trans e'), fun σ' Hd' H' ρ' e' => k.bk σ' Hd' H' ρ' (e.trans e'), fun σ' Hd' H' ρ' e' => k.ct σ' Hd' H' ρ' (e.trans e'), fun v σ' Hd' H' ρ' d e' => k.rt v σ' Hd' H' ρ' d (e.trans e')⟩
def SD (X : Cx) (st : List Stmt) (ρ : List En) (P : Ou → Prop) : Prop := ∀ pp F G Hd H σ D, XR X pp F G Hd H σ ρ → DK X pp F G Hd P D → cS X st D σ H
/-- what a statement is to reach where st follows it -/
def Th (X : Cx) (st : List Stmt) (P : Ou → Prop) : Ou → Prop
  | .nx ρ => SD X st ρ P
  | o => P o
theorem DK.th {X : Cx} {pp : Option Addr} {F G Hd : Hp} {P : Ou → Prop} {D : Ends} {st : List Stmt} (k : DK X pp F G Hd P D) : DK X pp F G Hd (Th X st P) { D with nx := cS X st D } :=
  ⟨fun σ' Hd' H' ρ' e er h => h pp F G Hd' H' σ' D er (k.up e), k.bk, k.ct, k.rt⟩
section
variable {X : Cx} {ρ ρ' ρ1 ρ2 ρ3 : List En} {d d1 d2 d3 x y z : Dt} {e a b c : Expr} {es : List Expr} {pos p p2 : Pos} {ds xs ys : List Dt} {P P' : Ou → Prop} {stm : Stmt} {rest sa sb : List Stmt} {k : Bool}
theorem SD.of {sts : List Stmt} {t : TS} (h : PSs X sts t) (hq : ∀ pp F G Hd H σ D, XR X pp F G Hd H σ ρ → DK X pp F G Hd P D → t D σ H) : SD X sts ρ P := fun pp F G Hd H σ D er k pins s I => h.run pins s σ H D I (hq pp F G Hd H σ D er k)
theorem SD.mono (h : SD X sa ρ P) (hp : ∀ o, P o → P' o) : SD X sa ρ P' := fun pp F G Hd H σ D er k => h pp F G Hd H σ D er
  ⟨fun σ' Hd' H' ρ' e er q => k.nx σ' Hd' H' ρ' e er (hp _ q), fun σ' Hd' H' ρ' e er q => k.bk σ' Hd' H' ρ' e er (hp _ q), fun σ' Hd' H' ρ' e er q => k.ct σ' Hd' H' ρ' e er (hp _ q), fun v σ' Hd' H' ρ' d e er r q => k.rt v σ' Hd' H' ρ' d e er r (hp _ q)⟩
theorem SD.nil (h : P (.nx ρ)) : SD X [] ρ P := .of pss_nil fun pp F G Hd H σ D er k => k.nx σ Hd H ρ (Ex.refl _) er h
/-- one statement, by its rule -/
theorem SD.st {t : TS} (h : PS X stm t) (hq : ∀ pp F G Hd H σ D, XR X pp F G Hd H σ ρ → DK X pp F G Hd (Th X rest P) D → t D σ H) : SD X (stm :: rest) ρ P :=
  .of (pss_cons h pss_c) fun pp F G Hd H σ D er k => hq pp F G Hd H σ _ er k.th
theorem SD.ret (h : EV X e ρ d ρ1) (hp : P (.rt d ρ1)) : SD X (.Return (some e) pos :: rest) ρ P :=
  .st (ps_ret pe_c) fun pp F G Hd H σ D er k => h pp F G Hd H σ _ er fun v Hd1 H1 e1 er1 r1 => k.rt v σ Hd1 H1 ρ1 d e1 er1 r1 hp
theorem SD.asg {i : Nat} {x : Str} (h : EV X e ρ d ρ1) (hk : SD X rest (ρ1.set i (.dat d)) P) (hN : X.N.Nodup) (hi : X.N[i]? = some x := by rfl) (h0 : i ≠ 0 := by decide) (hx : Loc X.env.scope x := by first | exact Or.inl rfl | exact Or.inr rfl) (hs : swapsWith e (some (.Name x p)) pos.line X.env = pure false := by rfl)
    (hf : X.fn x = true ∨ X.env.scope.names.lookup x = some .local := by first | exact .inl rfl | exact .inr rfl) : SD X (.Assign [.Name x p] e pos :: rest) ρ P :=
  .st (ps_set hN hi hx pe_c hs hf) fun pp F G Hd H σ D er k => h pp F G Hd H σ _ er fun v Hd1 H1 e1 er1 r1 => k.nx _ Hd1 H1 _ e1 (er1.set r1 h0) hk
theorem SD.expr (h : EV X e ρ d ρ1) (hk : SD X rest ρ1 P) (hs : swapsWith e none pos.line X.env = pure false := by rfl) : SD X (.Expr e pos :: rest) ρ P :=
  .st (ps_expr pe_c hs) fun pp F G Hd H σ D er k => h pp F G Hd H σ _ er fun v Hd1 H1 e1 er1 r1 => k.nx _ Hd1 H1 _ e1 er1 hk
theorem SD.ite (h : ET X c ρ k ρ1) (h1 : k = true → SD X sa ρ1 (Th X rest P)) (h2 : k = false → SD X sb ρ1 (Th X rest P)) : SD X (.If c sa sb pos :: rest) ρ P :=
  .st (ps_if pt_c pss_c pss_c) fun pp F G Hd H σ D er kk => h pp F G Hd H σ _ er fun Hd1 H1 e1 er1 => by
    cases k with
    | true => exact iteT (h1 rfl pp F G Hd1 H1 σ D er1 (kk.up e1))
    | false => exact iteF (h2 rfl pp F G Hd1 H1 σ D er1 (kk.up e1))
/-- if without else -/
theorem SD.when (h : ET X c ρ k ρ1) (h1 : k = true → SD X sa ρ1 (Th X rest P)) (h2 : k = false → SD X rest ρ1 P) : SD X (.If c sa [] pos :: rest) ρ P := .ite h h1 fun e => .nil (h2 e)
/-- an if that is not taken -/
theorem SD.skip (h : ET X c ρ k ρ1) (hk : k = false) (h2 : SD X rest ρ1 P) : SD X (.If c sa [] pos :: rest) ρ P := .when h (fun e => by rw [hk] at e; cases e) fun _ => h2
theorem SD.take (h : ET X c ρ k ρ1) (hk : k = true) (h2 : SD X sa ρ1 (Th X rest P)) : SD X (.If c sa sb pos :: rest) ρ P := .ite h (fun _ => h2) fun e => by rw [hk] at e; cases e
theorem SD.els (h : ET X c ρ k ρ1) (hk : k = false) (h2 : SD X sb ρ1 (Th X rest P)) : SD X (.If c sa sb pos :: rest) ρ P := .ite h (fun e => by rw [hk] at e; cases e) fun _ => h2
theorem SD.break_ (h : P (.bk ρ)) : SD X (.Break pos :: rest) ρ P := .st ps_break fun pp F G Hd H σ D er k => k.bk σ Hd H ρ (Ex.refl _) er h
theorem SD.pass (h : SD X rest ρ P) : SD X (.Pass pos :: rest) ρ P := .st ps_pass fun pp F G Hd H σ D er k => k.nx σ Hd H ρ (Ex.refl _) er h

/-! ### lists and dicts of one's own -/
theorem ER.own {P : Program} {w : World} {K : PySem.W.Frag} {pp : Option Addr} {F G Hd H : Hp} {σ : L2.St} {i : Nat} {a : Addr} {o : HO} {en : En} (er : ER P w K pp F G Hd H σ ρ) (ha : H a = none) (h0 : i ≠ 0) (hen : EnR P w K F Hd (upd H a o) (some (.ref a)) en) : ER P w K pp F G Hd (upd H a o) (σ.set i (some (.ref a))) (ρ.set i en) := by
  have old : ∀ (j : Nat) (e : En), ρ[j]? = some e → isOwn e = true → σ[j]? ≠ some (some (.ref a)) := fun j e g o z => by
    obtain ⟨x, z1, z2⟩ := er.sl j e g
    rw [z] at z1
    cases z1
    cases e with
    | un => cases o
    | dat d => cases o
    | ol ds => obtain ⟨b, ys, e1, kF, kHd, kH, q⟩ := z2; cases e1; rw [ha] at kH; cases kH
    | od ds => obtain ⟨b, ys, e1, kF, kHd, kH, q⟩ := z2; cases e1; rw [ha] at kH; cases kH
    | ob oo => obtain ⟨b, e1, kF, kHd, kH⟩ := z2; cases e1; rw [ha] at kH; cases kH
  have eg := er.grow (Ex.new (o := o) ha)
  refine ⟨fun b z => by rw [List.getElem?_set_ne h0]; exact er.pt b z, eg.fr, eg.gd, eg.sb, eg.sep, by rw [List.length_set, List.length_set]; exact er.len, fun j e g => ?_, fun j k e e' b g1 g2 o1 o2 s1 s2 => ?_⟩
  · by_cases hj : i = j
    · subst hj
      have hl : i < (ρ.set i en).length := (List.getElem?_eq_some_iff.mp g).1
      rw [List.length_set] at hl
      rw [List.getElem?_set_self hl] at g
      cases g
      exact ⟨_, by rw [List.getElem?_set_self (by rw [er.len]; exact hl)], hen⟩
    · rw [List.getElem?_set_ne hj] at g ⊢
      exact eg.sl j e g
  · by_cases hj : i = j
    · subst hj
      have hl : i < (ρ.set i en).length := (List.getElem?_eq_some_iff.mp g1).1
      rw [List.length_set] at hl
      rw [List.getElem?_set_self (by rw [er.len]; exact hl)] at s1
      cases s1
      by_cases hk : i = k
      · exact hk
      · rw [List.getElem?_set_ne hk] at g2 s2
        exact absurd s2 (old k e' g2 o2)
    · rw [List.getElem?_set_ne hj] at g1 s1
      by_cases hk : i = k
      · subst hk
        have hl : i < (ρ.set i en).length := (List.getElem?_eq_some_iff.mp g2).1
        rw [List.length_set] at hl
        rw [List.getElem?_set_self (by rw [er.len]; exact hl)] at s2
        cases s2
        exact absurd s1 (old j e g1 o1)
      · rw [List.getElem?_set_ne hk] at g2 s2
        exact er.ow j k e e' b g1 g2 o1 o2 s1 s2
/-- x = [] -/
theorem SD.newL {i : Nat} {x : Str} {lp : Pos} (hk : SD X rest (ρ.set i (.ol [])) P) (hN : X.N.Nodup) (hi : X.N[i]? = some x := by rfl) (h0 : i ≠ 0 := by decide) (hx : Loc X.env.scope x := by first | exact Or.inl rfl | exact Or.inr rfl)
    (hs : swapsWith (.List [] lp) (some (.Name x p)) pos.line X.env = pure false := by rfl) (hf : X.fn x = true ∨ X.env.scope.names.lookup x = some .local := by first | exact .inl rfl | exact .inr rfl) : SD X (.Assign [.Name x p] (.List [] lp) pos :: rest) ρ P :=
  .st (ps_set hN hi hx (pe_lst pa_nil) hs hf) fun pp F G Hd H σ D er k => ⟨Nat.zero_le _, fun a ha => k.nx _ Hd _ _ (Ex.refl _) (er.own (en := .ol []) ha h0 ⟨a, [], rfl, er.fr.back ha, er.fresh ha, upd_same, .nil⟩) hk⟩
/-- an object of one's own changes -/
theorem ER.mut {P : Program} {w : World} {K : PySem.W.Frag} {pp : Option Addr} {F G Hd H : Hp} {σ : L2.St} {i : Nat} {a : Addr} {o : HO} {en en0 : En} (er : ER P w K pp F G Hd H σ ρ) (hi : ρ[i]? = some en0) (ho : isOwn en0 = true) (hs : σ[i]? = some (some (.ref a))) (hen : EnR P w K F Hd (upd H a o) (some (.ref a)) en) (how : isOwn en = true) :
    ER P w K pp F G Hd (upd H a o) σ (ρ.set i en) := by
  have hl : i < ρ.length := (List.getElem?_eq_some_iff.mp hi).1
  have ha : F a = none ∧ Hd a = none := by
    cases en with
    | un => cases how
    | dat d => cases how
    | ol ds => obtain ⟨b, ys, e1, kF, kHd, _⟩ := hen; cases e1; exact ⟨kF, kHd⟩
    | od ds => obtain ⟨b, ys, e1, kF, kHd, _⟩ := hen; cases e1; exact ⟨kF, kHd⟩
    | ob oo => obtain ⟨b, e1, kF, kHd, _⟩ := hen; cases e1; exact ⟨kF, kHd⟩
  refine ⟨er.pt, fun b u e => ?_, er.gd, fun b u e => ?_, er.sep, by rw [List.length_set]; exact er.len, fun j e g => ?_, fun j k e e' b g1 g2 o1 o2 s1 s2 => ?_⟩
  · rw [upd_ne (ne_of_none e ha.1)]; exact er.fr b u e
  · rw [upd_ne (ne_of_none e ha.2)]; exact er.sb b u e
  · by_cases hj : i = j
    · subst hj
      rw [List.getElem?_set_self hl] at g
      cases g
      exact ⟨_, hs, hen⟩
    · rw [List.getElem?_set_ne hj] at g
      obtain ⟨x, z1, z2⟩ := er.sl j e g
      refine ⟨x, z1, ?_⟩
      cases e with
      | un => trivial
      | dat d => exact z2
      | ol ds =>
        obtain ⟨b, ys, e1, kF, kHd, kH, q⟩ := z2
        have ne : b ≠ a := fun z => by subst z; subst e1; exact hj (er.ow i j _ _ _ hi g ho rfl hs z1)
        exact ⟨b, ys, e1, kF, kHd, by rw [upd_ne ne]; exact kH, q⟩
      | od ds =>
        obtain ⟨b, ys, e1, kF, kHd, kH, q⟩ := z2
        have ne : b ≠ a := fun z => by subst z; subst e1; exact hj (er.ow i j _ _ _ hi g ho rfl hs z1)
        exact ⟨b, ys, e1, kF, kHd, by rw [upd_ne ne]; exact kH, q⟩
      | ob oo =>
        obtain ⟨b, e1, kF, kHd, kH⟩ := z2
        have ne : b ≠ a := fun z => by subst z; subst e1; exact hj (er.ow i j _ _ _ hi g ho rfl hs z1)
        exact ⟨b, e1, kF, kHd, by rw [upd_ne ne]; exact kH⟩
  · have fw : ∀ (j : Nat) (e : En), (ρ.set i en)[j]? = some e → isOwn e = true → ∃ e0, ρ[j]? = some e0 ∧ isOwn e0 = true := fun j e g o => by
      by_cases hj : i = j
      · subst hj; exact ⟨_, hi, ho⟩
      · rw [List.getElem?_set_ne hj] at g; exact ⟨e, g, o⟩
    obtain ⟨a1, b1, c1⟩ := fw j e g1 o1
    obtain ⟨a2, b2, c2⟩ := fw k e' g2 o2
    exact er.ow j k _ _ b b1 b2 c1 c2 s1 s2
/-- x.append(e), x a list of one's own -/
theorem SD.app {i : Nat} {x : Str} {px pa : Pos} {ds0 : List Dt} (hi0 : ρ[i]? = some (.ol ds0)) (h : EV X e ρ d ρ1) (hi : ρ1[i]? = some (.ol ds)) (hz : ds.length < sizeLine) (hk : SD X rest (ρ1.set i (.ol (ds ++ [d]))) P) (hN : X.N[i]? = some x := by rfl)
    (hv : Vis X.env.scope x := by first | exact Or.inl rfl | exact Or.inr (Or.inl rfl) | exact Or.inr (Or.inr rfl)) (hd : (x == ("__debug__" : Str)) = false := by decide) (hcd : (x == ("__classdict__" : Str)) = false := by decide)
    (hbase : attributeBase (.Name x px) "append" X.env (eval (.Name x px) X.env) = eval (.Name x px) X.env := by rfl)
    (hfew : ((backTo p (starEach [e] X.env)).all (fun x => !x.1) && (backToKw p (keywordEach [] X.env)).all (fun x => x.1.isSome)
      && decide (([e] : List Expr).length + ([] : List Keyword).length + (if ([] : List Keyword).isEmpty then 0 else 1) < 30)) = true := by rfl)
    (hline : (pa.endLine == p.line) = true := by rfl) (hse : starEach (e :: []) X.env = (false, eval e X.env) :: starEach [] X.env := by rfl) (hplain : (backTo p (starEach [] X.env)).any (·.1) = false := by rfl)
    (hs : swapsWith (.Call (.Attribute (.Name x px) "append" pa) [e] [] p) none pos.line X.env = pure false := by rfl) : SD X (.Expr (.Call (.Attribute (.Name x px) "append" pa) [e] [] p) pos :: rest) ρ P := by
  have h1 := pe_bm PySem.F.plainAttrs_list PySem.F.slot_list_append PySem.F.type_list_append (mt_append (X := X)) (pe_var (pos := px) hN hv hd hcd) (pa_cons pe_c pa_nil hse) hbase hfew hline hse hplain
  refine .st (ps_expr h1 hs) fun pp F G Hd H σ D er k => ?_
  obtain ⟨y0, q0, a, xs0, rfl, _, _, hH0, _⟩ := er.sl i _ hi0
  refine ⟨.ref a, q0, .inl ⟨rfl, _, .of hH0⟩, h pp F G Hd H σ _ er fun v Hd1 H1 e1 er1 r1 => ?_⟩
  obtain ⟨y, q1, a', xs, ey, hF, hHd, hH, r⟩ := er1.sl i _ hi
  subst ey
  rw [q0] at q1
  cases q1
  refine ⟨a, xs, v, rfl, rfl, hH, by rw [r.length]; exact hz, k.nx _ Hd1 _ _ e1 (er1.mut (en := .ol (ds ++ [d])) hi rfl q0 ⟨a, _, rfl, hF, hHd, upd_same, r.append (.cons r1 .nil)⟩ rfl) hk⟩
/-- x[j] = e, x a list of one's own -/
theorem SD.put {i n : Nat} {j : Int} {x : Str} {px : Pos} (h : EV X e ρ d ρ) (hj : EV X b ρ (.int j) ρ) (hi : ρ[i]? = some (.ol ds)) (hn : ixN ds.length j = some n) (hk : SD X rest (ρ.set i (.ol (ds.set n d))) P) (hN : X.N[i]? = some x := by rfl)
    (hv : Vis X.env.scope x := by first | exact Or.inl rfl | exact Or.inr (Or.inl rfl) | exact Or.inr (Or.inr rfl)) (hd : (x == ("__debug__" : Str)) = false := by decide) (hcd : (x == ("__classdict__" : Str)) = false := by decide)
    (ha : ∀ v, assign (.Subscript (.Name x px) b p) X.env v = (do
      let ov ← holding [v] (eval (.Name x px) X.env)
      let iv ← holding [v, ov] (eval b X.env)
      standAt p
      holding [v, ov, iv] (setItem ov iv v)
      release [v, ov, iv] []) := by intro _; rfl)
    (hs : swapsWithSole [.Subscript (.Name x px) b p] e pos.line X.env = pure false := by rfl) (hw : swappedStores [.Subscript (.Name x px) b p] e X.env = pure none := by rfl)
    (h1 : (assignEach [.Subscript (.Name x px) b p] X.env).map (·.2) = [assign (.Subscript (.Name x px) b p) X.env] := by rfl) : SD X (.Assign [.Subscript (.Name x px) b p] e pos :: rest) ρ P := by
  refine .st (ps_asg pe_c (pg_sub (pe_var hN hv hd hcd) pe_c set_list ha) hs hw h1) fun pp F G Hd H σ D er k => h pp F G Hd H σ _ er fun v Hd1 H1 e1 er1 r1 => ?_
  obtain ⟨y0, q0, a, xs0, rfl, _⟩ := er1.sl i _ hi
  refine ⟨.ref a, q0, hj pp F G Hd1 H1 σ _ er1 fun u Hd2 H2 e2 er2 r2 => ?_⟩
  cases r2
  obtain ⟨y, q1, a', xs, ey, hF, hHd, hH, r⟩ := er2.sl i _ hi
  subst ey
  rw [q0] at q1
  cases q1
  exact ⟨a, xs, j, n, rfl, rfl, hH, by rw [r.length]; exact hn, k.nx _ Hd2 _ _ (e1.trans e2) (er2.mut (en := .ol (ds.set n d)) hi rfl q0 ⟨a, _, rfl, hF, hHd, upd_same, r.set n (r1.mono e2)⟩ rfl) hk⟩
/-- x += e, ints -/
theorem SD.aug {i : Nat} {m n : Int} {x : Str} (hx0 : ρ[i]? = some (.dat (.int m))) (h : EV X e ρ (.int n) ρ1) (hk : SD X rest (ρ1.set i (.dat (.int (m + n)))) P) (hN : X.N.Nodup) (hi : X.N[i]? = some x := by rfl) (h0 : i ≠ 0 := by decide) (hx : Loc X.env.scope x := by first | exact Or.inl rfl | exact Or.inr rfl)
    (hf : X.fn x = true ∨ X.env.scope.names.lookup x = some .local := by first | exact .inl rfl | exact .inr rfl) : SD X (.AugAssign (.Name x p) .Add e pos :: rest) ρ P :=
  .st (ps_aug hN hi hx pe_c ip_add hf) fun pp F G Hd H σ D er k => by
    obtain ⟨y, q1, v, rfl, r⟩ := er.sl i _ hx0
    cases r
    refine ⟨_, q1, h pp F G Hd H σ _ er fun u Hd1 H1 e1 er1 r1 => ?_⟩
    cases r1
    exact ⟨m, n, rfl, rfl, k.nx _ Hd1 H1 _ e1 (er1.set (.int _) h0) hk⟩
end
end Rw
namespace Rw
open PySem PySem.Spec PyProof.Rows L2

/-! ### targets -/
def cG (X : Cx) (tg : Expr) : TG := fun v σ H Q => ∀ pins s u, Inv X pins σ H s → RelV v u → wpAny (model X.prog X.w) X.A (assign tg X.env u) (fun _ s' => ∃ σ' H', Inv X pins σ' H' s' ∧ Q σ' H') X.xe s
def cGs (X : Cx) (ts : List Expr) : TGs := fun vs σ H Q => ∀ pins s us, Inv X pins σ H s → Vals vs us → wpAny (model X.prog X.w) X.A (assignInOrder ((assignEach ts X.env).map (·.2)) us) (fun _ s' => ∃ σ' H', Inv X pins σ' H' s' ∧ Q σ' H') X.xe s
theorem pg_c {X : Cx} {tg : Expr} : PG X tg (cG X tg) := ⟨fun pins s _ _ _ u _ I r h => h pins s u I r⟩
theorem pgs_c {X : Cx} {ts : List Expr} : PGs X ts (cGs X ts) := ⟨fun pins s _ _ _ us _ I r h => h pins s us I r⟩
/-- slots but those at js stay -/
def Keep (js : List Nat) (σ σ' : L2.St) : Prop := σ'.length = σ.length ∧ ∀ k, k ∉ js → σ'[k]? = σ[k]?
def BT (X : Cx) (tg : Expr) (js : List Nat) (d : Dt) (ρ ρ' : List En) : Prop := ∀ pp F G Hd H σ v (Q : L2.St → Hp → Prop), XR X pp F G Hd H σ ρ → XRep X Hd v d → (∀ σ' Hd' H', Ex Hd Hd' → XR X pp F G Hd' H' σ' ρ' → Keep js σ σ' → Q σ' H') → cG X tg v σ H Q
def BTs (X : Cx) (ts : List Expr) (js : List Nat) (ds : List Dt) (ρ ρ' : List En) : Prop := ∀ pp F G Hd H σ vs (Q : L2.St → Hp → Prop), XR X pp F G Hd H σ ρ → XRepL X Hd vs ds → (∀ σ' Hd' H', Ex Hd Hd' → XR X pp F G Hd' H' σ' ρ' → Keep js σ σ' → Q σ' H') → cGs X ts vs σ H Q
section
variable {X : Cx} {ρ ρ' ρ1 ρ2 ρ3 : List En} {d : Dt} {ds : List Dt} {e : Expr} {es : List Expr} {pos : Pos} {js js' : List Nat}
theorem Keep.refl (js : List Nat) (σ : L2.St) : Keep js σ σ := ⟨rfl, fun _ _ => rfl⟩
theorem Keep.trans {σ σ1 σ2 : L2.St} (a : Keep js σ σ1) (b : Keep js' σ1 σ2) : Keep (js ++ js') σ σ2 := ⟨b.1.trans a.1, fun k h => by
  rw [List.mem_append, not_or] at h
  exact (b.2 k h.2).trans (a.2 k h.1)⟩
theorem BT.name {i : Nat} {x : Str} (hN : X.N.Nodup) (hi : X.N[i]? = some x := by rfl) (h0 : i ≠ 0 := by decide) (hx : Loc X.env.scope x := by first | exact Or.inl rfl | exact Or.inr rfl) (hf : X.fn x = true ∨ X.env.scope.names.lookup x = some .local := by first | exact .inl rfl | exact .inr rfl) :
    BT X (.Name x pos) [i] d ρ (ρ.set i (.dat d)) := fun pp F G Hd H σ v Q er r k pins s u I rv =>
  (pg_name (pos := pos) hN hi hx hf).run pins s σ H v u Q I rv (k _ Hd H (Ex.refl _) (er.set r h0) ⟨by rw [List.length_set], fun j hj => by rw [List.getElem?_set_ne (fun z => hj (by rw [z]; exact List.mem_singleton.mpr rfl))]⟩)
theorem BTs.nil : BTs X [] [] [] ρ ρ := fun pp F G Hd H σ vs Q er r k pins s us I rv => by
  cases r
  exact pgs_nil.run pins s σ H [] us Q I rv ⟨rfl, k σ Hd H (Ex.refl _) er (.refl _ _)⟩
theorem BTs.cons (h : BT X e js d ρ ρ1) (t : BTs X es js' ds ρ1 ρ2) (hs : (assignEach (e :: es) X.env).map (·.2) = assign e X.env :: (assignEach es X.env).map (·.2) := by rfl) : BTs X (e :: es) (js ++ js') (d :: ds) ρ ρ2 := fun pp F G Hd H σ vs Q er r k pins s us I rv => by
  cases r with
  | cons r1 r2 =>
    exact (pgs_cons pg_c pgs_c hs).run pins s σ H _ us Q I rv ⟨_, _, rfl, h pp F G Hd H σ _ _ er r1 fun σ1 Hd1 H1 e1 er1 k1 => t pp F G Hd1 H1 σ1 _ Q er1 (r2.mono e1) fun σ2 Hd2 H2 e2 er2 k2 => k σ2 Hd2 H2 (e1.trans e2) er2 (k1.trans k2)⟩
theorem BT.tup {q n : Nat} (hc : X.calm = true) (h : BTs X es js ds ρ ρ') (hl : ds.length = n) (hn : (assignEach es X.env).length = n := by rfl) (hst : (assignEach es X.env).findIdx? (·.1) = none := by rfl) : BT X (.Tuple es q pos) js (.tup ds) ρ ρ' := fun pp F G Hd H σ v Q er r k pins s u I rv => by
  cases r with
  | tup h1 l1 => exact (pg_tup (k := q) (pos := pos) hc pgs_c hn hst).run pins s σ H _ u Q I rv ⟨_, _, rfl, er.sb.sqt h1, by rw [l1.length]; exact hl, h pp F G Hd H σ _ Q er l1 k⟩
end

/-! ### walks -/
def Walks (X : Cx) (J : It) (Hd0 : Hp) (items : List Dt) : Prop :=
  (∀ i d H Hd, Ex Hd0 Hd → Sub Hd H → items[i]? = some d → J.go i H ∧ ∀ x H', J.yld i H x H' → H' = H ∧ XRep X Hd x d) ∧ ∀ i H Hd, Ex Hd0 Hd → Sub Hd H → items.length ≤ i → J.stop i H
def EI (X : Cx) (tg iter : Expr) (ρ : List En) (items : List Dt) (ρ' : List En) : Prop := ∀ pp F G Hd H σ (R : It → Hp → Prop), XR X pp F G Hd H σ ρ → (∀ J Hd' H', Ex Hd Hd' → XR X pp F G Hd' H' σ ρ' → Walks X J Hd' items → R J H') → cI X tg iter σ H R
section
variable {X : Cx} {ρ ρ' ρ1 ρ2 ρ3 : List En} {d : Dt} {ds items : List Dt} {e tg iter : Expr} {es : List Expr} {p pos : Pos}
theorem EI.of {wi : TI} (h : PI X tg iter wi) (hq : ∀ pp F G Hd H σ R, XR X pp F G Hd H σ ρ → (∀ J Hd' H', Ex Hd Hd' → XR X pp F G Hd' H' σ ρ' → Walks X J Hd' items → R J H') → wi σ H R) : EI X tg iter ρ items ρ' :=
  fun pp F G Hd H σ R er k pins s I => h.run pins s σ H R I (hq pp F G Hd H σ R er k)
theorem EI.list (h : EV X e ρ (.lst ds) ρ1) : EI X tg e ρ ds ρ1 := .of (pi_list pe_c) fun pp F G Hd H σ R er k => h pp F G Hd H σ _ er fun v Hd1 H1 e1 er1 r1 => by
  cases r1 with
  | @lst a xs _ ha l =>
    refine ⟨a, rfl, ⟨xs, .of (er1.sb.exact ha rfl)⟩, k _ Hd1 H1 e1 er1 ⟨fun i d H Hd e2 sb hi => ?_, fun i H Hd e2 sb hi => ?_⟩⟩
    · have hs : SqL X.K H a xs := .of (sb.exact (e2 _ _ ha) rfl)
      obtain ⟨v, hv, rv⟩ := l.get hi
      refine ⟨⟨xs, v, hs, hv⟩, fun x H' y => ?_⟩
      obtain ⟨eH, y⟩ := y
      have := (y xs hs).symm.trans hv
      cases this
      exact ⟨eH, rv.mono e2⟩
    · exact ⟨xs, .of (sb.exact (e2 _ _ ha) rfl), by rw [l.length]; exact hi⟩
theorem EI.tup (h : EV X e ρ (.tup ds) ρ1) : EI X tg e ρ ds ρ1 := .of (pi_tup pe_c) fun pp F G Hd H σ R er k => h pp F G Hd H σ _ er fun v Hd1 H1 e1 er1 r1 => by
  cases r1 with
  | @tup a xs _ ha l =>
    refine ⟨a, rfl, ⟨xs, er1.sb.sqt ha⟩, k _ Hd1 H1 e1 er1 ⟨fun i d H Hd e2 sb hi => ?_, fun i H Hd e2 sb hi => ?_⟩⟩
    · have hs : SqT X.K H a xs := sb.sqt (e2.sqt ha)
      obtain ⟨v, hv, rv⟩ := l.get hi
      refine ⟨⟨xs, v, hs, hv⟩, fun x H' y => ?_⟩
      obtain ⟨eH, y⟩ := y
      have := (y xs hs).symm.trans hv
      cases this
      exact ⟨eH, rv.mono e2⟩
    · exact ⟨xs, sb.sqt (e2.sqt ha), by rw [l.length]; exact hi⟩
/-- the ints below n -/
def intsTo (n : Nat) : List Dt := (List.range n).map fun (i : Nat) => Dt.int (i : Int)
theorem EI.range {n : Int} (hm : X.mg "range" = none) (h : EV X e ρ (.int n) ρ1) (h1 : -(2 ^ 62) ≤ n) (h2 : n < 2 ^ 62) (hg : Gl X "range" := by rfl) (hs : starEach [e] X.env = [(false, eval e X.env)] := by rfl) : EI X tg (.Call (.Name "range" p) [e] [] pos) ρ (intsTo n.toNat) ρ1 :=
  .of (pi_range1 hg hm (pa_cons pe_c pa_nil hs) hs) fun pp F G Hd H σ R er k => h pp F G Hd H σ _ er fun v Hd1 H1 e1 er1 r1 => by
    cases r1
    refine ⟨n, rfl, h1, h2, k _ Hd1 H1 e1 er1 ⟨fun i d H Hd e2 sb hi => ?_, fun i H Hd e2 sb hi => ?_⟩⟩
    · unfold intsTo at hi
      rw [List.getElem?_map] at hi
      cases q : (List.range n.toNat)[i]? with
      | none => rw [q] at hi; cases hi
      | some m =>
        rw [q] at hi
        cases hi
        obtain ⟨h3, h4⟩ := List.getElem?_eq_some_iff.mp q
        rw [List.length_range] at h3
        rw [List.getElem_range] at h4
        subst h4
        refine ⟨h3, fun x H' y => ?_⟩
        obtain ⟨eH, ex⟩ := y
        refine ⟨eH, ?_⟩
        rw [ex, show ((0 : Int) + (i : Int)) = (i : Int) from Int.zero_add _]
        exact .int _
    · unfold intsTo at hi
      rw [List.length_map, List.length_range] at hi
      exact hi
/-- the signs of a text -/
def signs (s : Str) : List Dt := s.cps.toList.map fun c => Dt.str ⟨#[c]⟩
theorem EI.str {s : Str} (h : EV X e ρ (.str s) ρ1) : EI X tg e ρ (signs s) ρ1 := .of (pi_str pe_c) fun pp F G Hd H σ R er k => h pp F G Hd H σ _ er fun v Hd1 H1 e1 er1 r1 => by
  cases r1
  refine ⟨s, rfl, k _ Hd1 H1 e1 er1 ⟨fun i d H Hd e2 sb hi => ?_, fun i H Hd e2 sb hi => ?_⟩⟩
  · unfold signs at hi
    rw [List.getElem?_map] at hi
    cases q : s.cps.toList[i]? with
    | none => rw [q] at hi; cases hi
    | some c =>
      rw [q] at hi
      cases hi
      rw [Array.getElem?_toList] at q
      refine ⟨(Array.getElem?_eq_some_iff.mp q).1, fun x H' y => ?_⟩
      obtain ⟨eH, c', hc', ex⟩ := y
      rw [q] at hc'
      cases hc'
      subst ex
      exact ⟨eH, .str _⟩
  · unfold signs at hi
    rw [List.length_map, Array.length_toList] at hi
    exact hi
end

/-! ### for, while -/
section
variable {X : Cx} {ρ ρ' ρ1 ρ2 ρ3 : List En} {d : Dt} {ds items : List Dt} {e tg iter c : Expr} {es : List Expr} {p pos : Pos} {P : Ou → Prop} {rest body : List Stmt} {js : List Nat}
/-- what a turn is to reach: I behind it, or the loop's end, or the def's -/
def Tn (X : Cx) (rest : List Stmt) (P : Ou → Prop) (I : List En → Prop) : Ou → Prop
  | .nx ρ => I ρ
  | .ct ρ => I ρ
  | .bk ρ => SD X rest ρ P
  | .rt d ρ => P (.rt d ρ)
theorem SD.for (hc : X.calm = true) (hi : EI X tg iter ρ items ρ1) (I : Nat → List En → Prop) (h0 : I 0 ρ1) (hs : ∀ i d ρ, items[i]? = some d → I i ρ → ∃ js ρ2, BT X tg js d ρ ρ2 ∧ SD X body ρ2 (Tn X rest P (I (i + 1)))) (hd : ∀ ρ, I items.length ρ → SD X rest ρ P)
    (hp : PassesOwn (model X.prog X.w) X.A X.env X.xe := by exact PassesOwn.never) (hf : ∀ x, foldedSetIterable iter X.env x = pure x := by intro _; rfl) : SD X (.For tg iter body [] pos :: rest) ρ P := by
  refine .st (ps_for hp hc pi_c pg_c pss_c hf) fun pp F G Hd H σ D er k => hi pp F G Hd H σ _ er fun J Hd1 H1 e1 er1 W => ?_
  refine ⟨fun i m σ H => m = items.length - i ∧ i ≤ items.length ∧ ∃ Hd' ρ', Ex Hd1 Hd' ∧ XR X pp F G Hd' H σ ρ' ∧ I i ρ', ⟨items.length, by simp, Nat.zero_le _, Hd1, ρ1, Ex.refl _, er1, h0⟩, ?_⟩
  rintro i m σ H ⟨rfl, hle, Hd', ρ', e2, er2, hI⟩
  by_cases hlt : i < items.length
  · have hget : items[i]? = some items[i] := List.getElem?_eq_getElem hlt
    obtain ⟨hgo, hy⟩ := W.1 i _ H Hd' e2 er2.sb hget
    obtain ⟨js, ρ2, hb, hbody⟩ := hs i _ ρ' hget hI
    refine .inr ⟨hgo, fun σ' H' => ∃ Hd'' ρ'', Ex Hd1 Hd'' ∧ XR X pp F G Hd'' H' σ' ρ'' ∧ I (i + 1) ρ'', fun σ' H' ⟨Hd'', ρ'', q1, q2, q3⟩ => ⟨items.length - (i + 1), by omega, rfl, hlt, Hd'', ρ'', q1, q2, q3⟩, fun x H' y => ?_⟩
    obtain ⟨eH, rx⟩ := hy x H' y
    subst eH
    refine hb pp F G Hd' _ σ x _ er2 rx fun σ3 Hd3 H3 e3 er3 _ => hbody pp F G Hd3 H3 σ3 _ er3 ⟨?_, ?_, ?_, ?_⟩
    · exact fun σ4 Hd4 H4 ρ4 e4 er4 q => ⟨Hd4, ρ4, (e2.trans e3).trans e4, er4, q⟩
    · exact fun σ4 Hd4 H4 ρ4 e4 er4 q => k.nx σ4 Hd4 H4 ρ4 (((e1.trans e2).trans e3).trans e4) er4 q
    · exact fun σ4 Hd4 H4 ρ4 e4 er4 q => ⟨Hd4, ρ4, (e2.trans e3).trans e4, er4, q⟩
    · exact fun v σ4 Hd4 H4 ρ4 d e4 er4 r q => k.rt v σ4 Hd4 H4 ρ4 d (((e1.trans e2).trans e3).trans e4) er4 r q
  · have e : i = items.length := by omega
    subst e
    exact .inl ⟨W.2 _ H Hd' e2 er2.sb (Nat.le_refl _), k.nx σ Hd' H ρ' (e1.trans e2) er2 (hd ρ' hI)⟩
theorem SD.while (I : Nat → List En → Prop) (m0 : Nat) (h0 : I m0 ρ) (hs : ∀ m ρ, I m ρ → ∃ b ρ1, ET X c ρ b ρ1 ∧ (b = true → SD X body ρ1 (Tn X rest P fun ρ' => ∃ m', m' < m ∧ I m' ρ')) ∧ (b = false → SD X rest ρ1 P))
    (hp : PassesOwn (model X.prog X.w) X.A X.env X.xe := by exact PassesOwn.never) : SD X (.While c body [] pos :: rest) ρ P := by
  refine .st (ps_while hp pt_c pss_c) fun pp F G Hd H σ D er k => ?_
  refine ⟨fun m σ H => ∃ Hd' ρ', Ex Hd Hd' ∧ XR X pp F G Hd' H σ ρ' ∧ I m ρ', ⟨m0, Hd, ρ, Ex.refl _, er, h0⟩, ?_⟩
  rintro m σ H ⟨Hd', ρ', e2, er2, hI⟩
  obtain ⟨b, ρ1, ht, hb1, hb2⟩ := hs m ρ' hI
  refine ht pp F G Hd' H σ _ er2 fun Hd3 H3 e3 er3 => ?_
  cases b with
  | true =>
    refine iteT ⟨fun σ' H' => ∃ m', m' < m ∧ ∃ Hd' ρ', Ex Hd Hd' ∧ XR X pp F G Hd' H' σ' ρ' ∧ I m' ρ', fun σ' H' q => q, hb1 rfl pp F G Hd3 H3 σ _ er3 ⟨?_, ?_, ?_, ?_⟩⟩
    · exact fun σ4 Hd4 H4 ρ4 e4 er4 ⟨m', hm, q⟩ => ⟨m', hm, Hd4, ρ4, (e2.trans e3).trans e4, er4, q⟩
    · exact fun σ4 Hd4 H4 ρ4 e4 er4 q => k.nx σ4 Hd4 H4 ρ4 ((e2.trans e3).trans e4) er4 q
    · exact fun σ4 Hd4 H4 ρ4 e4 er4 ⟨m', hm, q⟩ => ⟨m', hm, Hd4, ρ4, (e2.trans e3).trans e4, er4, q⟩
    · exact fun v σ4 Hd4 H4 ρ4 d e4 er4 r q => k.rt v σ4 Hd4 H4 ρ4 d ((e2.trans e3).trans e4) er4 r q
  | false => exact iteF (k.nx σ Hd3 H3 ρ1 (e2.trans e3) er3 (hb2 rfl))
theorem SD.unpack (h : EV X e ρ d ρ1) (hb : BT X tg js d ρ1 ρ2) (hk : SD X rest ρ2 P) (hs : swapsWithSole [tg] e pos.line X.env = pure false := by rfl) (hw : swappedStores [tg] e X.env = pure none := by rfl)
    (h1 : (assignEach [tg] X.env).map (·.2) = [assign tg X.env] := by rfl) : SD X (.Assign [tg] e pos :: rest) ρ P :=
  .st (ps_asg pe_c pg_c hs hw h1) fun pp F G Hd H σ D er k => h pp F G Hd H σ _ er fun v Hd1 H1 e1 er1 r1 => hb pp F G Hd1 H1 σ v _ er1 r1 fun σ2 Hd2 H2 e2 er2 _ => k.nx σ2 Hd2 H2 ρ2 (e1.trans e2) er2 hk
end

/-! ### comprehensions -/
def wipeE (ρ : List En) : List Nat → List En
  | [] => ρ
  | v :: vs => (wipeE ρ vs).set v .un
theorem wipeE_length (ρ : List En) : ∀ vs : List Nat, (wipeE ρ vs).length = ρ.length
  | [] => rfl
  | v :: vs => by unfold wipeE; rw [List.length_set, wipeE_length ρ vs]
theorem wipe_out' {σ : L2.St} {i : Nat} : ∀ {vs : List Nat}, i ∉ vs → (wipe σ vs)[i]? = σ[i]?
  | [], _ => rfl
  | v :: vs, h => by
    unfold wipe
    rw [List.getElem?_set_ne (fun e => h (by rw [e]; exact List.mem_cons_self)), wipe_out' fun z => h (List.mem_cons_of_mem _ z)]
theorem wipeE_out {ρ : List En} {i : Nat} : ∀ {vs : List Nat}, i ∉ vs → (wipeE ρ vs)[i]? = ρ[i]?
  | [], _ => rfl
  | v :: vs, h => by
    unfold wipeE
    rw [List.getElem?_set_ne (fun e => h (by rw [e]; exact List.mem_cons_self)), wipeE_out fun z => h (List.mem_cons_of_mem _ z)]
theorem wipeE_in {ρ : List En} {i : Nat} : ∀ {vs : List Nat}, i ∈ vs → i < ρ.length → (wipeE ρ vs)[i]? = some .un
  | v :: vs, h, hl => by
    unfold wipeE
    by_cases e : v = i
    · subst e
      rw [List.getElem?_set_self (by rw [wipeE_length]; exact hl)]
    · rw [List.getElem?_set_ne e]
      exact wipeE_in ((List.mem_cons.mp h).resolve_left fun z => e z.symm) hl
theorem wipe_in {σ : L2.St} {i : Nat} : ∀ {vs : List Nat}, i ∈ vs → i < σ.length → (wipe σ vs)[i]? = some none
  | v :: vs, h, hl => by
    unfold wipe
    by_cases e : v = i
    · subst e
      rw [List.getElem?_set_self (by rw [wipe_length]; exact hl)]
    · rw [List.getElem?_set_ne e]
      exact wipe_in ((List.mem_cons.mp h).resolve_left fun z => e z.symm) hl
theorem wipe_keep {σ σ' : L2.St} {vs js : List Nat} (h : Keep js (wipe σ vs) σ') (hj : ∀ j ∈ js, j ∈ vs) : wipe σ' vs = wipe σ vs := by
  have hl : σ'.length = σ.length := by rw [h.1, wipe_length]
  apply List.ext_getElem?
  intro i
  by_cases hi : i ∈ vs
  · by_cases hlt : i < σ.length
    · rw [wipe_in hi (by rw [hl]; exact hlt), wipe_in hi hlt]
    · rw [List.getElem?_eq_none (by rw [wipe_length, hl]; omega), List.getElem?_eq_none (by rw [wipe_length]; omega)]
  · rw [wipe_out' hi, h.2 i fun z => hi (hj i z)]
section
variable {P : Program} {w : World} {K : PySem.W.Frag} {pp : Option Addr} {F G Hd H Hd' H' : Hp} {σ σ3 : L2.St} {ρ ρ3 ρ5 : List En} {vs : List Nat}
theorem ER.wiped (er : ER P w K pp F G Hd H σ ρ) (h0 : 0 ∉ vs) : ER P w K pp F G Hd H (wipe σ vs) (wipeE ρ vs) where
  pt := fun a h => by rw [wipe_out' h0]; exact er.pt a h
  fr := er.fr
  gd := er.gd
  sb := er.sb
  sep := er.sep
  len := by rw [wipe_length, wipeE_length]; exact er.len
  sl := fun i e h => by
    by_cases hi : i ∈ vs
    · have hl : i < ρ.length := by have := (List.getElem?_eq_some_iff.mp h).1; rwa [wipeE_length] at this
      rw [wipeE_in hi hl] at h
      cases h
      exact ⟨none, wipe_in hi (by rw [er.len]; exact hl), trivial⟩
    · rw [wipeE_out hi] at h
      rw [wipe_out' hi]
      exact er.sl i e h
  ow := fun i j e e' a h1 h2 o1 o2 s1 s2 => by
    have hi : i ∉ vs := fun z => by
      have hl : i < ρ.length := by have := (List.getElem?_eq_some_iff.mp h1).1; rwa [wipeE_length] at this
      rw [wipeE_in z hl] at h1; cases h1; cases o1
    have hj : j ∉ vs := fun z => by
      have hl : j < ρ.length := by have := (List.getElem?_eq_some_iff.mp h2).1; rwa [wipeE_length] at this
      rw [wipeE_in z hl] at h2; cases h2; cases o2
    rw [wipeE_out hi] at h1
    rw [wipeE_out hj] at h2
    rw [wipe_out' hi] at s1
    rw [wipe_out' hj] at s2
    exact er.ow i j e e' a h1 h2 o1 o2 s1 s2
/-- ρ5: at vs as ρ was (nothing of one's own there), elsewhere as ρ3 is -/
def Bk (vs : List Nat) (ρ ρ3 ρ5 : List En) : Prop := ρ5.length = ρ.length ∧ ρ3.length = ρ.length ∧ ∀ k e, ρ5[k]? = some e → (k ∈ vs ∧ ρ[k]? = some e ∧ isOwn e = false) ∨ (k ∉ vs ∧ ρ3[k]? = some e)
theorem ER.unwipe (er : ER P w K pp F G Hd H σ ρ) (er3 : ER P w K pp F G Hd' H' σ3 ρ3) (e : Ex Hd Hd') (h : wipe σ3 vs = wipe σ vs) (b : Bk vs ρ ρ3 ρ5) : ER P w K pp F G Hd' H' σ ρ5 where
  pt := er.pt
  fr := er3.fr
  gd := er3.gd
  sb := er3.sb
  sep := er3.sep
  len := er.len.trans b.1.symm
  sl := fun i en hi => by
    rcases b.2.2 i en hi with ⟨hv, h1, h2⟩ | ⟨hv, h1⟩
    · obtain ⟨x, z1, z2⟩ := er.sl i en h1
      refine ⟨x, z1, ?_⟩
      cases en with
      | un => trivial
      | dat d => obtain ⟨v, e1, r⟩ := z2; exact ⟨v, e1, r.mono e⟩
      | ol ds => cases h2
      | od ds => cases h2
      | ob oo => cases h2
    · obtain ⟨x, z1, z2⟩ := er3.sl i en h1
      refine ⟨x, ?_, z2⟩
      rw [← wipe_out' (σ := σ) hv, ← h, wipe_out' hv]
      exact z1
  ow := fun i j en en' a h1 h2 o1 o2 s1 s2 => by
    rcases b.2.2 i en h1 with ⟨_, _, z⟩ | ⟨hv, q1⟩
    · rw [o1] at z; cases z
    · rcases b.2.2 j en' h2 with ⟨_, _, z⟩ | ⟨hv2, q2⟩
      · rw [o2] at z; cases z
      · refine er3.ow i j en en' a q1 q2 o1 o2 ?_ ?_
        · rw [← wipe_out' (σ := σ3) hv, h, wipe_out' hv]; exact s1
        · rw [← wipe_out' (σ := σ3) hv2, h, wipe_out' hv2]; exact s2
end
abbrev Bx (X : Cx) (scope : Scope) (s : Shared) (H : Hp) (C : Addr) (cl : List (Str × Addr)) (fp : List Addr) : Cx := X.blk s H scope (compEnvC scope cl C X.env) fp
/-- of every block of a comprehension -/
def AllB (X : Cx) (scope : Scope) (φ : Cx → Prop) : Prop := ∀ (s : Shared) (H : Hp) (C : Addr) (cl : List (Str × Addr)) (fp : List Addr), φ (Bx X scope s H C cl fp)
def ETs (X : Cx) : List Expr → List En → Bool → List En → Prop
  | [], ρ, b, ρ' => b = true ∧ ρ' = ρ
  | [c], ρ, b, ρ' => ET X c ρ b ρ'
  | _, _, _, _ => False
def cTs (X : Cx) (ifs : List Expr) : TT := fun σ H Q => ∀ pins s, Inv X pins σ H s → wpAny (model X.prog X.w) X.A (forIn ifs true fun c r => if r = true then do let ok ← isTrue c X.env (eval c X.env); pure (ForInStep.yield ok) else pure (ForInStep.yield r)) (TP X pins σ Q) X.xe s
theorem ETs.run {X : Cx} {ρ ρ' : List En} {b : Bool} : ∀ {ifs : List Expr}, ETs X ifs ρ b ρ' → ∀ pp F G Hd H σ (Q : Bool → Hp → Prop), XR X pp F G Hd H σ ρ → (∀ Hd' H', Ex Hd Hd' → XR X pp F G Hd' H' σ ρ' → Q b H') → cTs X ifs σ H Q
  | [], h, pp, F, G, Hd, H, σ, Q, er, k => fun pins s I => by
    obtain ⟨rfl, rfl⟩ := h
    exact pts_nil.run pins s σ H Q I (k Hd H (Ex.refl _) er)
  | [c], h, pp, F, G, Hd, H, σ, Q, er, k => fun pins s I => (pts_one (pt_c (e := c))).run pins s σ H Q I (h pp F G Hd H σ Q er k)
  | _ :: _ :: _, h, _, _, _, _, _, _, _, _, _ => h.elim
section
variable {X : Cx} {ρ ρ' ρ1 ρ2 ρ3 : List En} {d : Dt} {ds items out : List Dt} {elt tg iter : Expr} {ifs : List Expr} {p pos spos : Pos} {js : List Nat} {scope : Scope} {own : List (Str × Nat)}
/-- one turn of a comprehension -/
def LcTurn (X : Cx) (scope : Scope) (tg elt : Expr) (ifs : List Expr) (vs js : List Nat) (Pv : List Dt → List En → Prop) (acc : List Dt) (d : Dt) (ρ : List En) : Prop :=
  ∃ ρ2, AllB X scope (fun Y => BT Y tg js d (wipeE ρ vs) ρ2) ∧ ∃ b ρ3, AllB X scope (fun Y => ETs Y ifs ρ2 b ρ3) ∧
    (b = true → ∃ y ρ4 ρ5, AllB X scope (fun Y => EV Y elt ρ3 y ρ4) ∧ Bk vs ρ ρ4 ρ5 ∧ Pv (acc ++ [y]) ρ5) ∧ (b = false → ∃ ρ5, Bk vs ρ ρ3 ρ5 ∧ Pv acc ρ5)
end
section
variable {P : Program} {w : World} {K : PySem.W.Frag} {pp : Option Addr} {F G Hd H : Hp} {σ : L2.St} {ρ : List En} {D : Addr} {o o' : HO}
/-- an object that is nobody's is put under the frame's keeping -/
theorem ER.hold (er : ER P w K pp F G Hd H σ ρ) (hHd : Hd D = none) (hH : H D = some o) (how : ∀ (j : Nat) (e : En), ρ[j]? = some e → isOwn e = true → σ[j]? ≠ some (some (V.ref D))) : ER P w K pp (upd F D o) G Hd H σ ρ where
  pt := er.pt
  fr := fun a u z => by
    by_cases ha : a = D
    · subst ha; rw [upd_same] at z; cases z; exact hH
    · rw [upd_ne ha] at z; exact er.fr a u z
  gd := er.gd
  sb := er.sb
  sep := fun a q1 q2 => by
    by_cases ha : a = D
    · subst ha; exact hHd
    · rw [upd_ne ha] at q1; exact er.sep a q1 q2
  len := er.len
  sl := fun j en hj => by
    obtain ⟨x, z1, z2⟩ := er.sl j en hj
    refine ⟨x, z1, ?_⟩
    cases en with
    | un => trivial
    | dat d => exact z2
    | ol ds =>
      obtain ⟨c, ys, e1, kF, r⟩ := z2
      subst e1
      exact ⟨c, ys, rfl, by rw [upd_ne (fun z => by subst z; exact how j _ hj rfl z1)]; exact kF, r⟩
    | od ds =>
      obtain ⟨c, ys, e1, kF, r⟩ := z2
      subst e1
      exact ⟨c, ys, rfl, by rw [upd_ne (fun z => by subst z; exact how j _ hj rfl z1)]; exact kF, r⟩
    | ob oo =>
      obtain ⟨c, e1, kF, r⟩ := z2
      subst e1
      exact ⟨c, rfl, by rw [upd_ne (fun z => by subst z; exact how j _ hj rfl z1)]; exact kF, r⟩
  ow := er.ow
theorem ER.rehold (er : ER P w K pp (upd F D o) G Hd H σ ρ) (hF : F D = none) (hHd : Hd D = none) : ER P w K pp (upd F D o') G Hd (upd H D o') σ ρ where
  pt := er.pt
  fr := fun a u z => by
    by_cases ha : a = D
    · subst ha; rw [upd_same] at z ⊢; exact z
    · rw [upd_ne ha] at z ⊢; exact er.fr a u (by rw [upd_ne ha]; exact z)
  gd := er.gd
  sb := fun a u z => by rw [upd_ne (ne_of_none z hHd)]; exact er.sb a u z
  sep := fun a q1 q2 => by
    by_cases ha : a = D
    · subst ha; exact hHd
    · rw [upd_ne ha] at q1; exact er.sep a (by rw [upd_ne ha]; exact q1) q2
  len := er.len
  sl := fun j en hj => by
    obtain ⟨x, z1, z2⟩ := er.sl j en hj
    refine ⟨x, z1, ?_⟩
    cases en with
    | un => trivial
    | dat d => exact z2
    | ol ds =>
      obtain ⟨c, ys, e1, kF, kHd, kH, r⟩ := z2
      have ne : c ≠ D := fun z => by subst z; rw [upd_same] at kF; cases kF
      rw [upd_ne ne] at kF
      exact ⟨c, ys, e1, by rw [upd_ne ne]; exact kF, kHd, by rw [upd_ne ne]; exact kH, r⟩
    | od ds =>
      obtain ⟨c, ys, e1, kF, kHd, kH, r⟩ := z2
      have ne : c ≠ D := fun z => by subst z; rw [upd_same] at kF; cases kF
      rw [upd_ne ne] at kF
      exact ⟨c, ys, e1, by rw [upd_ne ne]; exact kF, kHd, by rw [upd_ne ne]; exact kH, r⟩
    | ob oo =>
      obtain ⟨c, e1, kF, kHd, kH⟩ := z2
      have ne : c ≠ D := fun z => by subst z; rw [upd_same] at kF; cases kF
      rw [upd_ne ne] at kF
      exact ⟨c, e1, by rw [upd_ne ne]; exact kF, kHd, by rw [upd_ne ne]; exact kH⟩
  ow := er.ow
/-- it becomes data -/
theorem ER.give (er : ER P w K pp (upd F D o) G Hd H σ ρ) (hF : F D = none) (hG : G D = none) : Ex Hd (upd Hd D o) ∧ ER P w K pp F G (upd Hd D o) H σ ρ := by
  have hHd : Hd D = none := er.sep D (by rw [upd_same]; exact Option.some_ne_none _) hG
  have ed : Ex Hd (upd Hd D o) := Ex.new hHd
  refine ⟨ed, er.pt, (Ex.new hF).trans er.fr, er.gd.trans ed, fun a u z => ?_, fun a q1 q2 => ?_, er.len, fun j en hj => ?_, er.ow⟩
  · by_cases ha : a = D
    · subst ha; rw [upd_same] at z; cases z; exact .inl (er.fr _ _ upd_same)
    · rw [upd_ne ha] at z; exact er.sb a u z
  · have ne : a ≠ D := fun z => by subst z; exact q1 hF
    rw [upd_ne ne]
    exact er.sep a (by rw [upd_ne ne]; exact q1) q2
  · obtain ⟨x, z1, z2⟩ := er.sl j en hj
    refine ⟨x, z1, ?_⟩
    cases en with
    | un => trivial
    | dat d => obtain ⟨v, e1, r⟩ := z2; exact ⟨v, e1, r.mono ed⟩
    | ol ds =>
      obtain ⟨c, ys, e1, kF, kHd, kH, r⟩ := z2
      have ne : c ≠ D := fun z => by subst z; rw [upd_same] at kF; cases kF
      rw [upd_ne ne] at kF
      exact ⟨c, ys, e1, kF, by rw [upd_ne ne]; exact kHd, kH, r.mono ed⟩
    | od ds =>
      obtain ⟨c, ys, e1, kF, kHd, kH, r⟩ := z2
      have ne : c ≠ D := fun z => by subst z; rw [upd_same] at kF; cases kF
      rw [upd_ne ne] at kF
      exact ⟨c, ys, e1, kF, by rw [upd_ne ne]; exact kHd, kH, r.mono ed⟩
    | ob oo =>
      obtain ⟨c, e1, kF, kHd, kH⟩ := z2
      have ne : c ≠ D := fun z => by subst z; rw [upd_same] at kF; cases kF
      rw [upd_ne ne] at kF
      exact ⟨c, e1, kF, by rw [upd_ne ne]; exact kHd, kH⟩
end
section
variable {X : Cx} {ρ ρ' ρ1 ρ2 ρ3 : List En} {d : Dt} {ds items out : List Dt} {elt tg iter : Expr} {ifs : List Expr} {p pos spos : Pos} {js : List Nat} {scope : Scope} {own : List (Str × Nat)}
def bG (X : Cx) (scope : Scope) (tg : Expr) : TG := fun v σ H Q => ∀ (s : Shared) (H0 : Hp) (C : Addr) (cl : List (Str × Addr)) (fp : List Addr), cG (Bx X scope s H0 C cl fp) tg v σ H Q
def bTs (X : Cx) (scope : Scope) (ifs : List Expr) : TT := fun σ H Q => ∀ (s : Shared) (H0 : Hp) (C : Addr) (cl : List (Str × Addr)) (fp : List Addr), cTs (Bx X scope s H0 C cl fp) ifs σ H Q
def bE (X : Cx) (scope : Scope) (elt : Expr) : TE := fun σ H Q => ∀ (s : Shared) (H0 : Hp) (C : Addr) (cl : List (Str × Addr)) (fp : List Addr), cE (Bx X scope s H0 C cl fp) elt σ H Q
/-- the reading of a comprehension -/
theorem lc_read (hi : EI X tg iter ρ items ρ1) (Pv : Nat → List Dt → List En → Prop) (h0 : Pv 0 [] ρ1) (hj : ∀ j ∈ js, j ∈ own.map (·.2)) (hv0 : 0 ∉ own.map (·.2)) (hz : items.length < sizeLine)
    (hs : ∀ i acc d ρ, items[i]? = some d → acc.length ≤ i → Pv i acc ρ → LcTurn X scope tg elt ifs (own.map (·.2)) js (Pv (i + 1)) acc d ρ) (hd : ∀ acc ρ, Pv items.length acc ρ → acc = out ∧ ρ = ρ') :
    ∀ pp F G Hd H σ Q, XR X pp F G Hd H σ ρ → KE X pp F G Hd σ (.lst out) ρ' Q → tLc (cI X tg iter) (bG X scope tg) (bTs X scope ifs) (bE X scope elt) (own.map (·.2)) σ H Q := by
  intro pp F G Hd H σ Q er k
  refine hi pp F G Hd H σ _ er fun J Hd1 H1 e1 er1 W D hD => ?_
  have hFD : F D = none := er1.fr.back hD
  have hHdD : Hd1 D = none := er1.fresh hD
  have hGD : G D = none := er1.gd.back hHdD
  have hFJ : ∀ {vsx : List V} {Hd' H' : Hp} {ρ' : List En}, XR X pp (upd F D (.lst vsx)) G Hd' H' σ ρ' → Ex F H' := fun er => (Ex.new hFD).trans er.fr
  have er1' : XR X pp (upd F D (.lst [])) G Hd1 (upd H1 D (.lst [])) σ ρ1 := by
    refine (er1.grow (Ex.new hD)).hold hHdD upd_same fun j e g o z => ?_
    obtain ⟨x, z1, z2⟩ := er1.sl j e g
    rw [z] at z1
    cases z1
    cases e with
    | un => cases o
    | dat d => cases o
    | ol ds => obtain ⟨b, ys, e1, kF, kHd, kH, q⟩ := z2; cases e1; rw [hD] at kH; cases kH
    | od ds => obtain ⟨b, ys, e1, kF, kHd, kH, q⟩ := z2; cases e1; rw [hD] at kH; cases kH
    | ob oo => obtain ⟨b, e1, kF, kHd, kH⟩ := z2; cases e1; rw [hD] at kH; cases kH
  refine ⟨fun i m H => m = items.length - i ∧ i ≤ items.length ∧ ∃ Hd' acc vsx ρa, Ex Hd1 Hd' ∧ XRepL X Hd' vsx acc ∧ acc.length ≤ i ∧ XR X pp (upd F D (.lst vsx)) G Hd' H σ ρa ∧ Pv i acc ρa,
    ⟨items.length, by simp, Nat.zero_le _, Hd1, [], [], ρ1, Ex.refl _, .nil, Nat.zero_le _, er1', h0⟩, ?_⟩
  rintro i m H2 ⟨rfl, hle, Hd2, acc, vsx, ρa, e2, racc, hacc, er2, hP⟩
  by_cases hlt : i < items.length
  · have hget : items[i]? = some items[i] := List.getElem?_eq_getElem hlt
    obtain ⟨hgo, hy⟩ := W.1 i _ H2 Hd2 e2 er2.sb hget
    obtain ⟨ρ2, hbt, b, ρ3, het, hb1, hb2⟩ := hs i acc _ ρa hget hacc hP
    refine .inr ⟨hgo, fun H' => ∃ Hd' acc vsx ρb, Ex Hd1 Hd' ∧ XRepL X Hd' vsx acc ∧ acc.length ≤ i + 1 ∧ XR X pp (upd F D (.lst vsx)) G Hd' H' σ ρb ∧ Pv (i + 1) acc ρb, fun H' q => ⟨items.length - (i + 1), by omega, rfl, hlt, q⟩, fun x H' y => ?_⟩
    obtain ⟨eH, rx⟩ := hy x H' y
    subst eH
    have erW := er2.wiped (vs := own.map (·.2)) hv0
    intro s0 H0 C0 cl0 fp0
    refine hbt s0 H0 C0 cl0 fp0 pp (upd F D (.lst vsx)) G Hd2 H' (wipe σ (own.map (·.2))) x _ erW rx fun σ3 Hd3 H3 e3 er3 kp => ?_
    have hw := wipe_keep kp hj
    refine ⟨hw, fun s4 H4 C4 cl4 fp4 => ?_⟩
    refine ETs.run (het s4 H4 C4 cl4 fp4) pp (upd F D (.lst vsx)) G Hd3 H3 σ3 _ er3 fun Hd5 H5 e5 er5 => ?_
    cases b with
    | true =>
      obtain ⟨y, ρ4, ρ5, hev, hbk, hPv⟩ := hb1 rfl
      refine iteT fun s6 H6 C6 cl6 fp6 => ?_
      refine hev s6 H6 C6 cl6 fp6 pp (upd F D (.lst vsx)) G Hd5 H5 σ3 _ er5 fun yv Hd7 H7 e7 er7 r7 => ?_
      have hD7 : H7 D = some (.lst vsx) := er7.fr D _ upd_same
      have hHd7 : Hd7 D = none := er7.sep D (by rw [upd_same]; exact Option.some_ne_none _) hGD
      have eAll : Ex Hd2 Hd7 := (e3.trans e5).trans e7
      have er8 := er2.unwipe er7 eAll hw hbk
      have racc7 : XRepL X Hd7 (vsx ++ [yv]) (acc ++ [y]) := (racc.mono eAll).append (.cons r7 .nil)
      exact ⟨vsx, hD7, by rw [racc.length]; omega, Hd7, acc ++ [y], vsx ++ [yv], ρ5, e2.trans eAll, racc7, by rw [List.length_append, List.length_singleton]; omega, er8.rehold hFD hHd7, hPv⟩
    | false =>
      obtain ⟨ρ5, hbk, hPv⟩ := hb2 rfl
      have eAll : Ex Hd2 Hd5 := e3.trans e5
      have er8 := er2.unwipe er5 eAll hw hbk
      exact iteF ⟨Hd5, acc, vsx, ρ5, e2.trans eAll, racc.mono eAll, by omega, er8, hPv⟩
  · have e : i = items.length := by omega
    subst e
    refine .inl ⟨W.2 _ H2 Hd2 e2 er2.sb (Nat.le_refl _), ?_⟩
    obtain ⟨rfl, rfl⟩ := hd acc ρa hP
    obtain ⟨ed, er9⟩ := er2.give hFD hGD
    exact k _ _ _ ((e1.trans e2).trans ed) er9 (.lst upd_same (racc.mono ed))
theorem EV.lc (hc : X.calm = true) (hN : X.N.Nodup) (ok : BlkOk X.N X.env.scope scope own) (hi : EI X tg iter ρ items ρ1) (Pv : Nat → List Dt → List En → Prop) (h0 : Pv 0 [] ρ1) (hj : ∀ j ∈ js, j ∈ own.map (·.2)) (hv0 : 0 ∉ own.map (·.2)) (hz : items.length < sizeLine)
    (hs : ∀ i acc d ρ, items[i]? = some d → acc.length ≤ i → Pv i acc ρ → LcTurn X scope tg elt ifs (own.map (·.2)) js (Pv (i + 1)) acc d ρ) (hd : ∀ acc ρ, Pv items.length acc ρ → acc = out ∧ ρ = ρ')
    (hf : ∀ x, foldedSetIterable iter X.env x = pure x := by intro _; rfl) : EV X (.ListComp elt [⟨tg, iter, ifs, 0⟩] scope pos) ρ (.lst out) ρ' :=
  .of (pe_lc (te := bE X scope elt) (g := bG X scope tg) (tt := bTs X scope ifs) hc hN pi_c ok (fun s H C cl fp => ⟨fun pins s' σ H' v u Q I r h => h s H C cl fp pins s' u I r⟩) (fun s H C cl fp => ⟨fun pins s' σ H' Q I h => h s H C cl fp pins s' I⟩)
    (fun s H C cl fp => ⟨fun pins s' σ H' Q I h => h s H C cl fp pins s' I⟩) hf) (lc_read hi Pv h0 hj hv0 hz hs hd)
/-- y = [..], y a local -/
theorem SD.lc {P : Ou → Prop} {rest : List Stmt} {i : Nat} {y : Str} (hc : X.calm = true) (hN : X.N.Nodup) (ok : BlkOk X.N X.env.scope scope own) (hi : EI X tg iter ρ items ρ1) (Pv : Nat → List Dt → List En → Prop) (h0 : Pv 0 [] ρ1) (hj : ∀ j ∈ js, j ∈ own.map (·.2)) (hv0 : 0 ∉ own.map (·.2)) (hz : items.length < sizeLine)
    (hs : ∀ i acc d ρ, items[i]? = some d → acc.length ≤ i → Pv i acc ρ → LcTurn X scope tg elt ifs (own.map (·.2)) js (Pv (i + 1)) acc d ρ) (hd : ∀ acc ρ, Pv items.length acc ρ → acc = out ∧ ρ = ρ')
    (hk : SD X rest (ρ'.set i (.dat (.lst out))) P) (hsw : swapsWith (.ListComp elt [⟨tg, iter, ifs, 0⟩] scope pos) (some (.Name y p)) spos.line X.env = pure true) (hy : X.N[i]? = some y := by rfl) (hy0 : i ≠ 0 := by decide) (hyl : X.env.scope.names.lookup y = some .local := by rfl)
    (hf : ∀ x, foldedSetIterable iter X.env x = pure x := by intro _; rfl) : SD X (.Assign [.Name y p] (.ListComp elt [⟨tg, iter, ifs, 0⟩] scope pos) spos :: rest) ρ P :=
  .st (ps_setLc (te := bE X scope elt) (g := bG X scope tg) (tt := bTs X scope ifs) hc hN hy hyl hsw pi_c ok (fun s H C cl fp => ⟨fun pins s' σ H' v u Q I r h => h s H C cl fp pins s' u I r⟩) (fun s H C cl fp => ⟨fun pins s' σ H' Q I h => h s H C cl fp pins s' I⟩)
    (fun s H C cl fp => ⟨fun pins s' σ H' Q I h => h s H C cl fp pins s' I⟩) hf) fun pp F G Hd H σ D er k => lc_read hi Pv h0 hj hv0 hz hs hd pp F G Hd H σ _ er fun v Hd1 H1 e1 er1 r1 => k.nx _ Hd1 H1 _ e1 (er1.set r1 hy0) hk
end
end Rw
namespace Rw
open PySem PySem.Spec PyProof.Rows L2

/-! ### keys -/
section
variable {X : Cx} {pins : List (Addr × Obj)} {σ : L2.St} {Hd H : Hp} {s : Shared}
mutual
theorem key_is (I : Inv X pins σ H s) (sb : Sub Hd H) : ∀ (k : NestedKey) (v : V) (u : Value), XRep X Hd v (nkD k) → RelV v u → NestedIs s.heap k u
  | .none, v, u, r, rv => by
    cases r
    cases rv
    exact .none
  | .num i, v, u, r, rv => by
    cases r
    obtain ⟨t, rfl⟩ := rv
    exact .int i t
  | .text x, v, u, r, rv => by
    cases r
    obtain ⟨t, rfl⟩ := rv
    exact .text x t
  | .tup ks, v, u, r, rv => by
    cases r with
    | tup h l =>
      cases rv
      obtain ⟨its, rl, ⟨o, ho, hc, n, hd⟩, _⟩ := I.tuple (sb.sqt h)
      exact .tup ho hc hd (keys_are I sb ks _ _ l rl)
theorem keys_are (I : Inv X pins σ H s) (sb : Sub Hd H) : ∀ (ks : List NestedKey) (vs : List V) (us : List Value), XRepL X Hd vs (nkDs ks) → Vals vs us → NestedAll s.heap ks us
  | [], vs, us, r, rv => by
    cases r
    cases rv
    exact .nil
  | k :: ks, vs, us, r, rv => by
    cases r with
    | cons h l =>
      cases rv with
      | cons g t => exact .cons (key_is I sb k _ _ h g) (keys_are I sb ks _ _ l t)
end
end

/-! ### look-ups -/
def lk : List (NestedKey × Dt) → NestedKey → Option Dt
  | [], _ => none
  | p :: r, k => if p.1 = k then some p.2 else lk r k
theorem atKey_cons {x : NestedKey × Addr × Value} {xs : List (NestedKey × Addr × Value)} {k : NestedKey} : atKey (x :: xs) k = if x.1 = k then some x.2 else atKey xs k := by
  by_cases h : x.1 = k
  · simp [atKey, h]
  · simp [atKey, h]
section
variable {P : Program} {w : World} {K : PySem.W.Frag} {Hd H : Hp}
theorem lk_some : ∀ {xs : List (NestedKey × Addr × V)} {us : List (NestedKey × Addr × Value)} {kvs : List (NestedKey × Dt)} {k : NestedKey} {d : Dt}, Paired RelX xs us → RepD P w K Hd xs kvs → lk kvs k = some d → ∃ b u v, atKey us k = some (b, u) ∧ RelV v u ∧ Rep P w K Hd v d
  | _, _, _, _, _, .nil, .nil, h => by cases h
  | (k0, b0, v0) :: xs, y :: us, (_, d0) :: kvs, k, d, p, .cons h1 h2 h3 h4, h => by
    cases p with
    | cons r t =>
      obtain ⟨e1, e2, e3⟩ := r
      rw [atKey_cons]
      have h' : (if k0 = k then some d0 else lk kvs k) = some d := h
      by_cases hk : k0 = k
      · rw [if_pos hk] at h'
        cases h'
        rw [if_pos (e1.symm.trans hk)]
        exact ⟨y.2.1, y.2.2, _, rfl, e3, h3⟩
      · rw [if_neg hk] at h'
        rw [if_neg (fun z => hk (Eq.trans e1 z))]
        exact lk_some t h4 h'
theorem lk_none : ∀ {xs : List (NestedKey × Addr × V)} {us : List (NestedKey × Addr × Value)} {kvs : List (NestedKey × Dt)} {k : NestedKey}, Paired RelX xs us → RepD P w K Hd xs kvs → lk kvs k = none → atKey us k = none
  | _, _, _, _, .nil, .nil, h => rfl
  | (k0, b0, v0) :: xs, y :: us, (_, d0) :: kvs, k, p, .cons h1 h2 h3 h4, h => by
    cases p with
    | cons r t =>
      obtain ⟨e1, e2, e3⟩ := r
      rw [atKey_cons]
      have h' : (if k0 = k then some d0 else lk kvs k) = none := h
      by_cases hk : k0 = k
      · rw [if_pos hk] at h'; cases h'
      · rw [if_neg hk] at h'
        rw [if_neg (fun z => hk (Eq.trans e1 z))]
        exact lk_none t h4 h'
theorem lk_isSome {xs : List (NestedKey × Addr × V)} {us : List (NestedKey × Addr × Value)} {kvs : List (NestedKey × Dt)} {k : NestedKey} (p : Paired RelX xs us) (r : RepD P w K Hd xs kvs) : (atKey us k).isSome = (lk kvs k).isSome := by
  cases h : lk kvs k with
  | none => rw [lk_none p r h]; rfl
  | some d => obtain ⟨b, u, v, e, _⟩ := lk_some p r h; rw [e]; rfl
theorem RepD.length : ∀ {xs : List (NestedKey × Addr × V)} {kvs : List (NestedKey × Dt)}, RepD P w K H xs kvs → xs.length = kvs.length
  | _, _, .nil => rfl
  | _, _, .cons _ _ _ r => congrArg (· + 1) (RepD.length r)
theorem RepD.get : ∀ {xs : List (NestedKey × Addr × V)} {kvs : List (NestedKey × Dt)} {i : Nat} {k : NestedKey} {d : Dt}, RepD P w K H xs kvs → kvs[i]? = some (k, d) → ∃ b v, xs[i]? = some (k, b, v) ∧ Rep P w K H (.ref b) (nkD k) ∧ Rep P w K H v d
  | _, _, _, _, _, .nil, e => by simp at e
  | _, _, 0, _, _, .cons h1 h2 h3 h4, e => by
    simp at e
    obtain ⟨rfl, rfl⟩ := e
    exact ⟨_, _, rfl, h1, h3⟩
  | _, _, i + 1, _, _, .cons h1 h2 h3 h4, e => by
    obtain ⟨b, v, q1, q2⟩ := RepD.get (i := i) h4 (by simpa using e)
    exact ⟨b, v, by simpa using q1, q2⟩
theorem RepD.keys : ∀ {xs : List (NestedKey × Addr × V)} {kvs : List (NestedKey × Dt)}, RepD P w K H xs kvs → xs.map (·.1) = kvs.map (·.1)
  | _, _, .nil => rfl
  | _, _, .cons _ _ _ r => by rw [List.map_cons, List.map_cons, RepD.keys r]
end
section
variable {X : Cx} {pins : List (Addr × Obj)} {σ : L2.St} {Hd H : Hp} {s : Shared} {a : Addr} {xs : DX} {kvs : List (NestedKey × Dt)}
theorem are_keys (I : Inv X pins σ H s) (sb : Sub Hd H) : ∀ {xs : List (NestedKey × Addr × V)} {us : List (NestedKey × Addr × Value)} {kvs : List (NestedKey × Dt)}, Paired RelX xs us → RepD X.prog X.w X.K Hd xs kvs → ∀ y ∈ us, (nestedKind X.prog X.w).is s.heap y.1 y.2.1
  | _, _, _, .nil, .nil, y, hy => nomatch hy
  | (k0, b0, v0) :: xs, z :: us, (_, d0) :: kvs, p, .cons h1 h2 h3 h4, y, hy => by
    cases p with
    | cons r t =>
      obtain ⟨e1, e2, e3⟩ := r
      rcases List.mem_cons.mp hy with e | hy
      · subst e
        have e1' : k0 = y.1 := e1
        have e2' : b0 = y.2.1 := e2
        rw [← e1', ← e2']
        exact ⟨key_is I sb _ _ _ h1 rfl, h2⟩
      · exact are_keys I sb t h4 y hy
/-- the dict as the library tells it -/
theorem dict_at (I : Inv X pins σ H s) (sb : Sub Hd H) (h : Rd H a (.ext (DObj X.prog X.w a xs))) (r : RepD X.prog X.w X.K Hd xs.1 kvs) :
    ∃ us, (a == sysModules) = false ∧ us.length ≤ sizeLine ∧ Paired RelX xs.1 us ∧ s.heap.DictOfH (nestedKind X.prog X.w) a us := by
  obtain ⟨⟨h1, h2, h3, us, p, o, es, ho, hc, hd, he⟩, _⟩ := h.ok I.hok
  have hk : us.map (·.1) = xs.1.map (·.1) := by
    clear h2 h3 he r
    generalize xs.1 = l at p
    induction p with
    | nil => rfl
    | cons q t ih => rw [List.map_cons, List.map_cons, ih, q.1]
  exact ⟨us, h1, by rw [← Paired.length p]; exact h2, p, o, es, xs.2, ho, hc, hd, he, are_keys I sb p r, by rw [hk]; exact h3⟩
theorem dict_raw (I : Inv X pins σ H s) (h : Rd H a (.ext (DObj X.prog X.w a xs))) : ∃ es us, (a == sysModules) = false ∧ es.size = xs.1.length ∧ Paired RelX xs.1 us ∧ s.heap.DictRaw a es xs.2 ∧ es.toList = us.map (entryOfKey (nestedKind X.prog X.w)) := by
  obtain ⟨⟨h1, h2, h3, us, p, o, es, ho, hc, hd, he⟩, _⟩ := h.ok I.hok
  exact ⟨es, us, h1, by rw [size_of_entries he]; exact (Paired.length p).symm, p, ⟨o, ho, hc, hd⟩, he⟩
end

/-! ### in, [], get, len -/
section
variable {X : Cx} {ρ ρ' ρ1 ρ2 ρ3 : List En} {d : Dt} {e a b : Expr} {es : List Expr} {pos p apos : Pos} {ks : List NestedKey} {kvs : List (NestedKey × Dt)} {r : Nat} {q : Bool}
/-- a key and a dict -/
def KD (X : Cx) (x y : V) (H : Hp) (ks : List NestedKey) (kvs : List (NestedKey × Dt)) (Hd : Hp) : Prop :=
  Sub Hd H ∧ XRep X Hd x (nkD (.tup ks)) ∧ (NestedKey.tup ks).depth ≤ 8 ∧ ∃ a xs, y = .ref a ∧ Rd H a (.ext (DObj X.prog X.w a xs)) ∧ RepD X.prog X.w X.K Hd xs.1 kvs
theorem KD.of {pp : Option Addr} {F G Hd H : Hp} {σ : L2.St} {x y : V} (er : XR X pp F G Hd H σ ρ) (r1 : XRep X Hd x (nkD (.tup ks))) (hd : (NestedKey.tup ks).depth ≤ 8) (r2 : XRep X Hd y (.dic kvs)) : KD X x y H ks kvs Hd := by
  cases r2 with
  | dic h l => exact ⟨er.sb, r1, hd, _, _, rfl, er.sb.rd h, l⟩
theorem KD.at {pins : List (Addr × Obj)} {σ : L2.St} {Hd H : Hp} {s : Shared} {x y : V} {v u : Value} (I : Inv X pins σ H s) (rx : RelV x v) (ry : RelV y u) (h : KD X x y H ks kvs Hd) :
    ∃ a b us xs, v = .ref b ∧ u = .ref a ∧ (a == sysModules) = false ∧ us.length ≤ sizeLine ∧ Paired RelX xs us ∧ RepD X.prog X.w X.K Hd xs kvs ∧ s.heap.DictOfH (nestedKind X.prog X.w) a us ∧ (nestedKind X.prog X.w).is s.heap (.tup ks) b := by
  obtain ⟨sb, r1, hd, a, xs, rfl, h, l⟩ := h
  cases ry
  obtain ⟨us, q1, q2, q3, q4⟩ := dict_at I sb h l
  have hk := key_is I sb _ _ _ r1 rx
  cases r1
  cases rx
  exact ⟨a, _, us, xs.1, rfl, rfl, q1, q2, q3, l, q4, hk, hd⟩
theorem room8 (hr : Room r X.A) : (nestedKind X.prog X.w).room X.A.in1 := by
  have := hr.un
  show X.A.units + 1 + 8 < cLine
  omega
theorem op_inK (hr : Room r X.A) : OpR X (compareOp .In) (fun x y H Q => ∃ ks kvs Hd, KD X x y H ks kvs Hd ∧ Q (.bl (lk kvs (.tup ks)).isSome) H) := by
  intro pins s σ H x y v u Q I rx ry h
  obtain ⟨ks, kvs, Hd, kd, q⟩ := h
  obtain ⟨a, b, us, xs, rfl, rfl, h1, h2, h3, h4, h5, h6⟩ := kd.at I rx ry
  refine wpAny_in_heap (room8 hr) h6 h1 h5 ⟨.bl _, H, I.tok _, rfl, ?_⟩
  rw [lk_isSome h3 h4]
  exact q
theorem op_ninK (hr : Room r X.A) : OpR X (compareOp .NotIn) (fun x y H Q => ∃ ks kvs Hd, KD X x y H ks kvs Hd ∧ Q (.bl (!(lk kvs (.tup ks)).isSome)) H) := by
  intro pins s σ H x y v u Q I rx ry h
  obtain ⟨ks, kvs, Hd, kd, q⟩ := h
  obtain ⟨a, b, us, xs, rfl, rfl, h1, h2, h3, h4, h5, h6⟩ := kd.at I rx ry
  refine notIn_keyed (kvs := pairsH us) (room8 hr) h6 h1 ⟨us, h5, rfl⟩ ⟨.bl _, H, I.tok _, rfl, ?_⟩
  rw [valueAt_pairsH, Option.isSome_map, lk_isSome h3 h4]
  exact q
theorem EC.inK (hr : Room r X.A) (ha : EV X a ρ (nkD (.tup ks)) ρ1) (hb : EV X b ρ1 (.dic kvs) ρ2) (hd : (NestedKey.tup ks).depth ≤ 8) : EC X .In a b ρ (lk kvs (.tup ks)).isSome ρ2 := ⟨_, _, _, _, op_inK hr, ha, hb, fun pp F G Hd H σ ρ vx vy Q er r1 r2 k =>
  ⟨ks, kvs, Hd, .of er r1 hd r2, k.now er (.bl _)⟩⟩
theorem EC.ninK (hr : Room r X.A) (ha : EV X a ρ (nkD (.tup ks)) ρ1) (hb : EV X b ρ1 (.dic kvs) ρ2) (hd : (NestedKey.tup ks).depth ≤ 8) : EC X .NotIn a b ρ (!(lk kvs (.tup ks)).isSome) ρ2 := ⟨_, _, _, _, op_ninK hr, ha, hb, fun pp F G Hd H σ ρ vx vy Q er r1 r2 k =>
  ⟨ks, kvs, Hd, .of er r1 hd r2, k.now er (.bl _)⟩⟩
theorem ix_K (hr : Room r X.A) : L2.IxR X (fun y x H Q => ∃ ks kvs Hd d, KD X x y H ks kvs Hd ∧ lk kvs (.tup ks) = some d ∧ ∀ v, XRep X Hd v d → Q v H) := by
  intro value slice pins s σ H y x u v Q I ry rx h hs
  obtain ⟨ks, kvs, Hd, d, kd, hl, q⟩ := h
  obtain ⟨a, b, us, xs, rfl, rfl, h1, h2, h3, h4, h5, h6⟩ := kd.at I rx ry
  obtain ⟨b', u, v, e, rv, r⟩ := lk_some h3 h4 hl
  exact subscriptTail_builtinR (x := u) h5.typeIs PySem.F.slot_dict_getitem.lookup
    (wpAny_getItem_heap (Q := fun r s' => r = u ∧ EP X pins σ Q r s') (room8 hr) h6 h5 e ⟨rfl, v, H, I.tok _, rv, q v r⟩) hs
theorem EV.ixK (hr : Room r X.A) (ha : EV X a ρ (.dic kvs) ρ1) (hb : EV X b ρ1 (nkD (.tup ks)) ρ2) (hd : (NestedKey.tup ks).depth ≤ 8) (hl : lk kvs (.tup ks) = some d) (hs : PlainIx b := by exact fun _ _ => rfl) : EV X (.Subscript a b pos) ρ d ρ2 :=
  .ix (ix_K hr) ha hb (fun pp F G Hd H σ ρ vx vy Q er r1 r2 k => ⟨ks, kvs, Hd, d, .of er r2 hd r1, hl, fun v rv => k.now er rv⟩) hs
theorem call_lenK : CallR X (.builtin "len") (fun xs H Q => ∃ a x Hd kvs, xs = [.ref a] ∧ Sub Hd H ∧ Rd H a (.ext (DObj X.prog X.w a x)) ∧ RepD X.prog X.w X.K Hd x.1 kvs ∧ Q (.int kvs.length) H) := by
  intro pins s σ H xs us Q I rs h
  obtain ⟨a, x, Hd, kvs, rfl, sb, h, l, q⟩ := h
  rw [Vals.ref1 rs]
  obtain ⟨us', q1, q2, q3, q4⟩ := dict_at I sb h l
  have hl : us'.length = kvs.length := by rw [← Paired.length q3, l.length]
  have hz : (sizeLine : Nat) < 2 ^ 63 := line63
  refine PyProof.Rows.call_len_slot (n := us'.length) q4.typeIs F.slot_dict_len (fun Q' hq => len_keyed (kvs := pairsH us') q1 ⟨us', q4, rfl⟩ (by rw [pairsH_length]; exact hq)) (by omega) (by omega) ⟨.int us'.length, H, (I.tok _).tok _, ⟨_, rfl⟩, ?_⟩
  rw [hl]
  exact q
theorem EV.lenK (hm : X.mg "len" = none) (ha : EV X e ρ (.dic kvs) ρ') (hg : Gl X "len" := by rfl) (he : starEach (e :: []) X.env = (false, eval e X.env) :: starEach [] X.env := by rfl) : EV X (.Call (.Name "len" p) [e] [] pos) ρ (.int (kvs.length : Int)) ρ' :=
  .callB call_lenK PySem.boot_len hm (.one ha he) (fun pp F G Hd H σ ρ vs Q er r k => by
    obtain ⟨v, rfl, r1⟩ := r.one
    cases r1 with
    | dic h l => exact ⟨_, _, Hd, kvs, rfl, er.sb, er.sb.rd h, l, k.now er (.int _)⟩) hg (by decide) (by decide) he (by rfl)
/-- d.get(k) -/
theorem EV.get (hr : Room r X.A) (ho : EV X a ρ (.dic kvs) ρ1) (he : EV X e ρ1 (nkD (.tup ks)) ρ2) (hd : (NestedKey.tup ks).depth ≤ 8)
    (hbase : attributeBase a "get" X.env (eval a X.env) = eval a X.env := by rfl)
    (hfew : ((backTo pos (starEach (e :: []) X.env)).all (fun x => !x.1) && (backToKw pos (keywordEach [] X.env)).all (fun x => x.1.isSome)
      && decide ((e :: ([] : List Expr)).length + ([] : List Keyword).length + (if ([] : List Keyword).isEmpty then 0 else 1) < 30)) = true := by rfl)
    (hline : (apos.endLine == pos.line) = true := by rfl) (hs : starEach (e :: []) X.env = (false, eval e X.env) :: starEach [] X.env := by rfl) :
    EV X (.Call (.Attribute a "get" apos) [e] [] pos) ρ ((lk kvs (.tup ks)).getD .non) ρ2 := fun pp F G Hd H σ Q er k pins s I => by
  refine wpAny_Call_method_late hbase hfew hline rfl (thn (ho pp F G Hd H σ (fun v H' => ∃ Hd1, Ex Hd Hd1 ∧ XR X pp F G Hd1 H' σ ρ1 ∧ XRep X Hd1 v (.dic kvs)) er (fun v Hd1 H1 e1 er1 r1 => ⟨Hd1, e1, er1, r1⟩) pins s I) fun v s1 ⟨x, H1, I1, r1, Hd1, e1, er1, rd1⟩ => ?_)
  cases rd1 with
  | @dic a0 xs _ h0 l0 =>
    cases r1
    obtain ⟨us1, q1, q2, q3, q4⟩ := dict_at I1 er1.sb (er1.sb.rd h0) l0
    refine ⟨"dict", "dict.get", PySem.F.plainAttrs_dict, PySem.F.slot_dict_get, PySem.F.type_dict_get, q4.typeIs, fun b hb => ?_, ?_⟩
    · cases hb
      obtain ⟨o, es, ep, ho, hc, _⟩ := q4
      exact ⟨o, ho, hc.2.1⟩
    · rw [hs]
      refine Calls.callWith_builtin (by rfl) (Calls.evalArgs_plain ?_)
      refine Calls.spliced_cons (thn (he pp F G Hd1 H1 σ (fun v H' => ∃ Hd2, Ex Hd1 Hd2 ∧ XR X pp F G Hd2 H' σ ρ2 ∧ XRep X Hd2 v (nkD (.tup ks))) er1 (fun v Hd2 H2 e2 er2 r2 => ⟨Hd2, e2, er2, r2⟩) pins s1 I1) fun u s2 ⟨y, H2, I2, r2, Hd2, e2, er2, rd2⟩ => Calls.spliced_nil ?_)
      have kd : KD X y (.ref a0) H2 ks kvs Hd2 := .of er2 rd2 hd (.dic (e2 _ _ h0) (l0.mono e2))
      obtain ⟨a', b, us, xs', rfl, ea, h1, h2, h3, h4, h5, h6⟩ := kd.at I2 r2 (show RelV (V.ref a0) (Value.ref a0) from rfl)
      cases ea
      refine get_keyed (kvs := pairsH us) (room8 hr) h6 h1 ⟨us, h5, rfl⟩ ?_
      rw [valueAt_pairsH]
      cases hl : lk kvs (.tup ks) with
      | none =>
        rw [lk_none h3 h4 hl]
        rw [hl] at k
        exact ⟨.non, H2, I2.tok _, rfl, k _ Hd2 H2 (e1.trans e2) er2 .non⟩
      | some d =>
        obtain ⟨b', u', v', e', rv, rr⟩ := lk_some h3 h4 hl
        rw [e']
        rw [hl] at k
        exact ⟨v', H2, I2.tok _, rv, k _ Hd2 H2 (e1.trans e2) er2 rr⟩
end
end Rw
namespace Rw
open PySem PySem.Spec PyProof.Rows L2

/-! ### walks over a dict -/
def DXat (P : Program) (w : World) (d : Addr) (xs : DX) (H : Hp) : Prop := Rd H d (.ext (DObj P w d xs))
def ItKx (P : Program) (w : World) (d : Addr) (xs : DX) : It :=
  ⟨fun i H => DXat P w d xs H ∧ i < xs.1.length, fun i H x H' => H' = H ∧ ∃ k b v, xs.1[i]? = some (k, b, v) ∧ x = .ref b, fun i H => DXat P w d xs H ∧ xs.1.length ≤ i⟩
def ItVx (P : Program) (w : World) (d : Addr) (xs : DX) : It :=
  ⟨fun i H => DXat P w d xs H ∧ i < xs.1.length, fun i H x H' => H' = H ∧ ∃ k b, xs.1[i]? = some (k, b, x), fun i H => DXat P w d xs H ∧ xs.1.length ≤ i⟩
section
variable {P : Program} {w : World} {K : PySem.W.Frag} {tg : Expr} {d : Addr} {xs : DX}
theorem paired_at {α β : Type} {G : α → β → Prop} : ∀ {l₁ : List α} {l₂ : List β}, Paired G l₁ l₂ → ∀ {i : Nat} {a : α}, l₁[i]? = some a → ∃ b, l₂[i]? = some b ∧ G a b := fun h _ _ e => paired_get h e
theorem turn_kx (it : Addr) : Turn P w K tg (ItKx P w d xs) [it] it (fun i h => h.IsKeyIter it d i xs.1.length xs.2) where
  mem := by simp
  obj := fun i h st b hb => by
    have e : b = it := by simpa using hb
    subst e
    obtain ⟨oi, e, c, dd⟩ := st
    exact ⟨oi, e, fun v z => by rw [dd] at z; cases z⟩
  keep := fun i h h' st k => st.at fun oi e => k it (by simp) oi e
  item := by
    intro X hP hw hK hc i pins s σ H E I hf st hg
    subst hP hw hK
    obtain ⟨hd, hi⟩ := hg
    obtain ⟨f0, f1, f2, f3, f4, f5⟩ := hf it (by simp)
    obtain ⟨es, us, q1, q2, q3, ⟨o, ho, hc', hdt⟩, q5⟩ := dict_raw I hd
    obtain ⟨⟨k, b, v⟩, hkv⟩ : ∃ p, xs.1[i]? = some p := ⟨xs.1[i], List.getElem?_eq_getElem hi⟩
    obtain ⟨u, hu, e1, e2, e3⟩ := paired_at q3 hkv
    have q := entry_at q5 i
    rw [hu] at q
    refine next_key_item st ho hdt q2 q fun h' st' sb => ?_
    have I1 : Inv X pins σ H { s with heap := h' } := I.turned (t' := s.toks) (fun b ob hb e => (sb.2 b hb).trans e) f0 f1 f3 f4 f5
    obtain ⟨oi, e, c, dd⟩ := id st'
    have e2' : b = u.2.1 := e2
    exact ⟨_, rfl, go_of (s := { s with heap := h' }) e c dd (by decide) ⟨.ref b, H, I1, by rw [e2']; rfl, ⟨rfl, k, b, v, hkv, rfl⟩, st', fun b hb => (hf b hb).1⟩⟩
  done := by
    intro X hP hw hK hc i pins s σ H E I hf st hg
    subst hP hw hK
    obtain ⟨hd, hi⟩ := hg
    obtain ⟨f0, f1, f2, f3, f4, f5⟩ := hf it (by simp)
    obtain ⟨es, us, q1, q2, q3, ⟨o, ho, hc', hdt⟩, q5⟩ := dict_raw I hd
    exact next_key_end (I.ok.hd hc) st ho hdt q2 hi fun h' eb => ⟨rfl, I.turned (t' := s.toks) (fun b ob hb e => eb b ob hb e) f0 f1 f3 f4 f5⟩
  self := fun A i s Q E st h => by
    refine wpAny_pyIter_slot st.typeIs F.slot_dict_keyiterator_iter (wpAny_call_entry F.slot_dict_keyiterator_iter st.typeIs F.entry_dict_keyiterator_iter ?_ (F.args_dict_keyiterator_iter_1 _))
    show wpAny _ _ (ret (.ref it)) _ _ s
    exact wpAny_pure ⟨_, rfl, "dict_keyiterator", _, st.typeIs, F.slot_dict_keyiterator_next.lookup, h⟩
theorem turn_vx (it : Addr) : Turn P w K tg (ItVx P w d xs) [it] it (fun i h => h.IsValIter it d i xs.1.length xs.2) where
  mem := by simp
  obj := fun i h st b hb => by
    have e : b = it := by simpa using hb
    subst e
    obtain ⟨oi, e, c, dd⟩ := st
    exact ⟨oi, e, fun v z => by rw [dd] at z; cases z⟩
  keep := fun i h h' st k => st.at fun oi e => k it (by simp) oi e
  item := by
    intro X hP hw hK hc i pins s σ H E I hf st hg
    subst hP hw hK
    obtain ⟨hd, hi⟩ := hg
    obtain ⟨f0, f1, f2, f3, f4, f5⟩ := hf it (by simp)
    obtain ⟨es, us, q1, q2, q3, hraw, q5⟩ := dict_raw I hd
    obtain ⟨⟨k, b, v⟩, hkv⟩ : ∃ p, xs.1[i]? = some p := ⟨xs.1[i], List.getElem?_eq_getElem hi⟩
    obtain ⟨u, hu, e1, e2, e3⟩ := paired_at q3 hkv
    have q := entry_at q5 i
    rw [hu] at q
    have hlt : i < es.size := by rw [q2]; exact hi
    rw [← q2] at st
    refine wpAny_pyNext_values_item_raw st hraw hlt fun h' st' sb => ?_
    have I1 : Inv X pins σ H { s with heap := h' } := I.turned (t' := s.toks) (fun b ob hb e => (sb.2 b hb).trans e) f0 f1 f3 f4 f5
    obtain ⟨oi, e, c, dd⟩ := id st'
    have ev : es[i].val = u.2.2 := by
      rw [Array.getElem?_eq_getElem hlt] at q
      rw [Option.some.inj q]
      rfl
    refine ⟨_, rfl, go_of (s := { s with heap := h' }) e c dd (by decide) ⟨v, H, I1, by rw [ev]; exact e3, ⟨rfl, k, b, hkv⟩, ?_, fun b hb => (hf b hb).1⟩⟩
    show h'.IsValIter it d (i + 1) xs.1.length _
    rw [← q2]
    exact st'
  done := by
    intro X hP hw hK hc i pins s σ H E I hf st hg
    subst hP hw hK
    obtain ⟨hd, hi⟩ := hg
    obtain ⟨f0, f1, f2, f3, f4, f5⟩ := hf it (by simp)
    obtain ⟨es, us, q1, q2, q3, hraw, q5⟩ := dict_raw I hd
    rw [← q2] at st
    exact wpAny_pyNext_values_end_raw (I.ok.hd hc) st hraw (by rw [q2]; exact hi) fun h' eb => ⟨rfl, I.turned (t' := s.toks) (fun b ob hb e => eb b ob hb e) f0 f1 f3 f4 f5⟩
  self := fun A i s Q E st h => wpAny_pyIter_valiter st h
end
section
variable {X : Cx} {tg e : Expr} {td : TE} {apos cpos : Pos}
theorem pi_kx (he : PE X e td) : PI X tg e (fun σ H R => td σ H fun x H1 => ∃ d xs, x = .ref d ∧ DXat X.prog X.w d xs H1 ∧ R (ItKx X.prog X.w d xs) H1) := by
  refine ⟨fun pins s σ H R I h => ?_⟩
  refine thn (he.run pins s σ H _ I h) fun u s1 ⟨x, H1, I1, rx, d, xs, ex, hd, q⟩ => ?_
  subst ex
  obtain rfl : u = Value.ref d := rx
  obtain ⟨es, us, q1, q2, q3, ⟨o, ho, hc', hdt⟩, q5⟩ := dict_raw I1 hd
  refine iter_keys q1 ho hc' hdt (pi_one (tk := s1.toks) I1 _ (turn_kx _) ⟨_, Heap.get?_push_size _ rfl, rfl, ?_⟩ q)
  rw [q2] <;> rfl
theorem pi_vx (he : PE X e td) (hbase : attributeBase e "values" X.env (eval e X.env) = eval e X.env := by rfl) (hline : (apos.endLine == cpos.line) = true := by rfl) :
    PI X tg (.Call (.Attribute e "values" apos) [] [] cpos) (fun σ H R => td σ H fun x H1 => ∃ d xs, x = .ref d ∧ DXat X.prog X.w d xs H1 ∧ R (ItVx X.prog X.w d xs) H1) := by
  refine ⟨fun pins s σ H R I h => ?_⟩
  refine wpAny_Call_method (T := "dict") (id := "dict.values") hbase rfl hline F.plainAttrs_dict F.slot_dict_values F.type_dict_values (thn (he.run pins s σ H _ I h) fun u s1 ⟨x, H1, I1, rx, d, xs, ex, hd, q⟩ => ?_)
  subst ex
  obtain rfl : u = Value.ref d := rx
  obtain ⟨es, us, q1, q2, q3, hraw, q5⟩ := dict_raw I1 hd
  obtain ⟨o, ho, hc', hdt⟩ := id hraw
  refine ⟨hraw.typeIs, fun b hb => by cases hb; exact ⟨o, ho, hc'.2.1⟩, ?_⟩
  have I2 : Inv X pins σ H1 { s1 with heap := s1.heap.push { cls := .type "dict_values", data := .fields #[.ref d] } } := I1.kept (t' := s1.toks) fun b ob q => Heap.get?_push_of_some _ q
  have fin : wpAny (model X.prog X.w) X.A (pyIter (.ref s1.heap.objs.size)) (PIE X pins σ tg R) X.xe { s1 with heap := s1.heap.push { cls := .type "dict_values", data := .fields #[.ref d] } } := by
    refine wpAny_pyIter_values_raw (d := d) ⟨_, Heap.get?_push_size _ rfl, rfl, rfl⟩ (hraw.at fun ob z => Heap.get?_push_of_some _ z) (pi_one (tk := s1.toks) I2 _ (turn_vx _) ⟨_, Heap.get?_push_size _ rfl, rfl, ?_⟩ q)
    rw [q2] <;> rfl
  show wpAny _ _ (callWith cpos (.builtin "dict.values") [.ref d] [] []) _ X.xe s1
  exact method_meetsIn F.slot_dict_values F.entry_dict_values rfl (PySem.evalArgs_none ⟨rfl, hraw.typeIs, F.args_dict_values_1 _, _, meets_dict_values_raw d q1, ⟨_, _, hraw⟩, fin⟩)
end
section
variable {X : Cx} {ρ ρ' ρ1 ρ2 ρ3 : List En} {d : Dt} {ds items : List Dt} {e tg iter : Expr} {p pos apos : Pos} {kvs : List (NestedKey × Dt)}
/-- for k in d -/
theorem EI.keys (h : EV X e ρ (.dic kvs) ρ1) : EI X tg e ρ (kvs.map fun p => nkD p.1) ρ1 := .of (pi_kx pe_c) fun pp F G Hd H σ R er k => h pp F G Hd H σ _ er fun v Hd1 H1 e1 er1 r1 => by
  cases r1 with
  | @dic a xs _ ha l =>
    refine ⟨a, xs, rfl, er1.sb.rd ha, k _ Hd1 H1 e1 er1 ⟨fun i d H Hd e2 sb hi => ?_, fun i H Hd e2 sb hi => ?_⟩⟩
    · rw [List.getElem?_map] at hi
      cases q : kvs[i]? with
      | none => rw [q] at hi; cases hi
      | some p =>
        rw [q] at hi
        cases hi
        obtain ⟨b, v, q1, q2, q3⟩ := l.get (k := p.1) (d := p.2) q
        refine ⟨⟨sb.rd (e2 _ _ ha), (List.getElem?_eq_some_iff.mp q1).1⟩, fun x H' y => ?_⟩
        obtain ⟨eH, k', b', v', y1, y2⟩ := y
        rw [q1] at y1
        cases y1
        subst y2
        exact ⟨eH, q2.mono e2⟩
    · refine ⟨sb.rd (e2 _ _ ha), ?_⟩
      rw [l.length]
      rw [List.length_map] at hi
      exact hi
/-- for v in d.values() -/
theorem EI.vals (h : EV X e ρ (.dic kvs) ρ1) (hbase : attributeBase e "values" X.env (eval e X.env) = eval e X.env := by rfl) (hline : (apos.endLine == pos.line) = true := by rfl) :
    EI X tg (.Call (.Attribute e "values" apos) [] [] pos) ρ (kvs.map (·.2)) ρ1 := .of (pi_vx pe_c hbase hline) fun pp F G Hd H σ R er k => h pp F G Hd H σ _ er fun v Hd1 H1 e1 er1 r1 => by
  cases r1 with
  | @dic a xs _ ha l =>
    refine ⟨a, xs, rfl, er1.sb.rd ha, k _ Hd1 H1 e1 er1 ⟨fun i d H Hd e2 sb hi => ?_, fun i H Hd e2 sb hi => ?_⟩⟩
    · rw [List.getElem?_map] at hi
      cases q : kvs[i]? with
      | none => rw [q] at hi; cases hi
      | some p =>
        rw [q] at hi
        cases hi
        obtain ⟨b, v, q1, q2, q3⟩ := l.get (k := p.1) (d := p.2) q
        refine ⟨⟨sb.rd (e2 _ _ ha), (List.getElem?_eq_some_iff.mp q1).1⟩, fun x H' y => ?_⟩
        obtain ⟨eH, k', b', y1⟩ := y
        rw [q1] at y1
        cases y1
        exact ⟨eH, q3.mono e2⟩
    · refine ⟨sb.rd (e2 _ _ ha), ?_⟩
      rw [l.length]
      rw [List.length_map] at hi
      exact hi
end

/-! ### a dict of one's own -/
def dput (kvs : List (NestedKey × Dt)) (k : NestedKey) (d : Dt) : List (NestedKey × Dt) := if (lk kvs k).isSome = true then kvs.map (fun p => if p.1 = k then (p.1, d) else p) else kvs ++ [(k, d)]
def xput (xs : List (NestedKey × Addr × V)) (k : NestedKey) (b : Addr) (v : V) : List (NestedKey × Addr × V) := if (xs.find? fun x => decide (x.1 = k)).isSome = true then xs.map (fun q => if q.1 = k then (q.1, q.2.1, v) else q) else xs ++ [(k, b, v)]
section
variable {P : Program} {w : World} {K : PySem.W.Frag} {Hd H : Hp}
theorem find_k : ∀ {xs : List (NestedKey × Addr × V)} {us : List (NestedKey × Addr × Value)} (k : NestedKey), Paired RelX xs us → (xs.find? fun x => decide (x.1 = k)).isSome = (atKey us k).isSome
  | _, _, _, .nil => rfl
  | x :: xs, y :: us, k, .cons r t => by
    have e : x.1 = y.1 := r.1
    rw [atKey_cons, List.find?_cons, e]
    by_cases h : y.1 = k
    · rw [if_pos h]; simp [h]
    · rw [if_neg h]; simp only [h, decide_false]; exact find_k k t
theorem paired_keys : ∀ {l : List (NestedKey × Addr × V)} {us : List (NestedKey × Addr × Value)}, Paired RelX l us → us.map (·.1) = l.map (·.1)
  | _, _, .nil => rfl
  | x :: xs, y :: us, .cons r t => by
    have e : x.1 = y.1 := r.1
    rw [List.map_cons, List.map_cons, paired_keys t, e]
theorem Paired.snoc {α β : Type} {G : α → β → Prop} {a : α} {b : β} (r : G a b) : ∀ {l₁ : List α} {l₂ : List β}, Paired G l₁ l₂ → Paired G (l₁ ++ [a]) (l₂ ++ [b])
  | _, _, .nil => .cons r .nil
  | _, _, .cons q t => .cons q (Paired.snoc r t)
theorem xput_rel {xs : List (NestedKey × Addr × V)} {us : List (NestedKey × Addr × Value)} {k : NestedKey} {b : Addr} {v : V} {u : Value} (p : Paired RelX xs us) (rv : RelV v u) : Paired RelX (xput xs k b v) (storedH us k b u) := by
  unfold xput storedH
  rw [find_k k p]
  cases h : (atKey us k).isSome with
  | false => rw [if_neg Bool.false_ne_true, if_neg Bool.false_ne_true]; exact Paired.snoc ⟨rfl, rfl, rv⟩ p
  | true =>
    rw [if_pos rfl, if_pos rfl]
    clear h
    induction p with
    | nil => exact .nil
    | @cons x y l1 l2 r t ih =>
      refine .cons ?_ ih
      obtain ⟨e1, e2, e3⟩ := r
      unfold putAt
      by_cases hk : y.1 = k
      · show RelX (if x.1 = k then (x.1, x.2.1, v) else x) _
        rw [if_pos hk, if_pos (Eq.trans e1 hk)]
        exact ⟨e1, e2, rv⟩
      · show RelX (if x.1 = k then (x.1, x.2.1, v) else x) _
        rw [if_neg hk, if_neg (fun z => hk (Eq.trans e1.symm z))]
        exact ⟨e1, e2, e3⟩
theorem xput_rep {xs : List (NestedKey × Addr × V)} {kvs : List (NestedKey × Dt)} {k : NestedKey} {b : Addr} {v : V} {d : Dt} (r : RepD P w K Hd xs kvs) (rb : Rep P w K Hd (.ref b) (nkD k)) (hk : k.depth ≤ 8) (rv : Rep P w K Hd v d) : RepD P w K Hd (xput xs k b v) (dput kvs k d) := by
  have hf : ∀ {xs : List (NestedKey × Addr × V)} {kvs : List (NestedKey × Dt)}, RepD P w K Hd xs kvs → (xs.find? fun x => decide (x.1 = k)).isSome = (lk kvs k).isSome := by
    intro xs kvs r
    induction kvs generalizing xs with
    | nil => cases r; rfl
    | cons p kvs ih =>
      cases r with
      | @cons k0 b0 v0 d0 xs _ h1 h2 h3 h4 =>
        rw [List.find?_cons]
        show _ = (if k0 = k then some d0 else lk kvs k).isSome
        by_cases z : k0 = k
        · rw [if_pos z]; simp [z]
        · rw [if_neg z]; simp only [z, decide_false]; exact ih h4
  unfold xput dput
  rw [hf r]
  cases h : (lk kvs k).isSome with
  | false =>
    rw [if_neg Bool.false_ne_true, if_neg Bool.false_ne_true]
    clear h hf
    induction kvs generalizing xs with
    | nil => cases r; exact .cons rb hk rv .nil
    | cons p kvs ih =>
      cases r with
      | cons h1 h2 h3 h4 => exact .cons h1 h2 h3 (ih h4)
  | true =>
    rw [if_pos rfl, if_pos rfl]
    clear h hf
    induction kvs generalizing xs with
    | nil => cases r; exact .nil
    | cons p kvs ih =>
      cases r with
      | @cons k0 b0 v0 d0 xs _ h1 h2 h3 h4 =>
        rw [List.map_cons, List.map_cons]
        by_cases z : k0 = k
        · rw [if_pos z, if_pos z]; exact .cons h1 h2 rv (ih h4)
        · rw [if_neg z, if_neg z]; exact .cons h1 h2 h3 (ih h4)
theorem dput_length (kvs : List (NestedKey × Dt)) (k : NestedKey) (d : Dt) : (dput kvs k d).length ≤ kvs.length + 1 := by
  unfold dput
  split
  · rw [List.length_map]; omega
  · rw [List.length_append]; exact Nat.le_refl _
end
section
variable {X : Cx} {pins : List (Addr × Obj)} {σ : L2.St} {Hd H : Hp} {s : Shared} {a b : Addr} {xs : DX} {kvs : List (NestedKey × Dt)} {ks : List NestedKey} {A : Around} {E : Value → Shared → Prop}
theorem dobj_of {P : Program} {w : World} {h : Heap} {us : List (NestedKey × Addr × Value)} {l : List (NestedKey × Addr × V)} (p : Paired RelX l us) (hl : l.length ≤ sizeLine) (ha : (a == sysModules) = false) (dd : h.DictOfH (nestedKind P w) a us) : ∃ ep, DObj P w a (l, ep) h := by
  obtain ⟨o, es, ep, ho, hc, hd, he, _, hn⟩ := dd
  have hk : us.map (·.1) = l.map (·.1) := paired_keys p
  exact ⟨ep, ha, hl, by rw [← hk]; exact hn, us, p, o, es, ho, hc, hd, he⟩
theorem dobj_ok {P : Program} {w : World} {h : Heap} {H : Hp} (d : DObj P w a xs h) : ObjOk P w H h a (.ext (DObj P w a xs)) := by
  refine ⟨d, ?_, fun h1 h2 q k => ?_⟩
  · obtain ⟨_, _, _, us, p, o, es, ho, _⟩ := d
    exact ⟨o, ho⟩
  · obtain ⟨z1, z2, z3, us, p, o, es, ho, r⟩ := q
    exact ⟨z1, z2, z3, us, p, o, es, k o ho, r⟩
/-- d[k] = v -/
theorem put_raw (hr : (nestedKind X.prog X.w).room A.in1) (I : Inv X pins σ H s) (sb : Sub Hd H) (h : H a = some (.ext (DObj X.prog X.w a xs))) (l : RepD X.prog X.w X.K Hd xs.1 kvs) (hl : kvs.length < sizeLine) (rk : XRep X Hd (.ref b) (nkD (.tup ks))) (hd : (NestedKey.tup ks).depth ≤ 8)
    {v : V} {u : Value} (rv : RelV v u) {Q : Unit → Shared → Prop} (q : ∀ ep s', Inv X pins σ (upd H a (.ext (DObj X.prog X.w a (xput xs.1 (.tup ks) b v, ep)))) s' → Q () s') : wpAny (model X.prog X.w) A (setItem (.ref a) (.ref b) u) Q E s := by
  obtain ⟨us, q1, q2, q3, q4⟩ := dict_at I sb (.inl h) l
  have hk := key_is I sb _ _ _ rk (show RelV (V.ref b) (Value.ref b) from rfl)
  refine wpAny_setItem_heap (hsz := q2) (knd := nestedKind X.prog X.w) (k := .tup ks) hr ⟨hk, hd⟩ q4 fun h' dd sb' => ?_
  obtain ⟨ep, dd'⟩ := dobj_of (l := xput xs.1 (.tup ks) b v) (xput_rel q3 rv) (by
    have : (xput xs.1 (.tup ks) b v).length ≤ xs.1.length + 1 := by
      unfold xput
      split
      · rw [List.length_map]; omega
      · rw [List.length_append]; exact Nat.le_refl _
    have := l.length
    omega) q1 dd
  obtain ⟨o, es, ep', ho, _⟩ := dd
  exact q ep _ (d_write I (by rw [h]; exact True.intro) sb' ⟨o, ho⟩ (dobj_ok dd'))
end
section
variable {X : Cx} {ρ ρ' ρ1 ρ2 ρ3 : List En} {d : Dt} {e a b : Expr} {pos p : Pos} {ks : List NestedKey} {kvs : List (NestedKey × Dt)} {r : Nat} {P : Ou → Prop} {rest : List Stmt}
def tDNewX (X : Cx) : TE := fun _ H Q => ∀ p ep, H p = none → Q (.ref p) (upd H p (.ext (DObj X.prog X.w p ([], ep))))
theorem pe_dnewX : PE X (.Dict [] [] pos) (tDNewX X) := ⟨fun pins s σ H Q I h => by
  have d : DObj X.prog X.w s.heap.objs.size ([], 0) (s.heap.push { cls := .type "dict", data := .dict #[] }) :=
    ⟨beq_eq_false_iff_ne.mpr (Ne.symm (Nat.ne_of_lt I.big)), Nat.zero_le _, List.nodup_nil, [], .nil, _, #[], Heap.get?_push_size _ rfl, ⟨rfl, rfl, rfl⟩, rfl, rfl⟩
  exact wpAny_Dict_empty ⟨.ref s.heap.objs.size, _, I.laid (a := s.heap.objs.size) (o := .ext (DObj X.prog X.w s.heap.objs.size ([], 0))) (t' := s.toks) (fun _ _ q => Heap.get?_push_of_some _ q) (Nat.le_refl _) (dobj_ok d), rfl, h _ _ (I.hok.fresh (Nat.le_refl _))⟩⟩
/-- x = {} -/
theorem SD.newD {i : Nat} {x : Str} {lp : Pos} (hk : SD X rest (ρ.set i (.od [])) P) (hN : X.N.Nodup) (hi : X.N[i]? = some x := by rfl) (h0 : i ≠ 0 := by decide) (hx : Loc X.env.scope x := by first | exact Or.inl rfl | exact Or.inr rfl)
    (hs : swapsWith (.Dict [] [] lp) (some (.Name x p)) pos.line X.env = pure false := by rfl) (hf : X.fn x = true ∨ X.env.scope.names.lookup x = some .local := by first | exact .inl rfl | exact .inr rfl) : SD X (.Assign [.Name x p] (.Dict [] [] lp) pos :: rest) ρ P :=
  .st (ps_set hN hi hx pe_dnewX hs hf) fun pp F G Hd H σ D er k => fun a ep ha => k.nx _ Hd _ _ (Ex.refl _) (er.own (en := .od []) ha h0 ⟨a, _, rfl, er.fr.back ha, er.fresh ha, upd_same, .nil⟩) hk
def rSetX (X : Cx) : V → V → V → Hp → (Hp → Prop) → Prop := fun o i v H Q => ∃ Hd a b xs kvs ks, o = .ref a ∧ i = .ref b ∧ H a = some (.ext (DObj X.prog X.w a xs)) ∧ Sub Hd H ∧ RepD X.prog X.w X.K Hd xs.1 kvs ∧ kvs.length < sizeLine ∧ XRep X Hd (.ref b) (nkD (.tup ks)) ∧ (NestedKey.tup ks).depth ≤ 8 ∧
  ∀ ep, Q (upd H a (.ext (DObj X.prog X.w a (xput xs.1 (.tup ks) b v, ep))))
theorem set_X (hr : Room r X.A) : PSet X (rSetX X) := by
  intro pins s σ H o i v ov iv u Q I ro ri rv h
  obtain ⟨Hd, a, b, xs, kvs, ks, rfl, rfl, h1, h2, h3, h4, h5, h6, q⟩ := h
  cases ro
  cases ri
  exact put_raw (by exact room8 hr) I h2 h1 h3 h4 h5 h6 rv fun ep s' I' => ⟨_, I', q ep⟩
/-- x[k] = e, x a dict of one's own -/
theorem SD.putK {i : Nat} {x : Str} {px : Pos} (hr : Room r X.A) (h : EV X e ρ d ρ1) (hb : EV X b ρ1 (nkD (.tup ks)) ρ2) (hi1 : ∃ kvs0, ρ1[i]? = some (.od kvs0)) (hi : ρ2[i]? = some (.od kvs)) (hd8 : (NestedKey.tup ks).depth ≤ 8) (hz : kvs.length < sizeLine) (hk : SD X rest (ρ2.set i (.od (dput kvs (.tup ks) d))) P) (hN : X.N[i]? = some x := by rfl)
    (hv : Vis X.env.scope x := by first | exact Or.inl rfl | exact Or.inr (Or.inl rfl) | exact Or.inr (Or.inr rfl)) (hd : (x == ("__debug__" : Str)) = false := by decide) (hcd : (x == ("__classdict__" : Str)) = false := by decide)
    (ha : ∀ v, assign (.Subscript (.Name x px) b p) X.env v = (do
      let ov ← holding [v] (eval (.Name x px) X.env)
      let iv ← holding [v, ov] (eval b X.env)
      standAt p
      holding [v, ov, iv] (setItem ov iv v)
      release [v, ov, iv] []) := by intro _; rfl)
    (hs : swapsWithSole [.Subscript (.Name x px) b p] e pos.line X.env = pure false := by rfl) (hw : swappedStores [.Subscript (.Name x px) b p] e X.env = pure none := by rfl)
    (h1 : (assignEach [.Subscript (.Name x px) b p] X.env).map (·.2) = [assign (.Subscript (.Name x px) b p) X.env] := by rfl) : SD X (.Assign [.Subscript (.Name x px) b p] e pos :: rest) ρ P := by
  refine .st (ps_asg pe_c (pg_sub (pe_var hN hv hd hcd) pe_c (set_X hr) ha) hs hw h1) fun pp F G Hd H σ D er k => h pp F G Hd H σ _ er fun v Hd1 H1 e1 er1 r1 => ?_
  obtain ⟨kvs0, hi1⟩ := hi1
  obtain ⟨y0, q0, a, xs0, rfl, _⟩ := er1.sl i _ hi1
  refine ⟨.ref a, q0, hb pp F G Hd1 H1 σ _ er1 fun u Hd2 H2 e2 er2 r2 => ?_⟩
  obtain ⟨y, q1, a', xs, ey, hF, hHd, hH, rr⟩ := er2.sl i _ hi
  subst ey
  rw [q0] at q1
  cases q1
  have r2' := id r2
  cases r2 with
  | @tup b0 ys _ hb0 lb =>
    exact ⟨Hd2, a, b0, xs, kvs, ks, rfl, rfl, hH, er2.sb, rr, hz, r2', hd8, fun ep => k.nx _ Hd2 _ _ (e1.trans e2) (er2.mut (en := .od (dput kvs (.tup ks) d)) hi rfl q0 ⟨a, _, rfl, hF, hHd, upd_same, xput_rep rr r2' hd8 (r1.mono e2)⟩ rfl) hk⟩
/-- x[k] of a dict of one's own that is looked at: EV.lend's like -/
theorem EV.ixOD {q : Nat} {x : Str} {px : Pos} (hr : Room r X.A) (hx : ρ[q]? = some (.od kvs)) (hb : EV X b ρ (nkD (.tup ks)) ρ) (hd8 : (NestedKey.tup ks).depth ≤ 8) (hl : lk kvs (.tup ks) = some d) (hN : X.N[q]? = some x := by rfl) (hv : Vis X.env.scope x := by first | exact Or.inl rfl | exact Or.inr (Or.inl rfl) | exact Or.inr (Or.inr rfl)) (hd : (x == ("__debug__" : Str)) = false := by decide)
    (hcd : (x == ("__classdict__" : Str)) = false := by decide) (hs : PlainIx b := by exact fun _ _ => rfl) : EV X (.Subscript (.Name x px) b pos) ρ d ρ :=
  .of (pe_ix (ix_K hr) (pe_var hN hv hd hcd) pe_c hs) fun pp F G Hd H σ Q er k => by
    obtain ⟨y, h1, a, xs, rfl, hF, hHd, hH, rr⟩ := er.sl q _ hx
    refine ⟨.ref a, h1, hb pp F G Hd H σ _ er fun u Hd2 H2 e2 er2 r2 => ?_⟩
    obtain ⟨y', h1', a', xs', e', hF', hHd', hH', r'⟩ := er2.sl q _ hx
    subst e'
    rw [h1] at h1'
    cases h1'
    have ed : Ex Hd2 (upd Hd2 a (.ext (DObj X.prog X.w a xs'))) := Ex.new hHd'
    refine ⟨ks, kvs, Hd2, d, ⟨er2.sb, r2, hd8, a, xs', rfl, .inl hH', r'⟩, hl, fun v rv => (k.up e2).now er2 rv⟩
end
end Rw
namespace Rw
open PySem PySem.Spec PyProof.Rows L2

/-- where a def on data is to end -/
def Fin (d : Dt) : Ou → Prop
  | .rt d' _ => d' = d
  | .nx _ => d = .non
  | _ => False
/-- a def on a list of one's own -/
def FinP (d : Dt) (pt : List Dt) : Ou → Prop
  | .rt d' ρ => d' = d ∧ ρ[0]? = some (.ol pt)
  | .nx ρ => d = .non ∧ ρ[0]? = some (.ol pt)
  | _ => False
def ρ0 (N : List Str) (ds : List Dt) : List En := ds.map .dat ++ List.replicate (N.length - ds.length) .un
def ρP (N : List Str) (pt : List Dt) (ds : List Dt) : List En := .ol pt :: (ds.map .dat ++ List.replicate (N.length - (ds.length + 1)) .un)
section
variable {P : Program} {w : World} {K : PySem.W.Frag} {mg : Str → Option Value} {base : Heap} {x qual : Str} {st : Stmt} {fa : Addr} {fd : FuncData} {N ps : List Str} {k n : Nat}
theorem RepL.at_of {Hd : Hp} : ∀ {vs : List V} {ds : List Dt} {i : Nat} {e : En} {m : Nat}, RepL P w K Hd vs ds → (ds.map En.dat ++ List.replicate m En.un)[i]? = some e → ∃ x, (vs.map some ++ List.replicate m none)[i]? = some x ∧ ∀ F H, EnR P w K F Hd H x e ∧ isOwn e = false := by
  intro vs ds i e m r h
  have hl := r.length
  by_cases hi : i < ds.length
  · rw [List.getElem?_append_left (by rw [List.length_map]; exact hi), List.getElem?_map] at h
    rw [List.getElem?_append_left (by rw [List.length_map, hl]; exact hi), List.getElem?_map]
    cases q : ds[i]? with
    | none => rw [q] at h; cases h
    | some d =>
      rw [q] at h
      cases h
      obtain ⟨v, h1, h2⟩ := r.get q
      rw [h1]
      exact ⟨some v, rfl, fun F H => ⟨⟨v, rfl, h2⟩, rfl⟩⟩
  · rw [List.getElem?_append_right (by rw [List.length_map]; omega), List.length_map, List.getElem?_replicate] at h
    rw [List.getElem?_append_right (by rw [List.length_map]; omega), List.length_map, hl, List.getElem?_replicate]
    by_cases hm : i - ds.length < m
    · rw [if_pos hm] at h ⊢
      cases h
      exact ⟨none, rfl, fun F H => ⟨trivial, rfl⟩⟩
    · rw [if_neg hm] at h
      cases h
theorem ER.begin {Hd H : Hp} {vs : List V} {ds : List Dt} (sb : Sub Hd H) (r : RepL P w K Hd vs ds) : ER P w K none H Hd Hd H (L2.start N vs) (ρ0 N ds) where
  pt := fun a h => by cases h
  fr := Ex.refl _
  gd := Ex.refl _
  sb := sb
  sep := fun a _ h => h
  len := by unfold L2.start ρ0; rw [List.length_append, List.length_append, List.length_map, List.length_map, List.length_replicate, List.length_replicate, r.length]
  sl := fun i e h => by
    unfold ρ0 at h
    unfold L2.start
    rw [r.length]
    obtain ⟨x, h1, h2⟩ := r.at_of h
    exact ⟨x, h1, (h2 _ _).1⟩
  ow := fun i j e e' a h1 h2 o1 o2 s1 s2 => by
    unfold ρ0 at h1
    obtain ⟨x, _, q⟩ := r.at_of h1
    rw [(q H H).2] at o1
    cases o1
theorem ER.beginP {Hd H : Hp} {p : Addr} {xs vs : List V} {pt ds : List Dt} (sb : Sub Hd H) (hp : H p = some (.lst xs)) (hd : Hd p = none) (rp : RepL P w K Hd xs pt) (r : RepL P w K Hd vs ds) :
    ER P w K (some p) (fun a => if a = p then none else H a) Hd Hd H (L2.start N (.ref p :: vs)) (ρP N pt ds) where
  pt := fun a h => by cases h; rfl
  fr := fun a o h => by
    by_cases e : a = p
    · have h' : (if a = p then none else H a) = some o := h
      rw [if_pos e] at h'; cases h'
    · have h' : (if a = p then none else H a) = some o := h
      rw [if_neg e] at h'; exact h'
  gd := Ex.refl _
  sb := sb
  sep := fun a _ h => h
  len := by
    unfold L2.start ρP
    rw [List.length_append, List.length_map, List.length_cons, List.length_cons, List.length_append, List.length_map, List.length_replicate, List.length_replicate, r.length]
    omega
  sl := fun i e h => by
    unfold ρP at h
    unfold L2.start
    cases i with
    | zero =>
      cases h
      exact ⟨_, rfl, p, xs, rfl, if_pos rfl, hd, hp, rp⟩
    | succ i =>
      rw [List.getElem?_cons_succ] at h
      rw [List.map_cons, List.cons_append, List.getElem?_cons_succ, List.length_cons, r.length]
      obtain ⟨x, h1, h2⟩ := r.at_of h
      exact ⟨x, h1, (h2 _ _).1⟩
  ow := fun i j e e' a h1 h2 o1 o2 s1 s2 => by
    unfold ρP at h1 h2
    cases i with
    | succ i =>
      rw [List.getElem?_cons_succ] at h1
      obtain ⟨x, _, q⟩ := r.at_of h1
      rw [(q H H).2] at o1
      cases o1
    | zero =>
      cases j with
      | zero => rfl
      | succ j =>
        rw [List.getElem?_cons_succ] at h2
        obtain ⟨x, _, q⟩ := r.at_of h2
        rw [(q H H).2] at o2
        cases o2
/-- a def on data, from its body -/
theorem DefOk.mk' {f : Str} {rel : List Dt → Dt → Prop} (F : Fun K x qual st fa fd) (S : FnScope N ps (defScope st)) (hm : mg f = some (.ref fa)) (hn : ps.length = n)
    (hb : ∀ kV doc pm an cdv ct us, us.length = ps.length → bindArgs (PySem.W.fnOf x qual (defArgs st) (defBody st) (defScope st) .none kV doc pm an cdv ct) ⟨us, []⟩ = pure (ps.zip us))
    (h : ∀ cdv A outer s H E, Room k (A.deeper (envOfC qual (defScope st) s.heap.objs.size fa cdv)) → ∀ ds d, ds.length = n → rel ds d → SD (cxOf CX0 P w K mg base N qual (defScope st) fa cdv A outer s H E).nox (defBody st) (ρ0 N ds) (Fin d)) :
    DefOk P w K mg base f (k + 1) n (spD P w K n rel) := by
  refine ⟨fa, fd, ps, hn, hm, F.kp, ?_, F.ok S (fun vs H Q E sp => ?_) fun cdv A outer s H vs Q E hr sp => ?_⟩
  · exact F.binds hb
  · obtain ⟨Hd, ds, d, _, r, hl, _⟩ := sp
    rw [r.length, hl, hn]
  · obtain ⟨Hd, ds, d, sb, r, hl, hrel, k'⟩ := sp
    refine ⟨_, pss_c, h cdv A outer s H E hr ds d hl hrel none H Hd Hd H _ _ (.begin sb r) ⟨?_, ?_, ?_, ?_⟩⟩
    · rintro σ' Hd' H' ρ' e er rfl
      exact k' _ _ _ er.fr er.gd er.sb er.sep .non
    · exact fun σ' Hd' H' ρ' e er q => False.elim q
    · exact fun σ' Hd' H' ρ' e er q => False.elim q
    · rintro v σ' Hd' H' ρ' d' e er rv rfl
      exact k' _ _ _ er.fr er.gd er.sb er.sep rv
theorem DefOk.mkP {f : Str} {rel : List Dt → List Dt → Dt → List Dt → Prop} (F : Fun K x qual st fa fd) (S : FnScope N ps (defScope st)) (hm : mg f = some (.ref fa)) (hn : ps.length = n + 1)
    (hb : ∀ kV doc pm an cdv ct us, us.length = ps.length → bindArgs (PySem.W.fnOf x qual (defArgs st) (defBody st) (defScope st) .none kV doc pm an cdv ct) ⟨us, []⟩ = pure (ps.zip us))
    (h : ∀ cdv A outer s H E, Room k (A.deeper (envOfC qual (defScope st) s.heap.objs.size fa cdv)) → ∀ pt ds d pt', ds.length = n → rel pt ds d pt' → SD (cxOf CX0 P w K mg base N qual (defScope st) fa cdv A outer s H E).nox (defBody st) (ρP N pt ds) (FinP d pt')) :
    DefOk P w K mg base f (k + 1) (n + 1) (spP P w K n rel) := by
  refine ⟨fa, fd, ps, hn, hm, F.kp, ?_, F.ok S (fun vs H Q E sp => ?_) fun cdv A outer s H vs Q E hr sp => ?_⟩
  · exact F.binds hb
  · obtain ⟨p, vs', xs, Hd, pt, ds, d, pt', rfl, _, _, _, _, r, hl, _⟩ := sp
    rw [List.length_cons, r.length, hl, hn]
  · obtain ⟨p, vs', xs, Hd, pt, ds, d, pt', rfl, hp, hd, rp, sb, r, hl, hrel, k'⟩ := sp
    have fin : ∀ v σ' Hd' H' ρ' d', d' = d → ρ'[0]? = some (.ol pt') → ER P w K (some p) (fun a => if a = p then none else H a) Hd Hd' H' σ' ρ' → Rep P w K Hd' v d' → Q v H' := by
      rintro v σ' Hd' H' ρ' d' rfl q er rv
      obtain ⟨y, h1, a, xs', rfl, _, _, hH, rr⟩ := er.sl 0 _ q
      rw [er.pt p rfl] at h1
      cases h1
      refine k' v H' Hd' xs' (fun a o ne ho => er.fr a o (by rw [if_neg ne]; exact ho)) er.gd er.sb (fun a h1 h2 => ?_) hH rr rv
      by_cases e : a = p
      · subst e
        obtain ⟨y, z1, a', xs', rfl, _, z3, _⟩ := er.sl 0 _ q
        rw [er.pt a rfl] at z1
        cases z1
        exact z3
      · exact er.sep a (by rw [if_neg e]; exact h1) h2
    refine ⟨_, pss_c, h cdv A outer s H E hr pt ds d pt' hl hrel (some p) (fun a => if a = p then none else H a) Hd Hd H _ _ (.beginP sb hp hd rp r) ⟨?_, ?_, ?_, ?_⟩⟩
    · rintro σ' Hd' H' ρ' e er ⟨e1, q⟩
      subst e1
      exact fin _ _ _ _ _ _ rfl q er .non
    · exact fun σ' Hd' H' ρ' e er q => False.elim q
    · exact fun σ' Hd' H' ρ' e er q => False.elim q
    · rintro v σ' Hd' H' ρ' d' e er rv ⟨e1, q⟩
      exact fin _ _ _ _ _ _ e1 q er rv
end
end Rw
namespace Rw
open PySem PySem.Spec PyProof.Rows L2

/-! ### isinstance -/
def tyD : Dt → String
  | .non => "NoneType"
  | .bl _ => "bool"
  | .int _ => "int"
  | .str _ => "str"
  | .lst _ => "list"
  | .tup _ => "tuple"
  | .dic _ => "dict"
  | .zon _ => "object"
  | .fls _ => "object"
def notZon : Dt → Bool
  | .zon _ => false
  | .fls _ => false
  | _ => true
section
variable {X : Cx} {ρ ρ' ρ1 ρ2 ρ3 : List En} {d : Dt} {e a b : Expr} {es : List Expr} {pos p p2 apos : Pos} {ds xs ys : List Dt} {r : Nat} {q : Bool} {i : Int} {n : Nat}
theorem kit_rep {pins : List (Addr × Obj)} {σ : L2.St} {Hd H : Hp} {s : Shared} {v : V} {u : Value} (I : Inv X pins σ H s) (sb : Sub Hd H) (rv : RelV v u) (rp : XRep X Hd v d) (hz : notZon d = true) :
    ∃ P : Heap → Prop, PySem.W.KitX X.K u (.type (tyD d)) P ∧ P s.heap ∧ u ≠ .builtin "__main__.__loader__#opaque" := by
  cases rp with
  | non => exact kit_of I rv (.base .non)
  | bl b => exact kit_of I rv (.base (.bl b))
  | int i => exact kit_of I rv (.base (.int i))
  | str s => exact kit_of I rv (.base (.str s))
  | lst h l => exact kit_of I rv (.base (.lst (sb.exact h rfl)))
  | tup h l =>
    rcases sb.sqt h with (h | ⟨o, h⟩) | ⟨o, its, m, h1, h2, _⟩
    · exact kit_of I rv (.base (.tup h))
    · exact kit_of I rv (.fTuple h)
    · exact kit_of I rv (.kTuple h1 h2)
  | dic h l =>
    cases rv
    obtain ⟨es, us, q1, q2, q3, ⟨o, ho, hc, hd⟩, _⟩ := dict_raw I (sb.rd h)
    exact ⟨_, PySem.W.kitx_dict, ⟨o, ho, hc.1⟩, fun z => nomatch z⟩
  | zon h l => cases hz
  | fls h l => cases hz
def rIsD (X : Cx) : List V → Hp → VK → Prop := fun xs H Q => ∃ Hd v d T b, xs = [v, .ty T] ∧ Sub Hd H ∧ XRep X Hd v d ∧ notZon d = true ∧ kitB (tyD d) T = some b ∧ Q (.bl b) H
theorem call_isD : CallR X (.builtin "isinstance") (rIsD X) := by
  intro pins s σ H xs us Q I r h
  obtain ⟨Hd, v, d, T, b, rfl, sb, rp, hz, hb, q⟩ := h
  obtain ⟨u1, u2, rfl, r1, r2⟩ := vals2 r
  cases (show u2 = Value.type T from r2)
  obtain ⟨P, Z, p, hx⟩ := kit_rep I sb r1 rp hz
  exact PySem.W.kia_one Z I.kIn p (kit_ty hb) hx fun tk => ⟨.bl b, H, I.tok tk, rfl, q⟩
theorem EV.isi {T : Str} {T' : String} (hm : X.mg "isinstance" = none) (hT : X.mg T = none) (h : EV X e ρ d ρ1) (hb : kitB (tyD d) T' = some q := by decide +kernel) (hz : notZon d = true := by rfl) (hv : bootBuiltins T = some (.type T') := by decide +kernel) (hg : Gl X "isinstance" := by rfl) (hg2 : Gl X T := by rfl) (hn : T ≠ "__name__" := by decide) (hd : (T == ("__debug__" : Str)) = false := by decide)
    (he : starEach (e :: [.Name T p2]) X.env = (false, eval e X.env) :: starEach [.Name T p2] X.env := by rfl) (he2 : starEach (.Name T p2 :: []) X.env = (false, eval (.Name T p2) X.env) :: starEach [] X.env := by rfl) (hpl : (backTo pos (starEach [.Name T p2] X.env)).any (·.1) = false := by rfl) :
    EV X (.Call (.Name "isinstance" p) [e, .Name T p2] [] pos) ρ (.bl q) ρ1 :=
  .of (pe_callB (call_isD (X := X)) hg hm (by decide +kernel) (pa_cons pe_c (pa_cons (pe_bltn (v := .ty T') hg2 hT hv rfl hn hd) pa_nil he2) he) (by decide) (by decide) he hpl) fun pp F G Hd H σ Q er k => h pp F G Hd H σ _ er fun v Hd1 H1 e1 er1 r1 =>
    ⟨Hd1, v, d, T', q, rfl, er1.sb, r1, hz, hb, k _ _ _ e1 er1 (.bl q)⟩

/-! ### texts -/
def cut1 (s : Str) : Str := ⟨(s.cps.toList.take 1).toArray⟩
theorem cutS_to (s : Str) (n : Nat) : cutS s none (some (n : Int)) = ⟨(s.cps.toList.take n).toArray⟩ := by
  unfold cutS
  have := cut_to (l := s.cps.toList) (n := n)
  rw [Array.length_toList] at this
  exact congrArg (fun l => Str.mk (List.toArray l)) this
theorem cutS_from (s : Str) (n : Nat) : cutS s (some (n : Int)) none = ⟨(s.cps.toList.drop n).toArray⟩ := by
  unfold cutS
  have := cut_from (l := s.cps.toList) (n := n)
  rw [Array.length_toList] at this
  exact congrArg (fun l => Str.mk (List.toArray l)) this
theorem EV.sFrom {s : Str} (ha : EV X a ρ (.str s) ρ1) (hb : EV X b ρ1 (.int (n : Int)) ρ2) (hz : s.length ≤ sizeLine) : EV X (.Subscript a (.Slice (some b) none none p2) pos) ρ (.str ⟨(s.cps.toList.drop n).toArray⟩) ρ2 :=
  .of (pe_slice sl_str pe_c (po_some pe_c) po_none) fun pp F G Hd H σ Q er k => ha pp F G Hd H σ _ er fun v Hd1 H1 e1 er1 r1 => hb pp F G Hd1 H1 σ _ er1 fun u Hd2 H2 e2 er2 r2 => by
    cases r2
    cases r1
    refine ⟨_, rfl, s, rfl, hz, ?_⟩
    rw [cutS_from]
    exact k _ _ _ (e1.trans e2) er2 (.str _)
theorem EV.sTo {s : Str} (ha : EV X a ρ (.str s) ρ1) (hb : EV X b ρ1 (.int (n : Int)) ρ2) (hz : s.length ≤ sizeLine) : EV X (.Subscript a (.Slice none (some b) none p2) pos) ρ (.str ⟨(s.cps.toList.take n).toArray⟩) ρ2 :=
  .of (pe_slice sl_str pe_c po_none (po_some pe_c)) fun pp F G Hd H σ Q er k => ha pp F G Hd H σ _ er fun v Hd1 H1 e1 er1 r1 => hb pp F G Hd1 H1 σ _ er1 fun u Hd2 H2 e2 er2 r2 => by
    cases r2
    cases r1
    refine ⟨_, rfl, s, rfl, hz, ?_⟩
    rw [cutS_to]
    exact k _ _ _ (e1.trans e2) er2 (.str _)
theorem EV.join {t : Str} {ss : List Str} (ha : EV X a ρ (.str t) ρ1) (he : EV X e ρ1 (.lst (ss.map .str)) ρ2) (hz : (ss.map (·.length)).sum + ss.length * t.length ≤ 16777216) (hs : starEach [e] X.env = [(false, eval e X.env)] := by rfl) (hbase : attributeBase a "join" X.env (eval a X.env) = eval a X.env := by rfl) (hline : (apos.endLine == pos.line) = true := by rfl) :
    EV X (.Call (.Attribute a "join" apos) [e] [] pos) ρ (.str (Txt.join t ss)) ρ2 :=
  .of (pe_join pe_c pe_c hs hbase hline) fun pp F G Hd H σ Q er k => ha pp F G Hd H σ _ er fun v Hd1 H1 e1 er1 r1 => by
    cases r1
    refine ⟨⟨_, rfl⟩, he pp F G Hd1 H1 σ _ er1 fun u Hd2 H2 e2 er2 r2 => ?_⟩
    cases r2 with
    | lst h l =>
      have q := l.strs
      subst q
      exact ⟨t, _, ss, rfl, rfl, .inl (.of (er2.sb.exact h rfl)), hz, k _ _ _ (e1.trans e2) er2 (.str _)⟩

/-! ### methods of lists -/
/-- the first place of x among xs -/
def idx (x : Dt) : List Dt → Nat
  | [] => 0
  | y :: ys => if eqd y x = true then 0 else idx x ys + 1
theorem idx_spec (x : Dt) : ∀ xs : List Dt, ind x xs = true → ∃ z, xs[idx x xs]? = some z ∧ eqd z x = true ∧ ∀ m z', m < idx x xs → xs[m]? = some z' → eqd z' x = false
  | [], h => by cases h
  | y :: ys, h => by
    unfold idx
    by_cases hy : eqd y x = true
    · rw [if_pos hy]
      exact ⟨y, rfl, hy, fun m z' hm => absurd hm (Nat.not_lt_zero m)⟩
    · rw [if_neg hy]
      have h' : (eqd y x || ind x ys) = true := h
      rw [Bool.not_eq_true] at hy
      rw [hy, Bool.false_or] at h'
      obtain ⟨z, h1, h2, h3⟩ := idx_spec x ys h'
      refine ⟨z, by simpa using h1, h2, fun m z' hm hz => ?_⟩
      cases m with
      | zero => simp at hz; subst hz; exact hy
      | succ m => exact h3 m z' (by omega) (by simpa using hz)
theorem EV.index (hr : Room r X.A) (ha : EV X a ρ (.lst ys) ρ1) (he : EV X e ρ1 d ρ2) (h1 : plain d = true) (h2 : plains ys = true) (h3 : dep d ≤ 64) (h4 : dep (.lst ys) ≤ 64) (hi : ind d ys = true)
    (hbase : attributeBase a "index" X.env (eval a X.env) = eval a X.env := by rfl)
    (hfew : ((backTo pos (starEach (e :: []) X.env)).all (fun x => !x.1) && (backToKw pos (keywordEach [] X.env)).all (fun x => x.1.isSome)
      && decide ((e :: ([] : List Expr)).length + ([] : List Keyword).length + (if ([] : List Keyword).isEmpty then 0 else 1) < 30)) = true := by rfl)
    (hline : (apos.endLine == pos.line) = true := by rfl) (hs : starEach (e :: []) X.env = (false, eval e X.env) :: starEach [] X.env := by rfl) (hpl : (backTo pos (starEach [] X.env)).any (·.1) = false := by rfl) :
    EV X (.Call (.Attribute a "index" apos) [e] [] pos) ρ (.int (idx d ys : Nat)) ρ2 :=
  .of (pe_bm PySem.F.plainAttrs_list PySem.F.slot_list_index PySem.F.type_list_index (mt_indexD (units65 hr)) pe_c (pa_cons pe_c pa_nil hs) hbase hfew hline hs hpl) fun pp F G Hd H σ Q er k => ha pp F G Hd H σ _ er fun v Hd1 H1 e1 er1 r1 => by
    have r1' := id r1
    cases r1 with
    | lst h l =>
      refine ⟨.inl ⟨rfl, _, .of (er1.sb.exact h rfl)⟩, he pp F G Hd1 H1 σ _ er1 fun u Hd2 H2 e2 er2 r2 => ?_⟩
      obtain ⟨z, z1, z2, z3⟩ := idx_spec d ys hi
      refine ⟨_, u, py d, pys ys, idx d ys, py z, rfl, rfl, ((r1'.mono e2).dp er2.sb h2 : Dp _ _ _ (py (.lst ys))), r2.dp er2.sb h1, (shaped_of (d := .lst ys) h2 h4 : SeqAt.shaped (py (.lst ys)) = true), shaped_of h1 h3, ?_, z2, fun m z' hm hz => ?_, k _ _ _ (e1.trans e2) er2 (.int _)⟩
      · rw [pys_map, List.getElem?_map, z1]; rfl
      · rw [pys_map, List.getElem?_map] at hz
        cases q : ys[m]? with
        | none => rw [q] at hz; cases hz
        | some y => rw [q] at hz; cases hz; exact z3 m y hm q
theorem plainAll_strs : ∀ ss : List Str, PyData.plainAll (pys (ss.map .str)) = true
  | [] => by simp [pys, PyData.plainAll]
  | s :: ss => by simp [pys, py, PyData.plainAll, PyData.plain, plainAll_strs ss]
theorem depthAll_strs : ∀ ss : List Str, PyData.depthAll (pys (ss.map .str)) = 0
  | [] => by simp [pys, PyData.depthAll]
  | s :: ss => by simp [pys, py, PyData.depthAll, PyData.depth, depthAll_strs ss]
theorem countP_strs (t : Str) : ∀ ss : List Str, (pys (ss.map .str)).countP (fun y => PyData.eqv y (.str t)) = ss.count t
  | [] => rfl
  | s :: ss => by
    show List.countP _ (PyData.str s :: pys (ss.map .str)) = _
    rw [List.countP_cons, countP_strs t ss, List.count_cons]
    congr 1
def rCountS (X : Cx) : V → List V → Hp → VK → Prop := fun x xs H Q => ∃ (a : Addr) (t : Str) (ss : List Str), x = .ref a ∧ xs = [.str t] ∧ SqL X.K H a (ss.map V.str) ∧ Q (.int (ss.count t : Nat)) H
theorem dpAll_strs {K : PySem.W.Frag} {H : Hp} : ∀ ss : List Str, DpAll K H (ss.map V.str) (pys (ss.map .str))
  | [] => .nil
  | s :: ss => .cons (.str s) (dpAll_strs ss)
theorem mt_countS (hr : Room r X.A) : MtR X "list.count" (rCountS X) := by
  intro pins s σ H x xs v us Q I rx rxs h
  obtain ⟨a, t, ss, rfl, rfl, hl, q⟩ := h
  cases rx
  obtain ⟨u, rfl, ru⟩ := rxs.one
  obtain ⟨as, r1⟩ := Dp.reads I (.str t) (.str t) u (.str t) ru
  obtain ⟨its, rv, hp, hz⟩ := I.list hl
  obtain ⟨bs, r2⟩ := Dp.readsAll I (pys (ss.map .str)) _ its (dpAll_strs ss) rv
  have hu := units65 hr
  refine SeqAt.count_list_data hp.isList (by simpa using r2) r1 (plainAll_strs ss) rfl (by rw [depthAll_strs]; simp; omega) ?_
  rw [countP_strs]
  exact ⟨.int (ss.count t : Nat), H, I.tok _, ⟨_, rfl⟩, q⟩
theorem EV.count {t : Str} {ss : List Str} (hr : Room r X.A) (ha : EV X a ρ (.lst (ss.map .str)) ρ1) (he : EV X e ρ1 (.str t) ρ2)
    (hbase : attributeBase a "count" X.env (eval a X.env) = eval a X.env := by rfl)
    (hfew : ((backTo pos (starEach (e :: []) X.env)).all (fun x => !x.1) && (backToKw pos (keywordEach [] X.env)).all (fun x => x.1.isSome)
      && decide ((e :: ([] : List Expr)).length + ([] : List Keyword).length + (if ([] : List Keyword).isEmpty then 0 else 1) < 30)) = true := by rfl)
    (hline : (apos.endLine == pos.line) = true := by rfl) (hs : starEach (e :: []) X.env = (false, eval e X.env) :: starEach [] X.env := by rfl) (hpl : (backTo pos (starEach [] X.env)).any (·.1) = false := by rfl) :
    EV X (.Call (.Attribute a "count" apos) [e] [] pos) ρ (.int (ss.count t : Nat)) ρ2 :=
  .of (pe_bm PySem.F.plainAttrs_list PySem.F.slot_list_count PySem.F.type_list_count (mt_countS hr) pe_c (pa_cons pe_c pa_nil hs) hbase hfew hline hs hpl) fun pp F G Hd H σ Q er k => ha pp F G Hd H σ _ er fun v Hd1 H1 e1 er1 r1 => by
    cases r1 with
    | lst h l =>
      have z := l.strs
      subst z
      refine ⟨.inl ⟨rfl, _, .of (er1.sb.exact h rfl)⟩, he pp F G Hd1 H1 σ _ er1 fun u Hd2 H2 e2 er2 r2 => ?_⟩
      cases r2
      exact ⟨_, t, ss, rfl, rfl, .of (er2.sb.exact (e2 _ _ h) rfl), k _ _ _ (e1.trans e2) er2 (.int _)⟩
/-- a module's tuple of texts -/
theorem EV.globT {x : Str} {ss : List Str} {ta : Addr} (hm : X.mg x = some (.ref ta)) (hs : ∀ H, SqT X.K H ta (ss.map V.str)) (hg : Gl X x := by rfl) (hd : (x == ("__debug__" : Str)) = false := by decide) : EV X (.Name x pos) ρ (.tup (ss.map .str)) ρ :=
  .glob hm (v := .ref ta) rfl (fun H => .tup (hs H) (RepL.of_strs ss)) hg hd

/-! ### zones -/
theorem RepF.look {P : Program} {w : World} {K : PySem.W.Frag} {H : Hp} {f : Str} : ∀ {fs : List (Str × V)} {z : List (Str × Dt)} {d : Dt}, RepF P w K H fs z → z.lookup f = some d → ∃ v, fs.lookup f = some v ∧ Rep P w K H v d
  | _, _, _, .nil, h => by cases h
  | (x, v) :: fs, (_, d0) :: z, d, .cons h r, e => by
    rw [List.lookup_cons] at e ⊢
    cases q : f == x with
    | true => rw [q] at e; cases e; exact ⟨v, rfl, h⟩
    | false => rw [q] at e; exact RepF.look r e
theorem RepF.none {P : Program} {w : World} {K : PySem.W.Frag} {H : Hp} {f : Str} : ∀ {fs : List (Str × V)} {z : List (Str × Dt)}, RepF P w K H fs z → z.lookup f = Option.none → fs.lookup f = Option.none
  | _, _, .nil, h => rfl
  | (x, v) :: fs, (_, d0) :: z, .cons h r, e => by
    rw [List.lookup_cons] at e ⊢
    cases q : f == x with
    | true => rw [q] at e; cases e
    | false => rw [q] at e; exact RepF.none r e
theorem EV.fld {z : List (Str × Dt)} {f : Str} (c : Cls X.K (He.ga X.K "Zone")) (hn : NoAttr X.K (He.ga X.K "Zone") f) (h : EV X e ρ (.zon z) ρ1) (hz : z.lookup f = some d) (hb : attributeBase e f X.env (eval e X.env) = eval e X.env := by rfl) : EV X (.Attribute e f pos) ρ d ρ1 :=
  .of (pe_fld pe_c hb) fun pp F G Hd H σ Q er k => h pp F G Hd H σ _ er fun v Hd1 H1 e1 er1 r1 => by
    cases r1 with
    | @zon a dx fs _ ha l =>
      obtain ⟨v, h1, h2⟩ := l.look hz
      exact ⟨a, _, dx, fs, v, rfl, er1.sb.exact ha rfl, c, hn, h1, k _ _ _ e1 er1 h2⟩
structure MetOk (P : Program) (w : World) (K : PySem.W.Frag) (mg : Str → Option Value) (base : Heap) (m : Str) (k n : Nat) (sp : Sp) : Prop where
  ex : ∃ fa fd ps, ps.length = n ∧ Cls K (He.ga K "Zone") ∧ Meth K (He.ga K "Zone") m fa ∧ Binds K fd ps [] ∧ FnOk P w K mg base CX0 k fa fd ps sp
abbrev XMet (X : Cx) := MetOk X.prog X.w X.K X.mg X.base
theorem EV.meth {z : List (Str × Dt)} {m : Str} {k : Nat} {rel : List Dt → Dt → Prop} {pl : Sem Bool} {o : Expr} (D : XMet X m k (n + 1) (spD X.prog X.w X.K (n + 1) rel)) (hr : Room k X.A) (ho : EV X o ρ (.zon z) ρ1) (ha : EA X (e :: es) ρ1 ds ρ2) (h : rel (.zon z :: ds) d) (hm : z.lookup m = none) (hn : ds.length = n := by rfl)
    (hst : starEach (e :: es) X.env = (false, eval e X.env) :: starEach es X.env := by rfl) (hpl : (backTo pos (starEach es X.env)).any (·.1) = false := by rfl)
    (ht : eval (.Call (.Attribute o m apos) (e :: es) [] pos) X.env = (do
      let ov ← eval o X.env
      standAt apos.atName
      let (f, first) ← holding [ov] (getMethod ov m pl)
      callWith pos f first (backTo pos (starEach (e :: es) X.env)) (backToKw pos (keywordEach [] X.env))) := by rfl) : EV X (.Call (.Attribute o m apos) (e :: es) [] pos) ρ d ρ2 := by
  obtain ⟨fa, fd, ps, hl, c, hme, hb, F⟩ := D.ex
  refine .of (pe_meth (pl := pl) pe_c c hme F hr hb .nil pass0 pa_c hst hpl ht) fun pp F G Hd H σ Q er k => ho pp F G Hd H σ _ er fun v Hd1 H1 e1 er1 r1 => ?_
  have r1' := id r1
  cases r1 with
  | @zon a dx fs _ hh l =>
    refine ⟨a, dx, fs, rfl, er1.sb.exact hh rfl, l.none hm, ha pp F G Hd1 H1 σ _ er1 fun vs Hd2 H2 e2 er2 r2 => ?_⟩
    refine ⟨Hd2, .zon z :: ds, d, er2.sb, .cons (r1'.mono e2) (by rw [List.append_nil]; exact r2), by rw [List.length_cons, hn], h, fun v H' Hd' eH eHd sb sp r => ?_⟩
    exact k v Hd' H' ((e1.trans e2).trans eHd) (er2.called eH eHd sb sp) r
/-- zone.f, a property that reads the field g -/
structure PropOk (K : PySem.W.Frag) (P : Program) (w : World) (mg : Str → Option Value) (base : Heap) (f g : Str) (k : Nat) : Prop where
  ex : ∃ p fa fd, Cls K (He.ga K "Zone") ∧ PropOf K (He.ga K "Zone") f p fa ∧ Binds K fd ["self"] [] ∧ FnOk P w K mg base CX0 k fa fd ["self"] (getSp (He.ga K "Zone") g)
theorem EV.prop {z : List (Str × Dt)} {f g : Str} {k : Nat} (D : PropOk X.K X.prog X.w X.mg X.base f g k) (hr : Room (k + 1) X.A) (h : EV X e ρ (.zon z) ρ1) (hz : z.lookup g = some d) (hb : attributeBase e f X.env (eval e X.env) = eval e X.env := by rfl) : EV X (.Attribute e f pos) ρ d ρ1 := by
  obtain ⟨p, fa, fd, c, hp, b, F⟩ := D.ex
  refine .of (pe_prop (E := E0) pe_c c hp F hr b .nil (fun _ _ _ _ _ _ _ h => h.elim) hb) fun pp F G Hd H σ Q er k => h pp F G Hd H σ _ er fun v Hd1 H1 e1 er1 r1 => ?_
  cases r1 with
  | @zon a dx fs _ ha l =>
    obtain ⟨v, h1, h2⟩ := l.look hz
    exact ⟨a, dx, fs, rfl, er1.sb.exact ha rfl, a, dx, fs, v, rfl, er1.sb.exact ha rfl, h1, k _ _ _ e1 er1 h2⟩
end
end Rw
namespace Rw
open PySem PySem.Spec PyProof.Rows L2
open PySem.W (SortsAt dataLe keyToks EachIs KeepsBut copyHeap copyHeap_at copyHeap_old sortingHeap sortingHeap_old sortVals sortVals_each dataKind)

abbrev Toks := List (Int ⊕ List Nat)
/-- a kind of keys, by what each value counts as -/
def mkK (ko : Value → Option Toks) : PyProof.Rows.KeyKind where
  toKeyOrd := listOrd itemOrd
  keyOf := ko
  dflt := ([] : Toks)
/-- the values us can be sorted as the data kz -/
def SA (P : Program) (w : World) (A : Around) (s : Shared) (us : List Value) (kz : List PyData) : Prop :=
  ∃ ko : Value → Option Toks, SortsAt P w A s (mkK ko) us ∧ EachIs (fun v d => ko v = some (keyToks d)) us kz
section
variable {X : Cx} {pins : List (Addr × Obj)} {σ : L2.St} {H : Hp} {s : Shared}
theorem call_in2 {k : Nat} {f : Addr} {fd : FuncData} {ps : List Str} {sp : Sp} {us : List Value} {vs : List V} {Q : VK} (F : FnOk X.prog X.w X.K X.mg X.base CX0 k f fd ps sp) (hr : Room (k + 2) X.A) (hb : Binds X.K fd ps []) (I : Inv X pins σ H s) (r : Vals vs us) (h : sp vs H Q E0) :
    wpAny (model X.prog X.w) X.A.in1.in1 (call (.ref f) us) (EP X pins σ Q) (fun _ _ => False) s := by
  have hl : (us ++ []).length = ps.length := by rw [List.append_nil, ← r.length]; exact F.len _ _ _ _ h
  have hbt := hb s us I.kIn hl
  rw [List.append_nil] at hbt
  refine wpAny_call (codeAny_mono (F.run X.A.in1.in1 X.stack s H ⟨us, []⟩ us vs Q E0 hr.in1.in1 I.env0.in1.in1 hbt r h) fun r s' hq => ?_)
  cases r with
  | error e => exact hq.elim
  | ok fl =>
    cases fl with
    | ret u => exact I.after hq
    | next => exact hq.elim
    | brk => exact hq.elim
    | cont => exact hq.elim
/-- an untracked object of ours is tracked from now on -/
theorem Inv.adopt {t' : Nat} {h' : Heap} {ch : List Addr} {T : Addr} {ob : HO} (I : Inv X pins σ H s) (k : ∀ b o, b ∉ ch → s.heap.get? b = some o → h'.get? b = some o) (hf : ∀ b ∈ ch, FpOk X pins H b) (hT : T ∈ ch) (new : ObjOk X.prog X.w (upd H T ob) h' T ob) :
    Inv X pins σ (upd H T ob) { s with heap := h', toks := t' } := by
  have hn : H T = none := (hf T hT).1
  have out : ∀ c v, H c = some v → c ∉ ch := fun c v e z => by rw [(hf c z).1] at e; cases e
  have old : ∀ {c v}, H c = some v → upd H T ob c = some v := fun {c v} e => by rw [upd_ne (ne_of_none e hn)]; exact e
  refine I.step (g' := s.gens) (d' := s.drawn) (ch := ch) (fun b hb => let z := hf b hb; ⟨z.2.2.2.1, z.2.1, z.2.2.2.2.1, z.2.2.2.2.2⟩) (fun b o _ _ q e _ => k b o q e) (fun b o _ _ q e _ => ⟨o.slots, k b o q e⟩)
    (fun b o q e n => by rw [upd_ne (fun z => q (by rw [z]; exact hT))]; exact n) (fun b o q e => ⟨o, k b o q e⟩) (fun b ys e => old e) (fun b o u e => old e) (fun b ps e => ⟨#[], by rw [old e]; simp⟩) (fun m hm => ?_) (fun b u e => ?_) I.bare
  · obtain ⟨o, es, ep, ho, r⟩ := hm
    exact ⟨o, es, ep, k _ o (fun z => (hf _ z).2.1 rfl) ho, r⟩
  · by_cases hb : b = T
    · subst hb; rw [upd_same] at e; cases e; exact new
    · rw [upd_ne hb] at e
      refine (I.hok b u e).stay (fun c v hc q => k c v ?_ q) (fun c q => old q) fun c ys q => old q
      rcases hc with z | z
      · rw [z]; exact out b u e
      · exact out c _ z
theorem vals_back : ∀ {xs : List V} {us : List Value} {i : Nat} {u : Value}, Vals xs us → us[i]? = some u → ∃ x, xs[i]? = some x ∧ RelV x u
  | _, _, _, _, .nil, e => by simp at e
  | x :: xs, v :: us, 0, u, .cons r t, e => by simp at e; subst e; exact ⟨x, rfl, r⟩
  | x :: xs, v :: us, i + 1, u, .cons r t, e => by
    obtain ⟨y, h1, h2⟩ := vals_back (i := i) t (by simpa using e)
    exact ⟨y, by simpa using h1, h2⟩
def wipeO (h : Heap) (b : Addr) : Heap := h.update b fun o => { o with data := .freed }
theorem wipeO_at (h : Heap) (b : Addr) : (wipeO h b).get? b = none := by
  unfold wipeO Heap.update Heap.get?
  simp only
  rw [Array.getElem?_modify]
  rw [if_pos rfl]
  cases h.objs[b]? with
  | none => rfl
  | some o => rfl
theorem wipeO_ne {h : Heap} {b c : Addr} (ne : c ≠ b) : (wipeO h b).get? c = h.get? c := (Heap.SameBut.update h b _).2 c ne
def sortV (xs : List V) (kz : List PyData) : List V := ((xs.zip kz).mergeSort (dataLe false fun p : V × PyData => p.2)).map (·.1)
theorem each_zip : ∀ {xs : List V} {us : List Value} {kz : List PyData}, Vals xs us → kz.length = xs.length → EachIs (fun v (p : V × PyData) => RelV p.1 v) us (xs.zip kz)
  | _, _, _, .nil, _ => .nil
  | x :: xs, u :: us, k :: kz, .cons r t, h => .cons r (each_zip t (by simpa using h))
  | x :: xs, u :: us, [], .cons r t, h => by simp at h
theorem each_zip2 {R : Value → PyData → Prop} : ∀ {xs : List V} {us : List Value} {kz : List PyData}, EachIs R us kz → kz.length = xs.length → EachIs (fun v (p : V × PyData) => R v p.2) us (xs.zip kz)
  | [], _, _, .nil, _ => .nil
  | x :: xs, _, _, .cons r t, h => .cons r (each_zip2 t (by simpa using h))
  | [], _, _, .cons r t, h => by simp at h
  | x :: xs, _, _, .nil, h => by simp at h
theorem vals_each : ∀ {out : List Value} {bs : List (V × PyData)}, EachIs (fun v (p : V × PyData) => RelV p.1 v) out bs → Vals (bs.map (·.1)) out
  | _, _, .nil => .nil
  | _, _, .cons r t => .cons r (vals_each t)
/-- list.sort(key=f) on a new list -/
theorem sortK_core {f a : Addr} {xs : List V} {its : List Value} {kz : List PyData} {Q : VK} {h0 : Heap} {tk0 : Nat} {E' : Value → Shared → Prop} (I : Inv X pins σ H s) (rv : Vals xs its) (hz : xs.length ≤ sizeLine) (oldC : ∀ b o, s.heap.get? b = some o → h0.get? b = some o) (ca : h0.get? a = some (seqObj "list" its.toArray 0)) (hsa : s.heap.objs.size ≤ a)
    (J : Nat → Hp → List V → Prop) (j0 : J 0 H []) (hk : kz.length = xs.length)
    (turn : ∀ i H' ks x, J i H' ks → xs[i]? = some x → ∀ pins' s' u, RelV x u → Inv X pins' σ H' s' → wpAny (model X.prog X.w) X.A.in1.in1 (call (.ref f) [u]) (EP X pins' σ fun k H'' => J (i + 1) H'' (ks ++ [k])) (fun _ _ => False) s')
    (sa : ∀ H' ks, J xs.length H' ks → ∀ pins' s' us, Inv X pins' σ H' s' → Vals ks us → SA X.prog X.w X.A.in1.in1 s' us kz)
    (q : ∀ H' ks p, J xs.length H' ks → H' p = none → Q (.ref p) (upd H' p (.lst (sortV xs kz)))) :
    wpAny (model X.prog X.w) X.A.in1.in1 (Builtin.«list.sort» ⟨[.ref a], [(Str.ofString "key", .ref f)]⟩) (fun r s' => r = .done (.ret .none) ∧ EP X pins σ Q (.ref a) s') E' { s with heap := h0, toks := tk0 } := by
  have hiz : its.length ≤ sizeLine := by rw [← rv.length]; exact hz
  rw [PyProof.Rows.ksk_t1]
  have hfa : FpOk X pins H a := I.fpOk hsa (I.hok.fresh hsa)
  have hlt : ∀ b o, s.heap.get? b = some o → b ≠ a := fun b o e => Nat.ne_of_lt (Nat.lt_of_lt_of_le (Heap.lt_size e) hsa)
  obtain ⟨e1, ho1⟩ : ∃ e1, (h0.update a (Obj.mapSeq fun _ => (#[] : Array Value))).get? a = some (seqObj "list" #[] e1) := ⟨_, get?_update_seq ca fun _ => #[]⟩
  unfold PyProof.Rows.ksk_tree
  refine wpAny_bind (listItems_at ca rfl (wpAny_bind (listUpdate_at ca rfl (wpAny_bind (seqEpoch_at ho1 rfl (wpAny_bind (wpAny_newTuple (wpAny_bind (wpAny_newList (wpAny_holding ?_) (Nat.zero_le _))) (by show its.length ≤ _; exact hiz))))) (by rw [List.size_toArray]; exact hiz) (Nat.zero_le _))))
  have al : a < h0.objs.size := Heap.lt_size ca
  have old1 : ∀ b o, s.heap.get? b = some o → ((h0.update a (Obj.mapSeq fun _ => (#[] : Array Value))).push { cls := .type "tuple", data := .seq its.toArray }).get? b = some o := fun b o e =>
    Heap.get?_push_of_some _ (((Heap.SameBut.update _ a _).2 b (hlt b o e)).trans (oldC b o e))
  have hs1 : ((h0.update a (Obj.mapSeq fun _ => (#[] : Array Value))).push { cls := .type "tuple", data := .seq its.toArray }).objs.size = h0.objs.size + 1 := by
    rw [size_push', Heap.size_update]
  have ho2 : ((h0.update a (Obj.mapSeq fun _ => (#[] : Array Value))).push { cls := .type "tuple", data := .seq its.toArray }).get? a = some (seqObj "list" #[] e1) := Heap.get?_push_of_some _ ho1
  generalize ((h0.update a (Obj.mapSeq fun _ => (#[] : Array Value))).push { cls := .type "tuple", data := .seq its.toArray }) = h1 at old1 ho2 hs1
  have hkp : h1.objs.size = h1.objs.size := rfl
  have hsk : s.heap.objs.size ≤ h1.objs.size := by rw [hs1]; exact Nat.le_succ_of_le (Nat.le_trans hsa (Nat.le_of_lt al))
  have hfk : FpOk X pins H h1.objs.size := I.fpOk hsk (I.hok.fresh hsk)
  have hka : h1.objs.size ≠ a := Nat.ne_of_gt (Heap.lt_size ho2)
  have old2 : ∀ b o, s.heap.get? b = some o → (h1.push { cls := .type "list", data := .seq ([] : List Value).toArray }).get? b = some o := fun b o e => Heap.get?_push_of_some _ (old1 b o e)
  have ho3 : (h1.push { cls := .type "list", data := .seq ([] : List Value).toArray }).get? a = some (seqObj "list" #[] e1) := Heap.get?_push_of_some _ ho2
  have nk0 : (h1.push { cls := .type "list", data := .seq ([] : List Value).toArray }).get? h1.objs.size = some (seqObj "list" #[] 0) := Heap.get?_push_size _ rfl
  generalize h1.objs.size = kS at hfk hka nk0
  generalize (h1.push { cls := .type "list", data := .seq ([] : List Value).toArray }) = h2 at old2 ho3 nk0
  have I2 : Inv X pins σ H { s with heap := h2, toks := tk0 } := I.kept (t' := tk0) old2
  have pinOk : ∀ {H' : Hp} {s' : Shared} {kA : Array Value} {e : Nat}, Inv X pins σ H' s' → H' a = none → H' kS = none → s'.heap.get? a = some (seqObj "list" #[] e1) → s'.heap.get? kS = some (seqObj "list" kA e) →
      Inv X ((a, seqObj "list" #[] e1) :: (kS, seqObj "list" kA e) :: pins) σ H' s' := fun {H' s' kA e} J n1 n2 g1 g2 => J.pins_of fun p hp => by
    rcases List.mem_cons.mp hp with z | hp
    · subst z; exact ⟨g1, n1, hfa.2.1, hfa.2.2.1, fun v z => nomatch z⟩
    · rcases List.mem_cons.mp hp with z | hp
      · subst z; exact ⟨g2, n2, hfk.2.1, hfk.2.2.1, fun v z => nomatch z⟩
      · exact J.pin p (List.mem_append_right _ hp)
  have unpin : ∀ {H' : Hp} {s' : Shared} {kA : Array Value} {e : Nat}, Inv X ((a, seqObj "list" #[] e1) :: (kS, seqObj "list" kA e) :: pins) σ H' s' → Inv X pins σ H' s' ∧ H' a = none ∧ H' kS = none ∧ s'.heap.get? a = some (seqObj "list" #[] e1) ∧ s'.heap.get? kS = some (seqObj "list" kA e) := fun {H' s' kA e} J => by
    have p1 := J.pin (a, seqObj "list" #[] e1) (List.mem_append_right _ (.head _))
    have p2 := J.pin (kS, seqObj "list" kA e) (List.mem_append_right _ (.tail _ (.head _)))
    exact ⟨J.pins_of fun p hp => J.pin p (List.mem_append_right _ (.tail _ (.tail _ hp))), p1.2.1, p2.2.1, p1.1, p2.1⟩
  have fpA : ∀ {H' : Hp}, H' a = none → FpOk X pins H' a := fun {H'} n => ⟨n, hfa.2⟩
  have fpK : ∀ {H' : Hp}, H' kS = none → FpOk X pins H' kS := fun {H'} n => ⟨n, hfk.2⟩
  unfold PyProof.Rows.ksk_rest
  refine wpAny_bind (wpAny_rule ?_)
  first
    | rw [List.forIn_toArray]
    | (simp only [List.forIn_toArray])
  refine wpAny_bind (PyProof.Rows.ksk_fold (fun i s' => ∃ H' ks kA e, Inv X ((a, seqObj "list" #[] e1) :: (kS, seqObj "list" kA e) :: pins) σ H' s' ∧ J i H' ks ∧ Vals ks kA.toList ∧ ks.length = i) its 0 { s with heap := h2, toks := tk0 }
    ⟨H, [], #[], 0, pinOk I2 hfa.1 hfk.1 ho3 nk0, j0, .nil, rfl⟩ ?step ?done)
  case step =>
    rintro j u s' hu ⟨H', ks, kA, e, Ij, hJ, rk, hl2⟩
    simp only [Nat.zero_add] at hJ hl2 ⊢
    obtain ⟨x, hx, rx⟩ := vals_back rv hu
    have hj : j < xs.length := (List.getElem?_eq_some_iff.mp hx).1
    have hsz : kA.size ≤ sizeLine := by
      have z : ks.length = kA.toList.length := rk.length
      have z2 : kA.toList.length = kA.size := Array.length_toList
      omega
    refine wpAny_bind (wpAny_attempt (wpAny_mono (turn j H' ks x hJ hx _ s' u rx Ij) (fun v s2 hv => ?_) fun _ _ hF => hF.elim))
    obtain ⟨kv, H2, I3, rkv, hJ2⟩ := hv
    try dsimp only
    obtain ⟨I4, n1, n2, g1, g2⟩ := unpin I3
    have sb := Heap.SameBut.update s2.heap kS (Obj.mapSeq (·.push v))
    obtain ⟨c2, hc2⟩ : ∃ c2, (s2.heap.update kS (Obj.mapSeq (·.push v))).get? kS = some (seqObj "list" (kA.push v) c2) := ⟨_, get?_update_seq g2 (·.push v)⟩
    refine wpAny_bind (listUpdate_at g2 rfl ?_ hsz (by rw [Array.size_push]; omega))
    have I5 : Inv X pins σ H2 { s2 with heap := s2.heap.update kS (Obj.mapSeq (·.push v)) } := I4.turned (t' := s2.toks) (fun b o hb q => (sb.2 b hb).trans q) n2 (fpK n2).2.1 (fpK n2).2.2.2.1 (fpK n2).2.2.2.2.1 (fpK n2).2.2.2.2.2
    refine wpAny_pure ⟨rfl, H2, ks ++ [kv], kA.push v, c2, pinOk I5 n1 n2 ((sb.2 a hka.symm).trans g1) hc2, hJ2, ?_, by rw [List.length_append, hl2]; rfl⟩
    rw [Array.toList_push]
    exact rk.append (.cons rkv .nil)
  case done =>
    rintro s' ⟨H', ks, kA, e, Ij, hJ, rk, hl2⟩
    rw [Nat.zero_add, ← rv.length] at hJ hl2
    obtain ⟨I4, n1, n2, g1, g2⟩ := unpin Ij
    try dsimp only
    refine wpAny_bind (listItems_at g2 rfl ?_)
    obtain ⟨ko, S, hko⟩ := sa H' ks hJ _ s' kA.toList Ij rk
    have hks : kA.size = its.length := by
      have z : ks.length = kA.toList.length := rk.length
      have z2 : kA.toList.length = kA.size := Array.length_toList
      have z3 : xs.length = its.length := rv.length
      omega
    have kp : KeepsBut a (wipeO s'.heap kS) s'.heap := fun b o _ q => by
      by_cases hb : b = kS
      · rw [hb, wipeO_at] at q; cases q
      · rw [wipeO_ne hb] at q; exact q
    refine PySem.W.keyH_end (κ := mkK ko) (h₁ := wipeO s'.heap kS) kp (wipeO_at _ _) g2 g1 hka S hks hiz fun h' tk c kp' ga => ⟨rfl, ?_⟩
    have out := sortVals_each (κ := mkK ko) (rev := false) (ks := kA.toList) (k := fun p : V × PyData => keyToks p.2) (each_zip rv hk) (each_zip2 (R := fun v d => ko v = some (keyToks d)) hko hk)
    have vo : Vals (sortV xs kz) (sortVals (mkK ko) false kA.toList its) := vals_each out
    have keepH : ∀ b o, b ∉ [a, kS] → s'.heap.get? b = some o → h'.get? b = some o := fun b o hb q => by
      have h1 : b ≠ a := fun z => hb (by simp [z])
      have h2 : b ≠ kS := fun z => hb (by simp [z])
      exact kp' b o h1 (by rw [wipeO_ne h2]; exact q)
    have hlo : (sortV xs kz).length ≤ sizeLine := by
      unfold sortV
      rw [List.length_map, (List.mergeSort_perm _ _).length_eq, List.length_zip, hk, Nat.min_self]
      exact hz
    refine ⟨.ref a, upd H' a (.lst (sortV xs kz)), Inv.adopt (t' := tk) (ch := [a, kS]) I4 keepH (fun b hb => ?_) (by simp) ⟨hlo, _, c, vo, ga⟩, rfl, q H' ks a hJ n1⟩
    rcases List.mem_cons.mp hb with z | hb
    · subst z; exact fpA n1
    · rcases List.mem_cons.mp hb with z | hb
      · subst z; exact fpK n2
      · cases hb
/-- sorted(l, key=f) of a list -/
theorem sortK_run {l f : Addr} {xs : List V} {kz : List PyData} {Q : VK} (I : Inv X pins σ H s) (hl : SqL X.K H l xs) (J : Nat → Hp → List V → Prop) (j0 : J 0 H []) (hk : kz.length = xs.length)
    (turn : ∀ i H' ks x, J i H' ks → xs[i]? = some x → ∀ pins' s' u, RelV x u → Inv X pins' σ H' s' → wpAny (model X.prog X.w) X.A.in1.in1 (call (.ref f) [u]) (EP X pins' σ fun k H'' => J (i + 1) H'' (ks ++ [k])) (fun _ _ => False) s')
    (sa : ∀ H' ks, J xs.length H' ks → ∀ pins' s' us, Inv X pins' σ H' s' → Vals ks us → SA X.prog X.w X.A.in1.in1 s' us kz)
    (q : ∀ H' ks p, J xs.length H' ks → H' p = none → Q (.ref p) (upd H' p (.lst (sortV xs kz)))) :
    wpAny (model X.prog X.w) X.A (call (.builtin "sorted") [.ref l] [(Str.ofString "key", .ref f)]) (EP X pins σ Q) X.xe s := by
  obtain ⟨its, rv, hp, hz⟩ := I.list hl
  refine PySem.W.sorted_of_sort hp.isList (by rw [← rv.length]; exact hz) (PyProof.Rows.ksk_s1 _ _) (fun _ => PyProof.Rows.ksk_l1 _ _) fun E' => ?_
  exact sortK_core (tk0 := s.toks) I rv hz (fun b o e => copyHeap_old e) (copyHeap_at s.heap its) (Nat.le_succ _) J j0 hk turn sa q
theorem kdl_raw {prog : Program} {w : World} {d : Addr} {es : Array DictEntry} {ep : Nat} (lo : (d == sysModules) = false) : PySem.W.KdlSrc prog w "dict" d d es.size (fun i v => ∃ hi : i < es.size, v = es[i].key) (fun h => h.DictRaw d es ep) where
  type := fun _ hm => hm.typeIs
  there := fun _ hm => let ⟨o, ho, _⟩ := hm; ⟨Heap.lt_size ho, Heap.lt_size ho⟩
  keep := fun _ _ hm hk => hm.at fun o e => hk d (.inl rfl) o e
  notList := by decide
  notTuple := by decide
  hint := fun _ _ _ _ hm hq => PySem.W.kdl_hint_dict hm.typeIs hq
  iter := fun _ _ hh hm => ⟨_, _, fun _ _ hq => wpAny_pyIter_dict_raw lo hm hq, Walks.rawKeys hh _ d (Nat.ne_of_lt (let ⟨o, ho, _⟩ := hm; Heap.lt_size ho)) es ep, ⟨⟨_, Heap.get?_push_size _ rfl, rfl, rfl⟩, hm.at fun o e => Heap.get?_push_of_some _ e⟩⟩
theorem items_vals {us : List (NestedKey × Addr × Value)} {acc : List Value} : ∀ {xs : List (NestedKey × Addr × V)}, Paired RelX xs us → acc.length = us.length → (∀ (i : Nat) (v : Value), acc[i]? = some v → ∃ y, us[i]? = some y ∧ v = Value.ref y.2.1) → Vals (xs.map fun p => V.ref p.2.1) acc := by
  intro xs p
  induction p generalizing acc with
  | nil => intro h _; cases acc with
    | nil => exact .nil
    | cons _ _ => cases h
  | @cons a b l1 l2 r t ih =>
    intro h hi
    cases acc with
    | nil => cases h
    | cons v acc =>
      obtain ⟨y, h1, h2⟩ := hi 0 v rfl
      simp at h1
      subst h1
      refine .cons ?_ (ih (by simpa using h) fun i v hv => ?_)
      · rw [h2, ← r.2.1]; rfl
      · obtain ⟨y, h1, h2⟩ := hi (i + 1) v (by simpa using hv)
        exact ⟨y, by simpa using h1, h2⟩
/-- sorted(d, key=f) of a dict -/
theorem sortKD_run {d f : Addr} {xs : DX} {kz : List PyData} {Q : VK} (hc : X.calm = true) (I : Inv X pins σ H s) (hl : DXat X.prog X.w d xs H) (J : Nat → Hp → List V → Prop) (j0 : J 0 H []) (hk : kz.length = xs.1.length)
    (turn : ∀ i H' ks x, J i H' ks → (xs.1.map fun p => V.ref p.2.1)[i]? = some x → ∀ pins' s' u, RelV x u → Inv X pins' σ H' s' → wpAny (model X.prog X.w) X.A.in1.in1 (call (.ref f) [u]) (EP X pins' σ fun k H'' => J (i + 1) H'' (ks ++ [k])) (fun _ _ => False) s')
    (sa : ∀ H' ks, J xs.1.length H' ks → ∀ pins' s' us, Inv X pins' σ H' s' → Vals ks us → SA X.prog X.w X.A.in1.in1 s' us kz)
    (q : ∀ H' ks p, J xs.1.length H' ks → H' p = none → Q (.ref p) (upd H' p (.lst (sortV (xs.1.map fun p => V.ref p.2.1) kz)))) :
    wpAny (model X.prog X.w) X.A (call (.builtin "sorted") [.ref d] [(Str.ofString "key", .ref f)]) (EP X pins σ Q) X.xe s := by
  have hzx : xs.1.length ≤ sizeLine := (Rd.ok hl I.hok).1.2.1
  obtain ⟨es, us, q1, q2, q3, hraw, q5⟩ := dict_raw I hl
  refine call_function_entry_kw PyProof.Rows.kind_sorted PyProof.Rows.plain_sorted PyProof.Rows.entry_sorted (PyProof.Rows.ksk_s1 _ _) ?_
  unfold Builtin.«sorted»
  refine wpAny_bind (m := checkCount "sorted" 1 1 _) (wpAny_pure ?_)
  refine wpAny_bind (PySem.W.kdu_collect (A := X.A.in1) (kdl_raw q1) (I.ok.hd hc) hraw (by rw [q2]; exact hzx) fun h' tk acc kp hacc => ?_)
  have hal : acc.toList.length = es.size := by rw [Array.length_toList, hacc.1]
  have hul : es.size = us.length := size_of_entries q5
  have rv : Vals (xs.1.map fun p => V.ref p.2.1) acc.toList := items_vals q3 (by rw [hal, hul]) fun i v hv => by
    obtain ⟨hi, ev⟩ := hacc.2 i v (by rw [← Array.getElem?_toList]; exact hv)
    have z := entry_at q5 i
    rw [Array.getElem?_eq_getElem hi] at z
    cases y : us[i]? with
    | none => rw [y] at z; cases z
    | some u =>
      rw [y] at z
      refine ⟨u, rfl, ?_⟩
      rw [ev, Option.some.inj z]
      rfl
  have hz2 : (xs.1.map fun p => V.ref p.2.1).length ≤ sizeLine := by rw [List.length_map]; exact hzx
  have e2 : (xs.1.map fun p => V.ref p.2.1).length = xs.1.length := List.length_map ..
  refine wpAny_bind (wpAny_newList ?_ (by rw [hal, q2]; exact hzx))
  have hoL : (h'.push (seqObj "list" acc.toList.toArray 0)).get? h'.objs.size = some (seqObj "list" acc.toList.toArray 0) := Heap.get?_push_size _ rfl
  have e3 := e2
  rw [← e2] at hk sa q
  refine wpAny_bind (wpAny_holding (wpAny_call_entry_kw PyProof.Rows.slot_list_sort ⟨_, hoL, rfl⟩ PyProof.Rows.entry_list_sort ?body (PyProof.Rows.ksk_l1 _ _)))
  case body =>
    refine wpAny_mono (sortK_core (E' := fun e s' => X.xe e s') (s := { s with heap := h', toks := tk }) (tk0 := tk) (I.kept (t' := tk) kp) rv hz2 (fun b o e => Heap.get?_push_of_some _ e) hoL (Nat.le_refl _) J j0 hk turn sa q) (fun r s' hr => ?_) fun _ _ e => e
    obtain ⟨rfl, hq⟩ := hr
    exact ⟨_, rfl, wpAny_pure ⟨_, rfl, hq⟩⟩
end
end Rw
namespace Rw
open PySem PySem.Spec PyProof.Rows L2
open PySem.W (SortsAt dataLe dataLt keyToks keyToksAll EachIs dataKind alike alikeAll AllAlike Sortable)

section
variable {X : Cx} {pins : List (Addr × Obj)} {σ : L2.St} {Hd H : Hp} {s : Shared} {A : Around}
theorem reads_all (I : Inv X pins σ H s) (sb : Sub Hd H) : ∀ {ks : List V} {us : List Value} {kds : List Dt}, XRepL X Hd ks kds → Vals ks us → plains kds = true → EachIs (fun v d => ∃ as, Reads s.heap v d as) us (pys kds)
  | _, _, _, .nil, .nil, _ => .nil
  | _, _, _, .cons r t, .cons rv tv, hp => by
    have h1 := Bool.and_eq_true_iff.mp hp
    exact .cons (Dp.reads I _ _ _ (r.dp sb h1.1) rv) (reads_all I sb t tv h1.2)
theorem pys_depth_mem : ∀ {kds : List Dt} {d : PyData}, d ∈ pys kds → d.depth ≤ deps kds
  | x :: xs, d, h => by
    rcases List.mem_cons.mp (show d ∈ py x :: pys xs from h) with z | z
    · subst z
      have := py_depth x
      show _ ≤ max (dep x) (deps xs)
      omega
    · have := pys_depth_mem z
      show _ ≤ max (dep x) (deps xs)
      omega
/-- keys that are alike data, tuples with an item at least -/
theorem SA.data {ks : List V} {us : List Value} {kds : List Dt} (I : Inv X pins σ H s) (sb : Sub Hd H) (r : XRepL X Hd ks kds) (rv : Vals ks us) (hp : plains kds = true) (hal : AllAlike (pys kds)) (hs : Sortable (pys kds)) (hd : deps kds ≤ 64) (hu : A.units + 70 < cLine) : SA X.prog X.w A s us (pys kds) := by
  have e := reads_all I sb r rv hp
  have S : SortsAt X.prog X.w A s (dataKind s.heap (pys kds)) us := .data e hal hs fun d hd' => by
    have := pys_depth_mem hd'
    omega
  exact ⟨(dataKind s.heap (pys kds)).keyOf, S, PySem.W.each_keys hal e⟩

/-! ### names, the root first -/
/-- the tuple at v, its first item -/
def FirstOf (h : Heap) (v : Value) (f : Option Value) : Prop := ∃ a o xs n, v = .ref a ∧ h.get? a = some o ∧ o.cls = .type "tuple" ∧ o.data = .seq xs n ∧ xs[0]? = f
theorem firsts_of {M : Model} {E : Value → Shared → Prop} : ∀ {vs : List Value} {fs : List (Option Value)} {Q : List (Option Value) → Shared → Prop}, EachIs (FirstOf s.heap) vs fs → Q fs s → wpAny M A (vs.mapM firstOfTuple') Q E s
  | _, _, _, .nil, h => by rw [List.mapM_nil]; exact wpAny_pure h
  | _, _, Q, .cons (a := v) (b := f) (as := vs) (bs := fs) r t, h => by
    obtain ⟨a, o, xs, n, rfl, ho, hc, hd, hf⟩ := r
    rw [List.mapM_cons, PySem.W.kas_first_eq]
    refine wpAny_bind (wpAny_bind (PySem.W.Looks.here (show PySem.W.Looks M s.heap (typeOf (.ref a)) o.cls from (PySem.W.Looks.ld ho).andThen .now) ?_))
    rw [hc, if_neg (by first | decide | simp)]
    refine wpAny_bind (listItems_at ho hd (wpAny_pure ?_))
    rw [hf]
    exact wpAny_bind (firsts_of t (Q := fun bs s' => wpAny M A (pure (f :: bs)) Q E s') (wpAny_pure h))
theorem kind_root {M : Model} {E : Value → Shared → Prop} {v : Value} {vs : List Value} {fs : List (Option Value)} {Q : SortKind → Shared → Prop} (h1 : FirstOf s.heap v none) (h2 : EachIs (FirstOf s.heap) vs fs) (h : Q oneType' s) : wpAny M A (keyKind' (v :: vs).toArray) Q E s := by
  rw [keyKind'_eq, List.mapM_toArray, map_eq_pure_bind]
  refine wpAny_bind (wpAny_bind (firsts_of (.cons h1 h2) (wpAny_pure ?_)))
  rw [if_neg (by simp), if_neg (by simp)]
  rw [oneTypeOnly'_eq, List.mapM_toArray, map_eq_pure_bind]
  have ty : ∀ u ∈ v :: vs, ∀ Q' : Value → Shared → Prop, Q' (Value.type "tuple") s → wpAny M A (typeOf u) Q' E s := by
    intro u hu Q' hq
    obtain ⟨f, hf⟩ : ∃ f, FirstOf s.heap u f := by
      rcases List.mem_cons.mp hu with z | z
      · exact ⟨_, z ▸ h1⟩
      · clear h1 h hu
        induction h2 with
        | nil => cases z
        | cons r t ih =>
          rcases List.mem_cons.mp z with z | z
          · exact ⟨_, z ▸ r⟩
          · exact ih z
    obtain ⟨a, o, xs, n, rfl, ho, hc, hd, _⟩ := hf
    exact (PySem.W.Looks.here (show PySem.W.Looks M s.heap (typeOf (.ref a)) (Value.type "tuple") from hc ▸ (PySem.W.Looks.ld ho).andThen .now) hq)
  refine wpAny_bind (wpAny_bind (wpAny_bind (PySem.W.kas_mapM (r := Value.type "tuple") _ ty (wpAny_pure ?_))))
  have hall : ((List.map (fun _ => Value.type "tuple") (v :: vs)).toArray.all fun x => x == Value.type "tuple") = true := by
    simp only [List.all_toArray, List.all_map, List.all_eq_true]
    intro _ _
    exact beq_self_eq_true _
  have h0 : (List.map (fun _ => Value.type "tuple") (v :: vs)).toArray[0]? = some (Value.type "tuple") := by simp
  rw [h0]
  simp only [hall, if_true]
  exact wpAny_pure (wpAny_pure (by simpa using h))
/-- x.__lt__(y) of two tuples of alike data -/
theorem oneLt_tup {prog : Program} {w : World} {E : Value → Shared → Prop} {xs ys : List PyData} {a b : Value} {as bs : List Addr} {Q : Bool → Shared → Prop} (ra : Reads s.heap a (.tuple xs) as) (rb : Reads s.heap b (.tuple ys) bs) (hal : alikeAll xs ys = true)
    (hu : A.units + min (PyData.tuple xs).depth (PyData.tuple ys).depth < cLine) (hq : Q (dataLt (.tuple xs) (.tuple ys)) s) : wpAny (model prog w) A (oneLt' true a b) Q E s := by
  cases ra with
  | @tuple l o vs n _ as1 h1 h2 h3 h4 =>
    cases rb with
    | @tuple l' o' vs' n' _ bs1 k1 k2 k3 k4 =>
      have n1 : vs.size = xs.length := by simpa using SeqAt.ReadsAll.length _ _ _ h4
      have n2 : vs'.size = ys.length := by simpa using SeqAt.ReadsAll.length _ _ _ k4
      obtain ⟨cls, dd, data, sl⟩ := o
      obtain ⟨cls', dd', data', sl'⟩ := o'
      simp only at h2 h3 k2 k3
      subst h2 h3 k2 k3
      rw [PySem.W.dataLt_tuple, ← PySem.W.firstLt_toks xs ys hal, ← n1, ← n2] at hq
      rw [oneLt'_eq]
      simp only [if_true]
      refine wpAny_bind (wpAny_cRoomFor (SeqAt.room_here hu) ?_)
      refine wpAny_bind (wpAny_callSpecialIfBound?_slot (T := "tuple") ⟨_, h1, rfl⟩ F.slot_tuple_lt (call_meets F.slot_tuple_lt ⟨_, h1, rfl⟩ F.entry_tuple_lt (F.args_tuple_lt_2 _ _)
        (SeqAt.tuple_ltAt l l' vs vs' n n' dd dd' sl sl' (SeqAt.pairEq xs ys) (fun j => dataLt (xs.getD j .none) (ys.getD j .none))) ⟨h1, k1, fun j j1 j2 => ?_, fun j j1 j2 hj => ?_, ?_⟩))
      · have := PySem.W.eqAt_alikeAll xs ys A.in1 s vs.toList vs'.toList _ _ h4 k4 hal (SeqAt.room_in hu) j (by simpa using j1) (by simpa using j2)
        simpa using this
      · have := PySem.W.rcLt_alikeAll xs ys A.in1 s vs.toList vs'.toList _ _ h4 k4 hal (SeqAt.room_in hu) j (by simpa using j1) (by simpa using j2) hj
        simpa using this
      · exact wpAny_truthy_bool hq
/-- a name as data -/
def nmP (n : List Str) : PyData := .tuple (n.map .str)
theorem py_strs : ∀ n : List Str, pys (n.map .str) = n.map PyData.str
  | [] => rfl
  | s :: n => by show PyData.str s :: pys (n.map .str) = _; rw [py_strs n]; rfl
theorem py_nm (n : List Str) : py (.tup (n.map .str)) = nmP n := by show PyData.tuple (pys _) = _; rw [py_strs]; rfl
theorem alike_strs : ∀ a b : List Str, alikeAll (a.map PyData.str) (b.map PyData.str) = true
  | [], _ => by simp [alikeAll]
  | _ :: _, [] => by simp [alikeAll]
  | x :: a, y :: b => by simp [alikeAll, alike, alike_strs a b]
theorem alike_nm (a b : List Str) : alike (nmP a) (nmP b) = true := by show alike (.tuple _) (.tuple _) = true; simp only [alike]; exact alike_strs a b
theorem depth_strs : ∀ a : List Str, PyData.depthAll (a.map PyData.str) = 0
  | [] => rfl
  | x :: a => by simp [PyData.depthAll, PyData.depth, depth_strs a]
theorem depth_nm (a : List Str) : (nmP a).depth = 1 := by show (PyData.tuple _).depth = 1; simp [PyData.depth, depth_strs]
theorem first_of_nm {h : Heap} {v : Value} {n : List Str} {as : List Addr} (r : Reads h v (nmP n) as) : ∃ f, FirstOf h v f ∧ (n = [] → f = none) := by
  cases n with
  | nil =>
    cases r with
    | @tuple a o xs m _ _ h1 h2 h3 h4 =>
      refine ⟨none, ⟨a, o, xs, m, rfl, h1, h2, h3, ?_⟩, fun _ => rfl⟩
      have : xs.toList = [] := by cases q : xs.toList with
        | nil => rfl
        | cons _ _ => rw [q] at h4; cases h4
      have : xs.size = 0 := by rw [← Array.length_toList, this]; rfl
      exact Array.getElem?_eq_none (by omega)
  | cons t n =>
    cases r with
    | @tuple a o xs m _ _ h1 h2 h3 h4 => exact ⟨_, ⟨a, o, xs, m, rfl, h1, h2, h3, rfl⟩, fun z => nomatch z⟩
/-- names, the first of them the root -/
theorem SA.names {ks : List V} {us : List Value} {ns : List (List Str)} (I : Inv X pins σ H s) (sb : Sub Hd H) (r : XRepL X Hd ks (([] :: ns).map fun n => .tup (n.map .str))) (rv : Vals ks us) (hp : plains ((([] : List Str) :: ns).map fun n => Dt.tup (n.map .str)) = true) (hu : A.units + 70 < cLine) :
    SA X.prog X.w A s us (([] :: ns).map nmP) := by
  have hpy : pys ((([] : List Str) :: ns).map fun n => Dt.tup (n.map .str)) = ([] :: ns).map nmP := by
    rw [pys_map, List.map_map]
    exact List.map_congr_left fun n _ => py_nm n
  have e := reads_all I sb r rv hp
  rw [hpy] at e
  have hal : AllAlike (([] :: ns).map nmP) := fun d hd d' hd' => by
    obtain ⟨n, _, rfl⟩ := List.mem_map.mp hd
    obtain ⟨m, _, rfl⟩ := List.mem_map.mp hd'
    exact alike_nm n m
  refine ⟨(dataKind s.heap (([] :: ns).map nmP)).keyOf, ⟨fun v hv => ?_, oneType', ?_, fun h2 E Q hq => ?_⟩, PySem.W.each_keys hal e⟩
  · obtain ⟨d, hd, as, r⟩ := e.left v hv
    exact ⟨_, PySem.W.dataKind_some hal hd r⟩
  · intro E x y a b Q ha hb hq
    obtain ⟨d, as, hd, ra, rfl⟩ := PySem.W.dataKind_inv (show (dataKind s.heap (([] :: ns).map nmP)).keyOf x = some a from ha)
    obtain ⟨d', as', hd', rb, rfl⟩ := PySem.W.dataKind_inv (show (dataKind s.heap (([] :: ns).map nmP)).keyOf y = some b from hb)
    obtain ⟨n, _, rfl⟩ := List.mem_map.mp hd
    obtain ⟨m, _, rfl⟩ := List.mem_map.mp hd'
    rw [keyLt'_oneType]
    refine oneLt_tup ra rb (alike_strs n m) ?_ hq
    have h1 := depth_nm n
    have h2 := depth_nm m
    unfold nmP at h1 h2
    rw [h1, h2]
    omega
  · cases e with
    | @cons v _ vs _ r0 t =>
      obtain ⟨as, r0⟩ := r0
      obtain ⟨f, hf, hz⟩ := first_of_nm r0
      rw [hz rfl] at hf
      have : ∀ {vs : List Value} {ns : List (List Str)}, EachIs (fun v d => ∃ as, Reads s.heap v d as) vs (ns.map nmP) → ∃ fs, EachIs (FirstOf s.heap) vs fs := by
        intro vs ns
        induction ns generalizing vs with
        | nil => intro e; cases e; exact ⟨[], .nil⟩
        | cons n ns ih =>
          intro e
          cases e with
          | cons r1 t1 =>
            obtain ⟨as, r1⟩ := r1
            obtain ⟨f, hf, _⟩ := first_of_nm r1
            obtain ⟨fs, hfs⟩ := ih t1
            exact ⟨f :: fs, .cons hf hfs⟩
      obtain ⟨fs, hfs⟩ := this t
      exact kind_root hf hfs hq

/-! ### tuples whose first two items (a name, a text) tell them apart -/
def rcP (p : List Str × Str) : PyData := .tuple [nmP p.1, .str p.2]
def TwoOf (h : Heap) (v : Value) (p : List Str × Str) : Prop := ∃ a o xs n x y r as bs, v = .ref a ∧ h.get? a = some o ∧ o.cls = .type "tuple" ∧ o.data = .seq xs n ∧ xs.toList = x :: y :: r ∧ Reads h x (nmP p.1) as ∧ Reads h y (.str p.2) bs
theorem TwoOf.one {h : Heap} {v : Value} {p q : List Str × Str} (a : TwoOf h v p) (b : TwoOf h v q) : p = q := by
  obtain ⟨a1, o, xs, n, x, y, r, as, bs, rfl, g1, g2, g3, g4, g5, g6⟩ := a
  obtain ⟨a2, o', xs', n', x', y', r', as', bs', e, k1, k2, k3, k4, k5, k6⟩ := b
  cases e
  rw [g1] at k1
  cases k1
  rw [g3] at k3
  cases k3
  rw [g4] at k4
  cases k4
  have h1 := PySem.W.alike_unique _ _ _ _ _ (alike_nm p.1 q.1) g5 k5
  have h2 := PySem.W.alike_unique _ _ _ _ _ (show alike (.str p.2) (.str q.2) = true by simp [alike]) g6 k6
  have inj : ∀ a b : List Str, a.map PyData.str = b.map PyData.str → a = b := by
    intro a
    induction a with
    | nil => intro b h; cases b with
      | nil => rfl
      | cons _ _ => cases h
    | cons x a ih => intro b h; cases b with
      | nil => cases h
      | cons y b => rw [List.map_cons, List.map_cons] at h; injection h with h1 h2; injection h1 with h1; rw [h1, ih b h2]
  unfold nmP at h1
  injection h1 with h1
  injection h2 with h2
  exact Prod.ext (inj _ _ h1) h2
theorem katLex_self {prog : Program} {w : World} {b fin : Bool} {Q : Bool → Shared → Prop} : ∀ (xs : List Value) (i : Nat), Q fin s → PySem.W.KatLex prog w A b fin Q (xs.zip xs) i s
  | [], i, h => PySem.W.kat_nil h
  | x :: xs, i, h => PySem.W.kat_cons (SeqAt.EqAt.same x prog w _ _ (PySem.W.kat_yes (katLex_self xs (i + 1) h)))
theorem each_get {α β : Type} {R : α → β → Prop} : ∀ {as : List α} {bs : List β} {i : Nat} {a : α} {b : β}, EachIs R as bs → as[i]? = some a → bs[i]? = some b → R a b
  | _, _, _, _, _, .nil, h, _ => by simp at h
  | _, _, 0, _, _, .cons r t, h1, h2 => by simp at h1 h2; subst h1 h2; exact r
  | _, _, i + 1, _, _, .cons r t, h1, h2 => each_get (i := i) t (by simpa using h1) (by simpa using h2)
theorem each_left {α β : Type} {R : α → β → Prop} : ∀ {as : List α} {bs : List β} {a : α}, EachIs R as bs → a ∈ as → ∃ (i : Nat) (b : β), as[i]? = some a ∧ bs[i]? = some b ∧ R a b
  | _, _, _, .nil, h => by cases h
  | _, _, _, .cons (b := b) r t, h => by
    rcases List.mem_cons.mp h with z | z
    · subst z; exact ⟨0, b, rfl, rfl, r⟩
    · obtain ⟨i, b', h1, h2, h3⟩ := each_left t z
      exact ⟨i + 1, b', by simpa using h1, by simpa using h2, h3⟩
open Classical in
noncomputable def twoKey (h : Heap) (us : List Value) (v : Value) : Option Toks := if q : ∃ p, v ∈ us ∧ TwoOf h v p then some (keyToks (rcP q.choose)) else none
theorem twoKey_some {h : Heap} {us : List Value} {v : Value} {p : List Str × Str} (hv : v ∈ us) (t : TwoOf h v p) : twoKey h us v = some (keyToks (rcP p)) := by
  have q : ∃ p, v ∈ us ∧ TwoOf h v p := ⟨p, hv, t⟩
  unfold twoKey
  rw [dif_pos q, q.choose_spec.2.one t]
theorem twoKey_inv {h : Heap} {us : List Value} {v : Value} {k : Toks} (e : twoKey h us v = some k) : ∃ p, v ∈ us ∧ TwoOf h v p ∧ k = keyToks (rcP p) := by
  unfold twoKey at e
  by_cases q : ∃ p, v ∈ us ∧ TwoOf h v p
  · rw [dif_pos q] at e
    exact ⟨_, q.choose_spec.1, q.choose_spec.2, (Option.some.inj e).symm⟩
  · rw [dif_neg q] at e; cases e
theorem each_mem' {α β : Type} {R : α → β → Prop} {l : List α} : ∀ {as : List α} {bs : List β}, EachIs R as bs → (∀ a ∈ as, a ∈ l) → EachIs (fun a b => a ∈ l ∧ R a b) as bs
  | _, _, .nil, _ => .nil
  | _, _, .cons r t, h => .cons ⟨h _ (.head _), r⟩ (each_mem' t fun a ha => h a (.tail _ ha))
theorem each_two {s : Shared} {us : List Value} : ∀ {vs : List Value} {ps : List (List Str × Str)}, EachIs (fun a b => a ∈ us ∧ TwoOf s.heap a b) vs ps → EachIs (fun v d => twoKey s.heap us v = some (keyToks d)) vs (ps.map rcP)
  | _, _, .nil => .nil
  | _, _, .cons r t => .cons (twoKey_some r.1 r.2) (each_two t)
theorem SA.recs {us : List Value} {ps : List (List Str × Str)} (e : EachIs (TwoOf s.heap) us ps) (hn : ps.Nodup) (hu : A.units + 70 < cLine) (P : Program) (w : World) : SA P w A s us (ps.map rcP) := by
  refine ⟨twoKey s.heap us, ⟨fun v hv => ?_, tuples' false, ?_, fun h2 E Q hq => ?_⟩, each_two (each_mem' e fun a h => h)⟩
  · obtain ⟨i, p, h1, h2, h3⟩ := each_left e hv
    exact ⟨_, twoKey_some hv h3⟩
  · intro E x y a b Q ha hb hq
    obtain ⟨p, hx, tx, rfl⟩ := twoKey_inv (show twoKey s.heap us x = some a from ha)
    obtain ⟨q, hy, ty, rfl⟩ := twoKey_inv (show twoKey s.heap us y = some b from hb)
    have hxy : p = q → x = y := fun z => by
      subst z
      obtain ⟨i, p', i1, i2, i3⟩ := each_left e hx
      obtain ⟨j, q', j1, j2, j3⟩ := each_left e hy
      rw [i3.one tx] at i2
      rw [j3.one ty] at j2
      have hij : i = j := (List.getElem?_inj (List.getElem?_eq_some_iff.mp i2).1 hn).mp (i2.trans j2.symm)
      subst hij
      rw [i1] at j1
      exact Option.some.inj j1
    have hq' : Q (dataLt (rcP p) (rcP q)) s := hq
    by_cases hpq : p = q
    · have hxy' := hxy hpq
      subst hxy' hpq
      obtain ⟨a1, o, xs, n, x1, y1, r, as, bs, rfl, g1, g2, g3, g4, g5, g6⟩ := tx
      refine PySem.W.kat_lt g1 g3 g1 g3 (katLex_self xs.toList 0 ?_)
      have z1 : dataLt (rcP p) (rcP p) = false := lex_irrefl _
      have z2 : decide (xs.size < xs.size) = false := decide_eq_false (Nat.lt_irrefl _)
      rw [z1] at hq'
      rw [z2]
      exact hq'
    · obtain ⟨a1, o, xs, n, x1, y1, r, as, bs, rfl, g1, g2, g3, g4, g5, g6⟩ := tx
      obtain ⟨a2, o', xs', n', x2, y2, r', as', bs', rfl, k1, k2, k3, k4, k5, k6⟩ := ty
      refine PySem.W.kat_lt g1 g3 k1 k3 ?_
      rw [g4, k4, List.zip_cons_cons, List.zip_cons_cons]
      have hd : ∀ c d : List Str, A.units + min (nmP c).depth (nmP d).depth < cLine := fun c d => by rw [depth_nm, depth_nm]; omega
      have hq2 : Q (PyProof.Rows.lexLt itemOrd (keyToksAll [nmP p.1, .str p.2]) (keyToksAll [nmP q.1, .str q.2])) s := by
        have z : dataLt (rcP p) (rcP q) = _ := PySem.W.dataLt_tuple _ _
        rw [z] at hq'
        exact hq'
      refine PySem.W.kat_cons (PySem.W.eqAt_alike _ _ A s _ _ _ _ g5 k5 (alike_nm _ _) (hd _ _) P w _ _ ?_)
      cases hv : PyData.eqv (nmP p.1) (nmP q.1) with
      | true =>
        rw [PySem.W.dataLt_all_yes (alike_nm _ _) hv] at hq2
        refine PySem.W.kat_yes (PySem.W.kat_cons (PySem.W.eqAt_alike _ _ A s _ _ _ _ g6 k6 (by simp [alike]) (by simp [PyData.depth]; omega) P w _ _ ?_))
        cases hw : PyData.eqv (.str p.2) (.str q.2) with
        | true =>
          refine absurd (Prod.ext ?_ ?_) hpq
          · have := (eqd_iff (.tup (p.1.map .str)) (.tup (q.1.map .str)))
            have z1 : PyData.eqvAll (p.1.map PyData.str) (q.1.map PyData.str) = true := by
              unfold nmP at hv
              simpa only [PyData.eqv] using hv
            have : ∀ a b : List Str, PyData.eqvAll (a.map PyData.str) (b.map PyData.str) = true → a = b := by
              intro a
              induction a with
              | nil => intro b h; cases b with
                | nil => rfl
                | cons _ _ => simp [PyData.eqvAll] at h
              | cons x a ih => intro b h; cases b with
                | nil => simp [PyData.eqvAll] at h
                | cons y b =>
                  simp only [List.map_cons, PyData.eqvAll, Bool.and_eq_true, PyData.eqv, beq_iff_eq] at h
                  rw [h.1, ih b h.2]
            exact this _ _ z1
          · simpa only [PyData.eqv, beq_iff_eq] using hw
        | false =>
          rw [PySem.W.dataLt_all_no (by simp [alike]) hw] at hq2
          exact PySem.W.kat_no (PySem.W.oneLt_alike (fun hbi t => by simp at hbi) g6 k6 (by simp [alike]) (by simp) (by simp [PyData.depth]; omega) hq2)
      | false =>
        rw [PySem.W.dataLt_all_no (alike_nm _ _) hv] at hq2
        exact PySem.W.kat_no (PySem.W.oneLt_alike (fun hbi t => by simp at hbi) g5 k5 (alike_nm _ _) (by simp [nmP]) (hd _ _) hq2)
  · have : ∀ {us : List Value} {ps : List (List Str × Str)}, EachIs (TwoOf s.heap) us ps → ∃ fs, PySem.W.KatTups s.heap us fs ∧ fs.length = us.length ∧ ∀ f ∈ fs, ∃ n as, Reads s.heap f (nmP n) as := by
      intro us ps e
      induction e with
      | nil => exact ⟨[], PySem.W.KatTups.nil, rfl, fun f hf => nomatch hf⟩
      | cons r t ih =>
        obtain ⟨fs, t1, t2, t3⟩ := ih
        obtain ⟨a1, o, xs, n, x1, y1, r, as, bs, rfl, g1, g2, g3, g4, g5, g6⟩ := r
        refine ⟨x1 :: fs, PySem.W.KatTups.cons g1 g2 g3 ?_ t1, by rw [List.length_cons, List.length_cons, t2], fun f hf => ?_⟩
        · rw [← Array.getElem?_toList, g4]; rfl
        · rcases List.mem_cons.mp hf with z | z
          · subst z; exact ⟨_, _, g5⟩
          · exact t3 f z
    obtain ⟨fs, t1, t2, t3⟩ := this e
    refine PySem.W.kat_kind (T := Value.type "tuple") t1 (by omega) (fun f hf => ?_) (beq_self_eq_true _) (by simpa using hq)
    obtain ⟨n, as, r⟩ := t3 f hf
    exact PySem.W.looks_reads r
end
end Rw
namespace Rw
open PySem PySem.Spec PyProof.Rows L2
open PySem.W (SortsAt dataLe dataLt keyToks keyToksAll EachIs dataKind alike alikeAll AllAlike Sortable)

/-! ### sorted(.., key=f) -/
theorem RepL.pairs {P : Program} {w : World} {K : PySem.W.Frag} {H : Hp} : ∀ {l : List (V × Dt)}, (∀ p ∈ l, Rep P w K H p.1 p.2) → RepL P w K H (l.map (·.1)) (l.map (·.2))
  | [], _ => .nil
  | p :: l, h => .cons (h p (.head _)) (RepL.pairs fun q hq => h q (.tail _ hq))
theorem RepL.zip_mem {P : Program} {w : World} {K : PySem.W.Frag} {H : Hp} : ∀ {xs : List V} {ds : List Dt}, RepL P w K H xs ds → ∀ p ∈ xs.zip ds, Rep P w K H p.1 p.2
  | _, _, .nil, p, h => by cases h
  | _, _, .cons r t, p, h => by
    rcases List.mem_cons.mp h with z | z
    · subst z; exact r
    · exact RepL.zip_mem t p z
theorem zip_fst : ∀ {α β : Type} {xs : List α} {ds : List β}, xs.length = ds.length → (xs.zip ds).map (·.1) = xs
  | _, _, [], [], _ => rfl
  | _, _, x :: xs, d :: ds, h => by rw [List.zip_cons_cons, List.map_cons, zip_fst (by simpa using h)]
  | _, _, [], _ :: _, h => by cases h
  | _, _, _ :: _, [], h => by cases h
theorem zip_snd : ∀ {α β : Type} {xs : List α} {ds : List β}, xs.length = ds.length → (xs.zip ds).map (·.2) = ds
  | _, _, [], [], _ => rfl
  | _, _, x :: xs, d :: ds, h => by rw [List.zip_cons_cons, List.map_cons, zip_snd (by simpa using h)]
  | _, _, [], _ :: _, h => by cases h
  | _, _, _ :: _, [], h => by cases h
theorem RepL.sorted {P : Program} {w : World} {K : PySem.W.Frag} {H : Hp} {xs : List V} {ds : List Dt} (r : RepL P w K H xs ds) (kz : Dt → PyData) : RepL P w K H (sortV xs (ds.map kz)) (ds.mergeSort (dataLe false kz)) := by
  have hl := r.length
  have e1 : xs.zip (ds.map kz) = (xs.zip ds).map fun p => (p.1, kz p.2) := by
    rw [List.zip_map_right]
    rfl
  have e2 : sortV xs (ds.map kz) = ((xs.zip ds).mergeSort (dataLe false fun p : V × Dt => kz p.2)).map (·.1) := by
    unfold sortV
    have z : (((xs.zip ds).mergeSort (dataLe false fun p : V × Dt => kz p.2)).map fun p => (p.1, kz p.2)) = ((xs.zip ds).map fun p => (p.1, kz p.2)).mergeSort (dataLe false fun p : V × PyData => p.2) := List.map_mergeSort fun a _ b _ => rfl
    rw [e1, ← z, List.map_map]
    rfl
  have e3 : ds.mergeSort (dataLe false kz) = ((xs.zip ds).mergeSort (dataLe false fun p : V × Dt => kz p.2)).map (·.2) := by
    have z : (((xs.zip ds).mergeSort (dataLe false fun p : V × Dt => kz p.2)).map (·.2)) = ((xs.zip ds).map (·.2)).mergeSort (dataLe false kz) := List.map_mergeSort fun a _ b _ => rfl
    rw [z, zip_snd hl]
  rw [e2, e3]
  exact RepL.pairs fun p hp => r.zip_mem p ((List.mergeSort_perm _ _).mem_iff.mp hp)
/-- that the keys of ds can be sorted -/
def SAK (X : Cx) (ds : List Dt) (key : Dt → Dt) (kz : Dt → PyData) : Prop := ∀ pins σ Hd H s A ks us, Inv X pins σ H s → Sub Hd H → XRepL X Hd ks (ds.map key) → Vals ks us → A.units + 70 < cLine → SA X.prog X.w A s us (ds.map kz)
def Turns (X : Cx) (fa : Addr) (vs : List V) (J : Nat → Hp → List V → Prop) : Prop := ∀ σ i H' ks x, J i H' ks → vs[i]? = some x → ∀ pins' s' u, RelV x u → Inv X pins' σ H' s' → wpAny (model X.prog X.w) X.A.in1.in1 (call (.ref fa) [u]) (EP X pins' σ fun k H'' => J (i + 1) H'' (ks ++ [k])) (fun _ _ => False) s'
def Sas (X : Cx) (n : Nat) (kz : List PyData) (J : Nat → Hp → List V → Prop) : Prop := ∀ σ H' ks, J n H' ks → ∀ pins' s' us, Inv X pins' σ H' s' → Vals ks us → SA X.prog X.w X.A.in1.in1 s' us kz
def rSortK (X : Cx) : List V → List V → Hp → VK → Prop := fun xs zs H Q => ∃ l fa vs kz J, xs = [.ref l] ∧ zs = [.ref fa] ∧ SqL X.K H l vs ∧ J 0 H [] ∧ kz.length = vs.length ∧ Turns X fa vs J ∧ Sas X vs.length kz J ∧
  ∀ H' ks p, J vs.length H' ks → H' p = none → Q (.ref p) (upd H' p (.lst (sortV vs kz)))
def rSortKD (X : Cx) : List V → List V → Hp → VK → Prop := fun xs zs H Q => ∃ l fa dx kz J, xs = [.ref l] ∧ zs = [.ref fa] ∧ DXat X.prog X.w l dx H ∧ J 0 H [] ∧ kz.length = dx.1.length ∧ Turns X fa (dx.1.map fun p => V.ref p.2.1) J ∧ Sas X dx.1.length kz J ∧
  ∀ H' ks p, J dx.1.length H' ks → H' p = none → Q (.ref p) (upd H' p (.lst (sortV (dx.1.map fun p => V.ref p.2.1) kz)))
section
variable {X : Cx} {ρ ρ' ρ1 ρ2 ρ3 : List En} {d : Dt} {e : Expr} {pos p p2 kp : Pos} {ds : List Dt} {k : Nat} {f : Str} {rel : List Dt → Dt → Prop}
theorem cr_sortK : CallRK X (.builtin "sorted") [Str.ofString "key"] (rSortK X) := by
  intro pins s σ H xs zs us ws Q I r rz h
  obtain ⟨l, fa, vs, kz, J, rfl, rfl, hl, j0, hk, ht, hs, q⟩ := h
  rw [Vals.ref1 r, Vals.ref1 rz]
  exact sortK_run I hl J j0 hk (ht σ) (hs σ) q
theorem cr_sortKD (hc : X.calm = true) : CallRK X (.builtin "sorted") [Str.ofString "key"] (rSortKD X) := by
  intro pins s σ H xs zs us ws Q I r rz h
  obtain ⟨l, fa, dx, kz, J, rfl, rfl, hl, j0, hk, ht, hs, q⟩ := h
  rw [Vals.ref1 r, Vals.ref1 rz]
  exact sortKD_run hc I hl J j0 hk (ht σ) (hs σ) q
/-- while the keys are asked for -/
def JS (X : Cx) (Hd H : Hp) (ds : List Dt) (key : Dt → Dt) (i : Nat) (H' : Hp) (ks : List V) : Prop := ∃ Hd', Ex H H' ∧ Ex Hd Hd' ∧ Sub Hd' H' ∧ (∀ a, H a ≠ none → Hd a = none → Hd' a = none) ∧ XRepL X Hd' ks ((ds.map key).take i)
theorem turns_of {Hd H : Hp} {vs : List V} {key : Dt → Dt} {fa : Addr} {fd : FuncData} {ps : List Str} (F : FnOk X.prog X.w X.K X.mg X.base CX0 k fa fd ps (spD X.prog X.w X.K 1 rel)) (hb : Binds X.K fd ps []) (hr : Room (k + 2) X.A) (r : XRepL X Hd vs ds) (hrel : ∀ d ∈ ds, rel [d] (key d)) : Turns X fa vs (JS X Hd H ds key) := by
  intro σ i H' ks x hJ hx pins' s' u ru I
  obtain ⟨Hd', e1, e2, sb, sp, rk⟩ := hJ
  obtain ⟨d, hd, rd⟩ := r.getV hx
  refine call_in2 F hr hb I (.cons ru .nil) ⟨Hd', [d], key d, sb, .cons (rd.mono e2) .nil, rfl, hrel d (List.mem_of_getElem? hd), fun v H2 Hd2 eH eHd sb2 sp2 rv => ?_⟩
  refine ⟨Hd2, e1.trans eH, e2.trans eHd, sb2, fun a h1 h2 => sp2 a (fun z => h1 (e1.back z)) (sp a h1 h2), ?_⟩
  have et : (ds.map key).take (i + 1) = (ds.map key).take i ++ [key d] := by
    rw [List.take_add_one, List.getElem?_map, hd]; rfl
  rw [et]
  exact (rk.mono eHd).append (.cons rv .nil)
theorem sas_of {Hd H : Hp} {key : Dt → Dt} {kz : Dt → PyData} {n : Nat} (hn : n = ds.length) (hs : SAK X ds key kz) (hr : Room (k + 2) X.A) : Sas X n (ds.map kz) (JS X Hd H ds key) := by
  intro σ H' ks hJ pins' s' us I rv
  obtain ⟨Hd', e1, e2, sb, sp, rk⟩ := hJ
  rw [hn, List.take_of_length_le (by rw [List.length_map]; exact Nat.le_refl _)] at rk
  exact hs pins' σ Hd' H' s' X.A.in1.in1 ks us I sb rk rv (by have := hr.in1.in1.un; omega)
theorem EV.sortK (D : XDef X f k 1 (spD X.prog X.w X.K 1 rel)) (hr : Room (k + 2) X.A) (hm : X.mg "sorted" = none) (ha : EV X e ρ (.lst ds) ρ1) (key : Dt → Dt) (hrel : ∀ d ∈ ds, rel [d] (key d)) (kz : Dt → PyData) (hs : SAK X ds key kz)
    (hg : Gl X "sorted" := by rfl) (hg2 : Gl X f := by rfl) (hdb : (f == ("__debug__" : Str)) = false := by decide) (hst : starEach [e] X.env = (false, eval e X.env) :: starEach [] X.env := by rfl)
    (he : backTo pos (starEach (e :: []) X.env) = (false, eval e X.env) :: backTo pos (starEach [] X.env) := by rfl) (hpl : (backTo pos (starEach (e :: []) X.env)).any (·.1) = false := by rfl)
    (hall : (backToKw pos (keywordEach [⟨some "key", .Name f p2, kp⟩] X.env)).all (·.1.isSome) = true := by rfl) (hnone : (backToKw pos (keywordEach [⟨some "key", .Name f p2, kp⟩] X.env)).any (·.1.isNone) = false := by rfl) (hks : (backToKw pos (keywordEach [⟨some "key", .Name f p2, kp⟩] X.env)).filterMap (·.1) = [Str.ofString "key"] := by rfl) :
    EV X (.Call (.Name "sorted" p) [e] [⟨some "key", .Name f p2, kp⟩] pos) ρ (.lst (ds.mergeSort (dataLe false kz))) ρ1 := by
  obtain ⟨fa, fd, ps, hl, hmf, hk, hb, F⟩ := D.ex
  refine .of (pe_callBK cr_sortK hg hm (by decide +kernel) (pa_cons pe_c pa_nil hst) (pk_cons (pe_glob (v := .ref fa) hg2 hmf rfl hdb) pk_nil) (by decide) (by decide) he hpl hall hnone hks) fun pp F' G Hd H σ Q er kk => ha pp F' G Hd H σ _ er fun v Hd1 H1 e1 er1 r1 => ?_
  cases r1 with
  | @lst l vs _ h0 l0 =>
    refine ⟨l, fa, vs, ds.map kz, JS X Hd1 H1 ds key, rfl, rfl, .of (er1.sb.exact h0 rfl), ⟨Hd1, Ex.refl _, Ex.refl _, er1.sb, fun a _ h => h, by rw [List.take_zero]; exact .nil⟩, by rw [List.length_map, l0.length], turns_of F hb hr l0 hrel, sas_of l0.length hs hr, fun H' ks p' hJ hp => ?_⟩
    obtain ⟨Hd', e2, e3, sb, sp, _⟩ := hJ
    have er2 := er1.called e2 e3 sb sp
    exact (kk.up (e1.trans e3)).new er2 hp (.lst upd_same (((l0.mono e3).sorted kz).mono (Ex.new (er2.fresh hp))))
/-- of a dict -/
theorem EV.sortKD {kvs : List (NestedKey × Dt)} (hc : X.calm = true) (D : XDef X f k 1 (spD X.prog X.w X.K 1 rel)) (hr : Room (k + 2) X.A) (hm : X.mg "sorted" = none) (ha : EV X e ρ (.dic kvs) ρ1) (hds : kvs.map (fun q => nkD q.1) = ds) (key : Dt → Dt) (hrel : ∀ d ∈ ds, rel [d] (key d)) (kz : Dt → PyData) (hs : SAK X ds key kz)
    (hg : Gl X "sorted" := by rfl) (hg2 : Gl X f := by rfl) (hdb : (f == ("__debug__" : Str)) = false := by decide) (hst : starEach [e] X.env = (false, eval e X.env) :: starEach [] X.env := by rfl)
    (he : backTo pos (starEach (e :: []) X.env) = (false, eval e X.env) :: backTo pos (starEach [] X.env) := by rfl) (hpl : (backTo pos (starEach (e :: []) X.env)).any (·.1) = false := by rfl)
    (hall : (backToKw pos (keywordEach [⟨some "key", .Name f p2, kp⟩] X.env)).all (·.1.isSome) = true := by rfl) (hnone : (backToKw pos (keywordEach [⟨some "key", .Name f p2, kp⟩] X.env)).any (·.1.isNone) = false := by rfl) (hks : (backToKw pos (keywordEach [⟨some "key", .Name f p2, kp⟩] X.env)).filterMap (·.1) = [Str.ofString "key"] := by rfl) :
    EV X (.Call (.Name "sorted" p) [e] [⟨some "key", .Name f p2, kp⟩] pos) ρ (.lst (ds.mergeSort (dataLe false kz))) ρ1 := by
  obtain ⟨fa, fd, ps, hl, hmf, hk, hb, F⟩ := D.ex
  refine .of (pe_callBK (cr_sortKD hc) hg hm (by decide +kernel) (pa_cons pe_c pa_nil hst) (pk_cons (pe_glob (v := .ref fa) hg2 hmf rfl hdb) pk_nil) (by decide) (by decide) he hpl hall hnone hks) fun pp F' G Hd H σ Q er kk => ha pp F' G Hd H σ _ er fun v Hd1 H1 e1 er1 r1 => ?_
  cases r1 with
  | @dic l xs _ h0 l0 =>
    have keysR : ∀ {xs : List (NestedKey × Addr × V)} {kvs : List (NestedKey × Dt)}, RepD X.prog X.w X.K Hd1 xs kvs → XRepL X Hd1 (xs.map fun p => V.ref p.2.1) (kvs.map fun q => nkD q.1) := by
      intro xs kvs r
      induction kvs generalizing xs with
      | nil => cases r; exact .nil
      | cons q kvs ih => cases r with
        | cons h1 h2 h3 h4 => exact .cons h1 (ih h4)
    have r0 := keysR l0
    rw [hds] at r0
    have hlen : xs.1.length = ds.length := by rw [← hds, List.length_map]; exact l0.length
    refine ⟨l, fa, xs, ds.map kz, JS X Hd1 H1 ds key, rfl, rfl, er1.sb.rd h0, ⟨Hd1, Ex.refl _, Ex.refl _, er1.sb, fun a _ h => h, by rw [List.take_zero]; exact .nil⟩, by rw [List.length_map, hlen], turns_of F hb hr r0 hrel, sas_of hlen hs hr, fun H' ks p' hJ hp => ?_⟩
    obtain ⟨Hd', e2, e3, sb, sp, _⟩ := hJ
    have er2 := er1.called e2 e3 sb sp
    exact (kk.up (e1.trans e3)).new er2 hp (.lst upd_same (((r0.mono e3).sorted kz).mono (Ex.new (er2.fresh hp))))
end

/-! ### keys that can be sorted -/
theorem SAK.data {X : Cx} {ds : List Dt} {key : Dt → Dt} (hp : plains (ds.map key) = true) (hal : AllAlike (pys (ds.map key))) (hs : Sortable (pys (ds.map key))) (hd : deps (ds.map key) ≤ 64) : SAK X ds key (fun d => py (key d)) := by
  intro pins σ Hd H s A ks us I sb r rv hu
  have z := SA.data (A := A) I sb r rv hp hal hs hd hu
  rw [pys_map, List.map_map] at z
  exact z
/-- what a key that is a tuple of four items tells by its first two -/
theorem SAK.recs {X : Cx} {ds : List Dt} {key : Dt → Dt} (nm : Dt → List Str × Str) (hk : ∀ d ∈ ds, ∃ r, key d = .tup (.tup ((nm d).1.map .str) :: .str (nm d).2 :: r) ∧ plains ((nm d).1.map .str) = true) (hn : (ds.map nm).Nodup) : SAK X ds key (fun d => rcP (nm d)) := by
  intro pins σ Hd H s A ks us I sb r rv hu
  have e : ∀ {ds : List Dt} {ks : List V} {us : List Value}, (∀ d ∈ ds, ∃ r, key d = .tup (.tup ((nm d).1.map .str) :: .str (nm d).2 :: r) ∧ plains ((nm d).1.map .str) = true) → XRepL X Hd ks (ds.map key) → Vals ks us → EachIs (TwoOf s.heap) us (ds.map nm) := by
    intro ds
    induction ds with
    | nil => intro ks us _ r rv; cases r; cases rv; exact .nil
    | cons d ds ih =>
      intro ks us hk r rv
      cases r with
      | cons r t =>
        cases rv with
        | cons rv tv =>
          refine .cons ?_ (ih (fun d h => hk d (.tail _ h)) t tv)
          obtain ⟨r0, e0, hp⟩ := hk d (.head _)
          rw [e0] at r
          cases r with
          | @tup a vs _ h l =>
            cases rv
            obtain ⟨its, rl, ⟨o, ho, hc, n, hd⟩, _⟩ := I.tuple (sb.sqt h)
            cases l with
            | cons l1 l2 =>
              cases l2 with
              | cons l2 l3 =>
                cases rl with
                | cons q1 q2 =>
                  cases q2 with
                  | cons q2 q3 =>
                    obtain ⟨as, ra⟩ := Dp.reads I _ _ _ (l1.dp sb (show plain (.tup _) = true from hp)) q1
                    rw [py_nm] at ra
                    cases l2
                    obtain ⟨bs, rb⟩ := Dp.reads I (.str (nm d).2) (.str (nm d).2) _ (.str _) q2
                    exact ⟨a, o, _, n, _, _, _, as, bs, rfl, ho, hc, hd, rfl, ra, rb⟩
  have z := SA.recs (A := A) (e hk r rv) hn hu X.prog X.w
  rw [List.map_map] at z
  exact z
theorem SAK.names {X : Cx} {ns : List (List Str)} {ds : List Dt} {key : Dt → Dt} (kz : Dt → PyData) (h1 : ds.map key = ([] :: ns).map fun n => .tup (n.map .str)) (h2 : ds.map kz = ([] :: ns).map nmP) (hp : plains ((([] : List Str) :: ns).map fun n => Dt.tup (n.map .str)) = true) : SAK X ds key kz := by
  intro pins σ Hd H s A ks us I sb r rv hu
  rw [h1] at r
  rw [h2]
  exact SA.names I sb r rv hp hu
end Rw
namespace Rw
open PySem PySem.Spec PyProof.Rows L2

/-! ### comprehensions without effects -/
/-- the same but at vs -/
def Agree (vs : List Nat) (ρ ρ2 : List En) : Prop := ρ2.length = ρ.length ∧ ∀ k, k ∉ vs → ρ2[k]? = ρ[k]?
theorem Agree.wiped {vs : List Nat} {ρ : List En} : Agree vs ρ (wipeE ρ vs) := ⟨wipeE_length _ _, fun k h => wipeE_out h⟩
theorem Agree.set {vs : List Nat} {ρ ρ2 : List En} {i : Nat} {e : En} (a : Agree vs ρ ρ2) (h : i ∈ vs) : Agree vs ρ (ρ2.set i e) := ⟨by rw [List.length_set]; exact a.1, fun k hk => by
  rw [List.getElem?_set_ne (fun z => hk (by rw [← z]; exact h))]
  exact a.2 k hk⟩
theorem Agree.trans {vs : List Nat} {ρ ρ1 ρ2 : List En} (a : Agree vs ρ ρ1) (b : Agree vs ρ1 ρ2) : Agree vs ρ ρ2 := ⟨b.1.trans a.1, fun k h => (b.2 k h).trans (a.2 k h)⟩
def NoOwnAt (vs : List Nat) (ρ : List En) : Prop := ∀ v ∈ vs, ∀ e, ρ[v]? = some e → isOwn e = false
def noOwnB (vs : List Nat) (ρ : List En) : Bool := vs.all fun v => match ρ[v]? with
  | some e => !isOwn e
  | none => true
theorem noOwn_by {vs : List Nat} {ρ : List En} (h : noOwnB vs ρ = true) : NoOwnAt vs ρ := fun v hv e he => by
  have := List.all_eq_true.mp h v hv
  rw [he] at this
  simpa using this
theorem Agree.bk {vs : List Nat} {ρ ρ2 : List En} (a : Agree vs ρ ρ2) (h : NoOwnAt vs ρ) : Bk vs ρ ρ2 ρ := ⟨rfl, a.1, fun k e hk => by
  by_cases hv : k ∈ vs
  · exact .inl ⟨hv, hk, h k hv e hk⟩
  · exact .inr ⟨hv, by rw [a.2 k hv]; exact hk⟩⟩
section
variable {X : Cx} {ρ ρ' ρ1 ρ2 ρ3 : List En} {d : Dt} {ds items out : List Dt} {elt tg iter : Expr} {ifs : List Expr} {p pos spos : Pos} {js : List Nat} {scope : Scope} {own : List (Str × Nat)}
/-- one turn without effects -/
def PureTurn (X : Cx) (scope : Scope) (tg elt : Expr) (ifs : List Expr) (vs js : List Nat) (ρ : List En) (g : Dt → Option Dt) (d : Dt) : Prop :=
  ∃ ρ2, AllB X scope (fun Y => BT Y tg js d (wipeE ρ vs) ρ2) ∧ Agree vs ρ ρ2 ∧ ∃ b, AllB X scope (fun Y => ETs Y ifs ρ2 b ρ2) ∧ (b = false → g d = none) ∧ (b = true → ∃ y, g d = some y ∧ AllB X scope (fun Y => EV Y elt ρ2 y ρ2))
theorem lc_turns {vs : List Nat} {g : Dt → Option Dt} (ho : NoOwnAt vs ρ) (hs : ∀ d ∈ items, PureTurn X scope tg elt ifs vs js ρ g d) : ∀ i acc d ρ', items[i]? = some d → acc.length ≤ i → (acc = (items.take i).filterMap g ∧ ρ' = ρ) →
    LcTurn X scope tg elt ifs vs js (fun acc ρ' => acc = (items.take (i + 1)).filterMap g ∧ ρ' = ρ) acc d ρ' := by
  rintro i acc d ρ' hi hl ⟨rfl, rfl⟩
  have et : items.take (i + 1) = items.take i ++ [d] := by rw [List.take_add_one, hi]; rfl
  obtain ⟨ρ2, hb, ag, b, ht, h1, h2⟩ := hs d (List.mem_of_getElem? hi)
  refine ⟨ρ2, hb, b, ρ2, ht, fun e => ?_, fun e => ?_⟩
  · obtain ⟨y, hy, hev⟩ := h2 e
    refine ⟨y, ρ2, ρ', hev, ag.bk ho, ?_, rfl⟩
    rw [et, List.filterMap_append, List.filterMap_cons, hy]
    rfl
  · refine ⟨ρ', ag.bk ho, ?_, rfl⟩
    rw [et, List.filterMap_append, List.filterMap_cons, h1 e, List.filterMap_nil, List.append_nil]
theorem EV.lcF (own : List (Str × Nat)) (js : List Nat) (g : Dt → Option Dt) (hc : X.calm = true) (hN : X.N.Nodup) (hi : EI X tg iter ρ items ρ1) (hz : items.length < sizeLine)
    (hs : ∀ d ∈ items, PureTurn X scope tg elt ifs (own.map (·.2)) js ρ1 g d) (ok : BlkOk X.N X.env.scope scope own := by exact blkOk_by (by rfl)) (ho : NoOwnAt (own.map (·.2)) ρ1 := by exact noOwn_by (by rfl)) (hj : ∀ j ∈ js, j ∈ own.map (·.2) := by decide) (hv0 : 0 ∉ own.map (·.2) := by decide) (hf : ∀ x, foldedSetIterable iter X.env x = pure x := by intro _; rfl) : EV X (.ListComp elt [⟨tg, iter, ifs, 0⟩] scope pos) ρ (.lst (items.filterMap g)) ρ1 :=
  .lc hc hN ok hi (fun i acc ρ' => acc = (items.take i).filterMap g ∧ ρ' = ρ1) ⟨rfl, rfl⟩ hj hv0 hz (lc_turns ho hs) (fun acc ρ' h => by rw [List.take_length] at h; exact h) hf
theorem SD.lcF {P : Ou → Prop} {rest : List Stmt} {i : Nat} {y : Str} (own : List (Str × Nat)) (js : List Nat) (g : Dt → Option Dt) (hc : X.calm = true) (hN : X.N.Nodup) (hi : EI X tg iter ρ items ρ1) (hz : items.length < sizeLine)
    (hs : ∀ d ∈ items, PureTurn X scope tg elt ifs (own.map (·.2)) js ρ1 g d) (hk : SD X rest (ρ1.set i (.dat (.lst (items.filterMap g)))) P) (hsw : swapsWith (.ListComp elt [⟨tg, iter, ifs, 0⟩] scope pos) (some (.Name y p)) spos.line X.env = pure true := by rfl) (hy : X.N[i]? = some y := by rfl) (hy0 : i ≠ 0 := by decide) (hyl : X.env.scope.names.lookup y = some .local := by rfl)
    (ok : BlkOk X.N X.env.scope scope own := by exact blkOk_by (by rfl)) (ho : NoOwnAt (own.map (·.2)) ρ1 := by exact noOwn_by (by rfl)) (hj : ∀ j ∈ js, j ∈ own.map (·.2) := by decide) (hv0 : 0 ∉ own.map (·.2) := by decide) (hf : ∀ x, foldedSetIterable iter X.env x = pure x := by intro _; rfl) : SD X (.Assign [.Name y p] (.ListComp elt [⟨tg, iter, ifs, 0⟩] scope pos) spos :: rest) ρ P :=
  .lc hc hN ok hi (fun i acc ρ' => acc = (items.take i).filterMap g ∧ ρ' = ρ1) ⟨rfl, rfl⟩ hj hv0 hz (lc_turns ho hs) (fun acc ρ' h => by rw [List.take_length] at h; exact h) hk hsw hy hy0 hyl hf
/-- no condition -/
theorem PureTurn.map {vs : List Nat} {g : Dt → Option Dt} {y : Dt} (hb : AllB X scope (fun Y => BT Y tg js d (wipeE ρ vs) ρ2)) (ag : Agree vs ρ ρ2) (hy : g d = some y) (he : AllB X scope (fun Y => EV Y elt ρ2 y ρ2)) : PureTurn X scope tg elt [] vs js ρ g d :=
  ⟨ρ2, hb, ag, true, (fun _ _ _ _ _ => ⟨rfl, rfl⟩), (fun e => by cases e), fun _ => ⟨y, hy, he⟩⟩
/-- one condition -/
theorem PureTurn.if {c : Expr} {vs : List Nat} {g : Dt → Option Dt} {b : Bool} (hb : AllB X scope (fun Y => BT Y tg js d (wipeE ρ vs) ρ2)) (ag : Agree vs ρ ρ2) (ht : AllB X scope (fun Y => ET Y c ρ2 b ρ2)) (h0 : b = false → g d = none) (h1 : b = true → ∃ y, g d = some y ∧ AllB X scope (fun Y => EV Y elt ρ2 y ρ2)) : PureTurn X scope tg elt [c] vs js ρ g d :=
  ⟨ρ2, hb, ag, b, ht, h0, h1⟩
end
end Rw
namespace Rw
open PySem PySem.Spec PyProof.Rows L2
/-- the def of the statement s is told by the head -/
structure Fn (K : PySem.W.Frag) (mg : Str → Option Value) (f : Str) (s : Stmt) : Prop where
  ex : ∃ fa fd, mg f = some (.ref fa) ∧ Fun K f f s fa fd
/-- what is built in and not hidden -/
structure Bs (mg : Str → Option Value) : Prop where
  len : mg "len" = none
  range : mg "range" = none
  all : mg "all" = none
  any : mg "any" = none
  sum : mg "sum" = none
  abs : mg "abs" = none
  max : mg "max" = none
  min : mg "min" = none
  int : mg "int" = none
  str : mg "str" = none
  bool : mg "bool" = none
  tuple : mg "tuple" = none
  list : mg "list" = none
  dict : mg "dict" = none
  sorted : mg "sorted" = none
  isinstance : mg "isinstance" = none
section
variable {P : Program} {w : World} {K : PySem.W.Frag} {mg : Str → Option Value} {base : Heap} {k n : Nat}
theorem defOk {f : Str} {s : Stmt} {rel : List Dt → Dt → Prop} (N ps : List Str) (F : Fn K mg f s) (S : FnScope N ps (defScope s)) (hn : ps.length = n)
    (hb : ∀ kV doc pm an cdv ct us, us.length = ps.length → bindArgs (PySem.W.fnOf f f (defArgs s) (defBody s) (defScope s) .none kV doc pm an cdv ct) ⟨us, []⟩ = pure (ps.zip us))
    (h : ∀ fa cdv A outer s' H E, Room k (A.deeper (envOfC f (defScope s) s'.heap.objs.size fa cdv)) → ∀ ds d, ds.length = n → rel ds d → SD (cxOf CX0 P w K mg base N f (defScope s) fa cdv A outer s' H E).nox (defBody s) (ρ0 N ds) (Fin d)) :
    DefOk P w K mg base f (k + 1) n (spD P w K n rel) := by
  obtain ⟨fa, fd, hm, F⟩ := F.ex
  exact .mk' F S hm hn hb fun cdv A outer s' H E => h fa cdv A outer s' H E
theorem defOkP {f : Str} {s : Stmt} {rel : List Dt → List Dt → Dt → List Dt → Prop} (N ps : List Str) (F : Fn K mg f s) (S : FnScope N ps (defScope s)) (hn : ps.length = n + 1)
    (hb : ∀ kV doc pm an cdv ct us, us.length = ps.length → bindArgs (PySem.W.fnOf f f (defArgs s) (defBody s) (defScope s) .none kV doc pm an cdv ct) ⟨us, []⟩ = pure (ps.zip us))
    (h : ∀ fa cdv A outer s' H E, Room k (A.deeper (envOfC f (defScope s) s'.heap.objs.size fa cdv)) → ∀ pt ds d pt', ds.length = n → rel pt ds d pt' → SD (cxOf CX0 P w K mg base N f (defScope s) fa cdv A outer s' H E).nox (defBody s) (ρP N pt ds) (FinP d pt')) :
    DefOk P w K mg base f (k + 1) (n + 1) (spP P w K n rel) := by
  obtain ⟨fa, fd, hm, F⟩ := F.ex
  exact .mkP F S hm hn hb fun cdv A outer s' H E => h fa cdv A outer s' H E
end
end Rw
namespace Rw
open PySem PySem.Spec PyProof.Rows L2

/-! ### the defs' statements -/
abbrev s_is_label : Stmt := topS 17
abbrev s_is_name : Stmt := topS 18
abbrev s_is_asked : Stmt := topS 19
abbrev s_name_key : Stmt := topS 22
abbrev s_stands_under : Stmt := topS 23
abbrev s_size_of : Stmt := topS 25
structure GInt (mg : Str → Option Value) (x : Str) (i : Int) : Prop where
  ex : ∃ t, mg x = some (.int i t)
structure GStr (mg : Str → Option Value) (x : Str) (s : Str) : Prop where
  ex : ∃ t, mg x = some (.str s t)
section
variable {X : Cx} {ρ : List En} {pos : Pos} {x : Str}
theorem EV.gInt {i : Int} (h : GInt X.mg x i) (hg : Gl X x := by rfl) (hd : (x == ("__debug__" : Str)) = false := by decide) : EV X (.Name x pos) ρ (.int i) ρ := by
  obtain ⟨t, h⟩ := h.ex
  exact .glob h (v := .int i) ⟨t, rfl⟩ (fun _ => .int i) hg hd
theorem EV.gStr {s : Str} (h : GStr X.mg x s) (hg : Gl X x := by rfl) (hd : (x == ("__debug__" : Str)) = false := by decide) : EV X (.Name x pos) ρ (.str s) ρ := by
  obtain ⟨t, h⟩ := h.ex
  exact .glob h (v := .str s) ⟨t, rfl⟩ (fun _ => .str s) hg hd
section
variable {X : Cx} {ρ ρ1 : List En} {e : Expr} {p p2 pos : Pos} {ds : List Dt} {kvs : List (NestedKey × Dt)} {s : Str} {i : Int}
theorem EV.isStr (B : Bs X.mg) (h : EV X e ρ (.str s) ρ1) (hg : Gl X "isinstance" := by rfl) (hg2 : Gl X "str" := by rfl) (he : starEach (e :: [.Name "str" p2]) X.env = (false, eval e X.env) :: starEach [.Name "str" p2] X.env := by rfl)
    (he2 : starEach (.Name "str" p2 :: []) X.env = (false, eval (.Name "str" p2) X.env) :: starEach [] X.env := by rfl) (hpl : (backTo pos (starEach [.Name "str" p2] X.env)).any (·.1) = false := by rfl) :
    EV X (.Call (.Name "isinstance" p) [e, .Name "str" p2] [] pos) ρ (.bl true) ρ1 := .isi (T' := "str") B.isinstance B.str h (show kitB "str" "str" = some true by decide +kernel) rfl (by decide +kernel) hg hg2 (by decide) (by decide) he he2 hpl
theorem EV.isTup (B : Bs X.mg) (h : EV X e ρ (.tup ds) ρ1) (hg : Gl X "isinstance" := by rfl) (hg2 : Gl X "tuple" := by rfl) (he : starEach (e :: [.Name "tuple" p2]) X.env = (false, eval e X.env) :: starEach [.Name "tuple" p2] X.env := by rfl)
    (he2 : starEach (.Name "tuple" p2 :: []) X.env = (false, eval (.Name "tuple" p2) X.env) :: starEach [] X.env := by rfl) (hpl : (backTo pos (starEach [.Name "tuple" p2] X.env)).any (·.1) = false := by rfl) :
    EV X (.Call (.Name "isinstance" p) [e, .Name "tuple" p2] [] pos) ρ (.bl true) ρ1 := .isi (T' := "tuple") B.isinstance B.tuple h (show kitB "tuple" "tuple" = some true by decide +kernel) rfl (by decide +kernel) hg hg2 (by decide) (by decide) he he2 hpl
theorem EV.isInt (B : Bs X.mg) (h : EV X e ρ (.int i) ρ1) (hg : Gl X "isinstance" := by rfl) (hg2 : Gl X "int" := by rfl) (he : starEach (e :: [.Name "int" p2]) X.env = (false, eval e X.env) :: starEach [.Name "int" p2] X.env := by rfl)
    (he2 : starEach (.Name "int" p2 :: []) X.env = (false, eval (.Name "int" p2) X.env) :: starEach [] X.env := by rfl) (hpl : (backTo pos (starEach [.Name "int" p2] X.env)).any (·.1) = false := by rfl) :
    EV X (.Call (.Name "isinstance" p) [e, .Name "int" p2] [] pos) ρ (.bl true) ρ1 := .isi (T' := "int") B.isinstance B.int h (show kitB "int" "int" = some true by decide +kernel) rfl (by decide +kernel) hg hg2 (by decide) (by decide) he he2 hpl
theorem EV.noBool (B : Bs X.mg) (h : EV X e ρ (.int i) ρ1) (hg : Gl X "isinstance" := by rfl) (hg2 : Gl X "bool" := by rfl) (he : starEach (e :: [.Name "bool" p2]) X.env = (false, eval e X.env) :: starEach [.Name "bool" p2] X.env := by rfl)
    (he2 : starEach (.Name "bool" p2 :: []) X.env = (false, eval (.Name "bool" p2) X.env) :: starEach [] X.env := by rfl) (hpl : (backTo pos (starEach [.Name "bool" p2] X.env)).any (·.1) = false := by rfl) :
    EV X (.Call (.Name "isinstance" p) [e, .Name "bool" p2] [] pos) ρ (.bl false) ρ1 := .isi (T' := "bool") B.isinstance B.bool h (show kitB "int" "bool" = some false by decide +kernel) rfl (by decide +kernel) hg hg2 (by decide) (by decide) he he2 hpl
theorem EV.isDic (B : Bs X.mg) (h : EV X e ρ (.dic kvs) ρ1) (hg : Gl X "isinstance" := by rfl) (hg2 : Gl X "dict" := by rfl) (he : starEach (e :: [.Name "dict" p2]) X.env = (false, eval e X.env) :: starEach [.Name "dict" p2] X.env := by rfl)
    (he2 : starEach (.Name "dict" p2 :: []) X.env = (false, eval (.Name "dict" p2) X.env) :: starEach [] X.env := by rfl) (hpl : (backTo pos (starEach [.Name "dict" p2] X.env)).any (·.1) = false := by rfl) :
    EV X (.Call (.Name "isinstance" p) [e, .Name "dict" p2] [] pos) ρ (.bl true) ρ1 := .isi (T' := "dict") B.isinstance B.dict h (show kitB "dict" "dict" = some true by decide +kernel) rfl (by decide +kernel) hg hg2 (by decide) (by decide) he he2 hpl
theorem EV.isLst (B : Bs X.mg) (h : EV X e ρ (.lst ds) ρ1) (hg : Gl X "isinstance" := by rfl) (hg2 : Gl X "list" := by rfl) (he : starEach (e :: [.Name "list" p2]) X.env = (false, eval e X.env) :: starEach [.Name "list" p2] X.env := by rfl)
    (he2 : starEach (.Name "list" p2 :: []) X.env = (false, eval (.Name "list" p2) X.env) :: starEach [] X.env := by rfl) (hpl : (backTo pos (starEach [.Name "list" p2] X.env)).any (·.1) = false := by rfl) :
    EV X (.Call (.Name "isinstance" p) [e, .Name "list" p2] [] pos) ρ (.bl true) ρ1 := .isi (T' := "list") B.isinstance B.list h (show kitB "list" "list" = some true by decide +kernel) rfl (by decide +kernel) hg hg2 (by decide) (by decide) he he2 hpl
end
end

/-! ### labels, names -/
def SIGNS : Str := "-0123456789abcdefghijklmnopqrstuvwxyz"
structure OkL (s : Str) : Prop where
  lo : 1 ≤ s.length
  hi : s.length ≤ 20
  sg : ∀ c ∈ s.cps.toList, c ∈ SIGNS.cps.toList
  hd : s.cps.toList.head? ≠ some 45
  tl : s.cps.toList.getLast? ≠ some 45
abbrev Nm := List Str
def OkN (n : Nm) : Prop := ∀ l ∈ n, OkL l
def eN (n : Nm) : Dt := .tup (n.map .str)
theorem star_no : (42 : Nat) ∉ SIGNS.cps.toList := by decide +kernel
theorem sign_eq {c d : Nat} : (⟨#[c]⟩ : Str) = ⟨#[d]⟩ ↔ c = d := by
  constructor
  · intro h
    injection h with h
    simpa using h
  · rintro rfl; rfl
theorem OkL.star {s : Str} (h : OkL s) : s ≠ "*" := fun e => by
  subst e
  exact star_no (h.sg 42 (by decide +kernel))
theorem atI_nat {α : Type} {l : List α} {a : α} {n : Nat} (h : l[n]? = some a) : atI l (n : Int) = some a := by
  have hl := (List.getElem?_eq_some_iff.mp h).1
  unfold atI ixN
  rw [if_pos (Int.natCast_nonneg _), if_pos (by omega)]
  exact h
theorem atI_last {α : Type} {l : List α} {a : α} (h : l.getLast? = some a) : atI l (-1) = some a := by
  have hl : l ≠ [] := by rintro rfl; cases h
  have hp : 0 < l.length := List.length_pos_iff.mpr hl
  rw [List.getLast?_eq_getElem?] at h
  unfold atI ixN
  rw [if_neg (by decide), if_pos (by omega)]
  have e : ((-1 : Int) + l.length).toNat = l.length - 1 := by omega
  show l[((-1 : Int) + l.length).toNat]? = _
  rw [e]
  exact h
variable {P : Program} {w : World} {K : PySem.W.Frag} {mg : Str → Option Value} {base : Heap}
theorem sc_is_label : FnScope ["value", "sign"] ["value"] (defScope s_is_label) := ⟨rfl, rfl, rfl, by decide, rfl, by decide, by decide⟩
theorem is_label_ok (B : Bs mg) (hL : GInt mg "LONGEST" 20) (hS : GStr mg "SIGNS" SIGNS) (F : Fn K mg "is_label" s_is_label) : DefOk P w K mg base "is_label" 1 1 (spD P w K 1 fun ds d => ∃ s, ds = [.str s] ∧ OkL s ∧ d = .bl true) :=
  defOk ["value", "sign"] ["value"] F sc_is_label rfl (fun _ _ _ _ _ _ us h => by
    match us, h with
    | [_], _ => rfl) (by
    rintro fa cdv A outer s' H E hr ds d hl ⟨s, rfl, ok, rfl⟩
    have hz : s.length ≤ sizeLine := Nat.le_trans ok.hi (by decide)
    refine .skip (.w (.or (.not (.val (.isStr B (.var (i := 0) rfl)))) fun _ => .or1 (.not (.leLe .int (.lenS B.len (.var (i := 0) rfl) hz) (.gInt hL))))) ?_ ?_
    · have h1 := ok.lo
      have h2 := ok.hi
      simp
      omega
    refine .skip (.cmp (.eqS (.var (i := 0) rfl) .str)) (by simp [ok.star]) ?_
    obtain ⟨c, hc⟩ : ∃ c, s.cps.toList[0]? = some c := ⟨_, List.getElem?_eq_getElem (by rw [Array.length_toList]; exact ok.lo)⟩
    obtain ⟨c2, hc2⟩ : ∃ c, s.cps.toList.getLast? = some c := by
      cases q : s.cps.toList.getLast? with
      | some c => exact ⟨c, rfl⟩
      | none => rw [List.getLast?_eq_none_iff.mp q] at hc; cases hc
    have n1 : (⟨#[c]⟩ : Str) ≠ "-" := fun z => ok.hd (by rw [List.head?_eq_getElem?, hc, (sign_eq (d := 45)).mp z])
    have n2 : (⟨#[c2]⟩ : Str) ≠ "-" := fun z => ok.tl (by rw [hc2, (sign_eq (d := 45)).mp z])
    refine .ret (.and (.cmp (.neS (.ixS (.var (i := 0) rfl) .int hz (atI_nat (n := 0) hc)) .str)) fun _ => .and (.cmp (.neS (.ixS (.var (i := 0) rfl) (.neg .int) hz (atI_last hc2)) .str)) fun _ => .one (.all (bs := (signs s).filterMap fun _ => some true) rfl B.all ?_)) ?_
    · refine .is (.lcF [("sign", 1)] [1] (fun _ => some (.bl true)) rfl sc_is_label.nd (.str (.var (i := 0) rfl)) (by unfold signs; rw [List.length_map, Array.length_toList]; exact Nat.lt_of_le_of_lt ok.hi (by decide)) fun d hd => ?_) ?_
      · unfold signs at hd
        obtain ⟨c, hc, rfl⟩ := List.mem_map.mp hd
        exact .map (fun _ _ _ _ _ => .name sc_is_label.nd) (Agree.wiped.set (by decide)) rfl fun _ _ _ _ _ => .is (.cmp (.inSign (.var (i := 1) rfl) (.gStr hS))) (by simp [ok.sg c hc])
      · rw [List.map_filterMap]
        simp
    · show Dt.bl _ = Dt.bl _
      simp [n1, n2])
theorem OkL.str {s : Str} (h : OkL s) : nobl (.str s) = true := by
  show s.cps.all (· < 0x110000) = true
  rw [← Array.all_toList, List.all_eq_true]
  intro c hc
  have h1 := h.sg c hc
  have h2 : ∀ c ∈ SIGNS.cps.toList, decide (c < 0x110000) = true := by decide +kernel
  exact h2 c h1
theorem nobl_eN {n : Nm} (h : OkN n) : nobl (eN n) = true := by
  show nobls _ = true
  rw [nobls_all, List.all_map, List.all_eq_true]
  intro l hl
  exact (h l hl).str
theorem deps_strs : ∀ n : Nm, deps (n.map .str) = 0
  | [] => rfl
  | x :: n => by show max (dep (.str x)) (deps (n.map .str)) = 0; rw [deps_strs n]; rfl
theorem dep_eN (n : Nm) : dep (eN n) = 1 := by show deps _ + 1 = 1; rw [deps_strs]
theorem eN_inj : ∀ {a b : Nm}, eN a = eN b → a = b := by
  intro a b h
  unfold eN at h
  injection h with h
  induction a generalizing b with
  | nil => cases b with
    | nil => rfl
    | cons _ _ => cases h
  | cons x a ih => cases b with
    | nil => cases h
    | cons y b =>
      rw [List.map_cons, List.map_cons] at h
      injection h with h1 h2
      injection h1 with h1
      rw [h1, ih h2]
theorem eqd_of {α : Type} [DecidableEq α] {e : α → Dt} {a b : α} (inj : e a = e b → a = b) (ha : nobl (e a) = true) (hb : nobl (e b) = true) : eqd (e a) (e b) = decide (a = b) := by
  by_cases h : a = b
  · subst h; rw [eqd_self ha]; simp
  · rw [eqd_ne ha hb (fun z => h (inj z))]; simp [h]
theorem eqd_eN {a b : Nm} (ha : OkN a) (hb : OkN b) : eqd (eN a) (eN b) = decide (a = b) := eqd_of eN_inj (nobl_eN ha) (nobl_eN hb)
theorem OkN.drop {n : Nm} (h : OkN n) (k : Nat) : OkN (n.drop k) := fun l hl => h l (List.mem_of_mem_drop hl)
theorem OkN.take {n : Nm} (h : OkN n) (k : Nat) : OkN (n.take k) := fun l hl => h l (List.mem_of_mem_take hl)
theorem OkN.append {n m : Nm} (h : OkN n) (k : OkN m) : OkN (n ++ m) := fun l hl => (List.mem_append.mp hl).elim (h l) (k l)
theorem star_notin {n : Nm} (h : OkN n) : n.contains ("*" : Str) = false := by
  cases q : n.contains ("*" : Str) with
  | false => rfl
  | true => exact absurd rfl (h _ (List.contains_iff_mem.mp q)).star
abbrev rName : List Dt → Dt → Prop := fun ds d => ∃ n, ds = [eN n] ∧ OkN n ∧ n.length ≤ 1000 ∧ d = .bl true
abbrev rLabel : List Dt → Dt → Prop := fun ds d => ∃ s, ds = [.str s] ∧ OkL s ∧ d = .bl true
theorem sc_is_name : FnScope ["value", "label"] ["value"] (defScope s_is_name) := ⟨rfl, rfl, rfl, by decide, rfl, by decide, by decide⟩
theorem is_name_ok (B : Bs mg) (DL : DefOk P w K mg base "is_label" 1 1 (spD P w K 1 rLabel)) (F : Fn K mg "is_name" s_is_name) : DefOk P w K mg base "is_name" 2 1 (spD P w K 1 rName) :=
  defOk ["value", "label"] ["value"] F sc_is_name rfl (fun _ _ _ _ _ _ us h => by
    match us, h with
    | [_], _ => rfl) (by
    rintro fa cdv A outer s' H E hr ds d hl ⟨n, rfl, ok, hz, rfl⟩
    refine .skip (.w (.or (.not (.val (.isTup B (.var (i := 0) rfl)))) fun _ => .or1 (.not (.val (.all (bs := n.filterMap fun _ => some true) rfl B.all (.is (.lcF [("label", 1)] [1] (fun _ => some (.bl true)) rfl sc_is_name.nd (.tup (.var (i := 0) rfl)) ?_ fun d hd => ?_) ?_)))))) ?_ ?_
    · rw [List.length_map]; exact Nat.lt_of_le_of_lt hz (by decide)
    · obtain ⟨l, hl, rfl⟩ := List.mem_map.mp hd
      exact .map (fun _ _ _ _ _ => .name sc_is_name.nd) (Agree.wiped.set (by decide)) rfl fun _ _ _ _ _ => .call DL hr (.one (.var (i := 1) rfl)) ⟨l, rfl, ok l hl, rfl⟩
    · rw [List.map_filterMap, List.filterMap_map]; rfl
    · simp
    · refine .ret (.cmp (.ninT (ss := n.drop 1) .str (.is (.tFrom (n := 1) (.var (i := 0) rfl) .int) (by rw [← List.map_drop])))) ?_
      show Dt.bl _ = _
      rw [star_notin (ok.drop 1)]
      rfl)
theorem sc_is_asked : FnScope ["value"] ["value"] (defScope s_is_asked) := ⟨rfl, rfl, rfl, by decide, rfl, by decide, by decide⟩
theorem is_asked_ok (B : Bs mg) (DL : DefOk P w K mg base "is_name" 2 1 (spD P w K 1 rName)) (F : Fn K mg "is_asked" s_is_asked) : DefOk P w K mg base "is_asked" 3 1 (spD P w K 1 rName) :=
  defOk ["value"] ["value"] F sc_is_asked rfl (fun _ _ _ _ _ _ us h => by
    match us, h with
    | [_], _ => rfl) (by
    rintro fa cdv A outer s' H E hr ds d hl ⟨n, rfl, ok, hz, rfl⟩
    have e1 : Dt.tup ((n.map .str).take 1) = eN (n.take 1) := by unfold eN; rw [List.map_take]
    have ne : n.take 1 ≠ (["*"] : List Str) := fun z => (ok.take 1 "*" (by rw [z]; exact .head _)).star rfl
    have nb : nobl (eN ["*"]) = true := by decide +kernel
    refine .ret (.and (.call DL hr (.one (.var (i := 0) rfl)) ⟨n, rfl, ok, hz, rfl⟩) fun _ => .one (.cmp (.neD (x := eN (n.take 1)) (y := eN ["*"]) hr (.is (.tTo (n := 1) (.var (i := 0) rfl) .int) e1) (.tup (.one .str)) (plain_of _ (nobl_eN (ok.take 1))) (plain_of _ nb) (by rw [dep_eN]; decide) (by rw [dep_eN]; decide)))) ?_
    show Dt.bl _ = _
    rw [eqd_ne (nobl_eN (ok.take 1)) nb fun z => ne (eN_inj z)]
    rfl)
abbrev rKey : List Dt → Dt → Prop := fun ds d => ∃ n, ds = [eN n] ∧ d = eN n.reverse
theorem sc_name_key : FnScope ["name"] ["name"] (defScope s_name_key) := ⟨rfl, rfl, rfl, by decide, rfl, by decide, by decide⟩
theorem name_key_ok (F : Fn K mg "name_key" s_name_key) : DefOk P w K mg base "name_key" 1 1 (spD P w K 1 rKey) :=
  defOk ["name"] ["name"] F sc_name_key rfl (fun _ _ _ _ _ _ us h => by
    match us, h with
    | [_], _ => rfl) (by
    rintro fa cdv A outer s' H E hr ds d hl ⟨xs, rfl, rfl⟩
    exact .ret (.rev (.var (i := 0) rfl)) (by show Dt.tup _ = Dt.tup _; rw [List.map_reverse]))
/-- stands_under(name, ()) -/
abbrev rRoot : List Dt → Dt → Prop := fun ds d => ∃ n, ds = [eN n, eN []] ∧ OkN n ∧ d = .bl true
theorem sc_stands_under : FnScope ["name", "other", "ahead"] ["name", "other"] (defScope s_stands_under) := ⟨rfl, rfl, rfl, by decide, rfl, by decide, by decide⟩
theorem stands_under_ok (B : Bs mg) (F : Fn K mg "stands_under" s_stands_under) : DefOk P w K mg base "stands_under" 1 2 (spD P w K 2 rRoot) :=
  defOk ["name", "other", "ahead"] ["name", "other"] F sc_stands_under rfl (fun _ _ _ _ _ _ us h => by
    match us, h with
    | [_, _], _ => rfl) (by
    rintro fa cdv A outer s' H E hr ds d hl ⟨n, rfl, ok, rfl⟩
    refine .asg (i := 2) (.is (d1 := .int (n.length : Int)) (.sub (.lenT B.len (.var (i := 0) rfl)) (.lenT B.len (.var (i := 1) rfl))) (by simp)) ?_ sc_stands_under.nd
    refine .ret (.and (.cmp (.ge (.var (i := 2) rfl) .int)) fun _ => .one (.cmp (.eqD hr (.is (d1 := eN []) (.tFrom (n := n.length) (.var (i := 0) rfl) (.var (i := 2) rfl)) ?_) (.var (i := 1) rfl) rfl rfl (by decide) (by decide)))) ?_
    · show Dt.tup _ = Dt.tup _
      rw [← List.map_drop, List.drop_length]
    · show Dt.bl _ = _
      rw [eqd_self (by rfl)]
      simp)
abbrev rSize : List Dt → Dt → Prop := fun ds d => ∃ n, ds = [eN n] ∧ OkN n ∧ n.length ≤ 1000 ∧ ∃ i : Int, d = .int i ∧ i = 1 + (n.map fun l => (l.length : Int) + 1).sum
theorem sc_size_of : FnScope ["name", "label"] ["name"] (defScope s_size_of) := ⟨rfl, rfl, rfl, by decide, rfl, by decide, by decide⟩
theorem size_of_ok (B : Bs mg) (F : Fn K mg "size_of" s_size_of) : DefOk P w K mg base "size_of" 1 1 (spD P w K 1 rSize) :=
  defOk ["name", "label"] ["name"] F sc_size_of rfl (fun _ _ _ _ _ _ us h => by
    match us, h with
    | [_], _ => rfl) (by
    rintro fa cdv A outer s' H E hr ds d hl ⟨n, rfl, ok, hz, i, rfl, rfl⟩
    refine .ret (.add .int (.sum (ns := n.map fun l => (l.length : Int) + 1) rfl B.sum (.is (.lcF [("label", 1)] [1] (fun d => match d with | .str l => some (.int ((l.length : Int) + 1)) | _ => none) rfl sc_size_of.nd (.tup (.var (i := 0) rfl)) ?_ fun d hd => ?_) ?_))) rfl
    · rw [List.length_map]; exact Nat.lt_of_le_of_lt hz (by decide)
    · obtain ⟨l, hl, rfl⟩ := List.mem_map.mp hd
      exact .map (fun _ _ _ _ _ => .name sc_size_of.nd) (Agree.wiped.set (by decide)) rfl fun _ _ _ _ _ => .add (.lenS B.len (.var (i := 1) rfl) (Nat.le_trans (ok l hl).hi (by decide))) .int
    · rw [List.filterMap_map, List.map_map]
      exact congrArg Dt.lst (congrFun (List.filterMap_eq_map (f := fun l : Str => Dt.int ((l.length : Int) + 1))) n))
end Rw
namespace Rw
open PySem PySem.Spec PyProof.Rows L2
abbrev s_is_kind : Stmt := topS 33
abbrev s_is_below : Stmt := topS 34
abbrev s_is_plain_text : Stmt := topS 35
abbrev s_fits_kind : Stmt := topS 36
abbrev s_is_record : Stmt := topS 37
abbrev s_data_key : Stmt := topS 38
abbrev s_record_key : Stmt := topS 39
abbrev s_need_records : Stmt := topS 40
abbrev s_ordered_records : Stmt := topS 41
abbrev s_need_like_ages : Stmt := topS 42
abbrev s_checked_records : Stmt := topS 43
abbrev s_grouped : Stmt := topS 44
def KINDS : List Str := ["addr", "alias", "back", "mail", "server", "start", "text", "tree"]
def NAMED : List Str := ["alias", "back", "server", "tree"]
structure GTup (K : PySem.W.Frag) (mg : Str → Option Value) (x : Str) (ss : List Str) : Prop where
  ex : ∃ a, mg x = some (.ref a) ∧ ∀ H, SqT K H a (ss.map V.str)
theorem EV.gTup {X : Cx} {ρ : List En} {pos : Pos} {x : Str} {ss : List Str} (h : GTup X.K X.mg x ss) (hg : Gl X x := by rfl) (hd : (x == ("__debug__" : Str)) = false := by decide) : EV X (.Name x pos) ρ (.tup (ss.map .str)) ρ := by
  obtain ⟨a, h1, h2⟩ := h.ex
  exact .globT h1 h2 hg hd

/-! ### nodes -/
structure OkNode (s : Str) : Prop where
  lo : 1 ≤ s.length
  hi : s.length ≤ 8
  sg : ∀ c ∈ s.cps.toList, 97 ≤ c ∧ c ≤ 122
theorem OkNode.str {s : Str} (h : OkNode s) : nobl (.str s) = true := by
  show s.cps.all (· < 0x110000) = true
  rw [← Array.all_toList, List.all_eq_true]
  intro c hc
  have := h.sg c hc
  exact decide_eq_true (by omega)

/-! ### rows of a zone -/
inductive Row where
  | start | serv
  | text (n : Nm) (a : Int) (s : Str)
  | ali (n : Nm) (a : Int) (m : Nm)
  deriving DecidableEq
def Row.nm : Row → Nm
  | .start | .serv => []
  | .text n _ _ | .ali n _ _ => n
def Row.kd : Row → Str
  | .start => "start"
  | .serv => "server"
  | .text _ _ _ => "text"
  | .ali _ _ _ => "alias"
def Row.ag : Row → Int
  | .start | .serv => 9
  | .text _ a _ | .ali _ a _ => a
def hN : Nm := ["h"]
def Row.dt : Row → Dt
  | .start => .tup [eN hN, .int 1, .int 2, .int 3, .int 4, .int 5]
  | .serv => eN hN
  | .text _ _ s => .str s
  | .ali _ _ m => eN m
def Row.dk : Row → Dt
  | .start => .tup [eN hN, .int 1, .int 2, .int 3, .int 4, .int 5]
  | .serv => eN hN
  | .text _ _ s => .str s
  | .ali _ _ m => eN m.reverse
def eR (r : Row) : Dt := .tup [eN r.nm, .str r.kd, .int r.ag, r.dt]
structure OkRow (r : Row) : Prop where
  nm : OkN r.nm
  nl : r.nm.length ≤ 1000
  a0 : 0 ≤ r.ag
  a1 : r.ag < 2147483648
  dt : match r with
    | .text _ _ s => OkNode s
    | .ali _ _ m => OkN m ∧ m.length ≤ 1000
    | _ => True
theorem ok_h : OkN hN := by
  intro l hl
  have e : l = "h" := by simpa [hN] using hl
  subst e
  exact ⟨by decide +kernel, by decide +kernel, by decide +kernel, by decide +kernel, by decide +kernel⟩
theorem Row.kind (r : Row) : KINDS.contains r.kd = true := by cases r <;> simp only [Row.kd] <;> decide +kernel
def Row.k2 (r : Row) : Nm × Str := (r.nm.reverse, r.kd)
variable {P : Program} {w : World} {K : PySem.W.Frag} {mg : Str → Option Value} {base : Heap}
abbrev rKind : List Dt → Dt → Prop := fun ds d => ∃ s, ds = [.str s] ∧ KINDS.contains s = true ∧ d = .bl true
theorem sc_is_kind : FnScope ["value"] ["value"] (defScope s_is_kind) := ⟨rfl, rfl, rfl, by decide, rfl, by decide, by decide⟩
theorem is_kind_ok (B : Bs mg) (hK : GTup K mg "KINDS" KINDS) (F : Fn K mg "is_kind" s_is_kind) : DefOk P w K mg base "is_kind" 1 1 (spD P w K 1 rKind) :=
  defOk ["value"] ["value"] F sc_is_kind rfl (fun _ _ _ _ _ _ us h => by
    match us, h with
    | [_], _ => rfl) (by
    rintro fa cdv A outer s' H E hr ds d hl ⟨s, rfl, ok, rfl⟩
    exact .ret (.and (.isStr B (.var (i := 0) rfl)) fun _ => .one (.cmp (.inT (.var (i := 0) rfl) (.gTup hK)))) (by show Dt.bl _ = _; rw [ok]; rfl))
abbrev rBelow : List Dt → Dt → Prop := fun ds d => ∃ i b : Int, ds = [.int i, .int b] ∧ 0 ≤ i ∧ i < b ∧ d = .bl true
theorem sc_is_below : FnScope ["value", "bound"] ["value", "bound"] (defScope s_is_below) := ⟨rfl, rfl, rfl, by decide, rfl, by decide, by decide⟩
theorem is_below_ok (B : Bs mg) (F : Fn K mg "is_below" s_is_below) : DefOk P w K mg base "is_below" 1 2 (spD P w K 2 rBelow) :=
  defOk ["value", "bound"] ["value", "bound"] F sc_is_below rfl (fun _ _ _ _ _ _ us h => by
    match us, h with
    | [_, _], _ => rfl) (by
    rintro fa cdv A outer s' H E hr ds d hl ⟨i, b, rfl, h1, h2, rfl⟩
    exact .ret (.and (.isInt B (.var (i := 0) rfl)) fun _ => .and (.not (.noBool B (.var (i := 0) rfl))) fun _ => .one (.leLt .int (.var (i := 0) rfl) (.var (i := 1) rfl))) (by show Dt.bl _ = _; simp [h1, h2]))
abbrev rNodeT : List Dt → Dt → Prop := fun ds d => ∃ s, ds = [.str s] ∧ OkNode s ∧ d = .bl true
theorem sc_is_plain_text : FnScope ["value", "sign"] ["value"] (defScope s_is_plain_text) := ⟨rfl, rfl, rfl, by decide, rfl, by decide, by decide⟩
theorem lt1 {c d : Nat} : (([c] : List Nat) < [d]) ↔ c < d := by
  rw [List.cons_lt_cons_iff]
  constructor
  · rintro (h | ⟨_, h⟩)
    · exact h
    · cases h
  · exact .inl
theorem is_plain_text_ok (B : Bs mg) (hT : GInt mg "LONGEST_TEXT" 60) (F : Fn K mg "is_plain_text" s_is_plain_text) : DefOk P w K mg base "is_plain_text" 1 1 (spD P w K 1 rNodeT) :=
  defOk ["value", "sign"] ["value"] F sc_is_plain_text rfl (fun _ _ _ _ _ _ us h => by
    match us, h with
    | [_], _ => rfl) (by
    rintro fa cdv A outer s' H E hr ds d hl ⟨s, rfl, ok, rfl⟩
    have hz : s.length ≤ sizeLine := Nat.le_trans ok.hi (by decide)
    refine .skip (.w (.or (.not (.val (.isStr B (.var (i := 0) rfl)))) fun _ => .or1 (.cmp (.gt (.lenS B.len (.var (i := 0) rfl) hz) (.gInt hT))))) ?_ ?_
    · have := ok.hi
      simp
      omega
    refine .ret (.all (bs := (signs s).filterMap fun _ => some true) rfl B.all (.is (.lcF [("sign", 1)] [1] (fun _ => some (.bl true)) rfl sc_is_plain_text.nd (.str (.var (i := 0) rfl)) (by unfold signs; rw [List.length_map, Array.length_toList]; exact Nat.lt_of_le_of_lt ok.hi (by decide)) fun d hd => ?_) ?_)) ?_
    · unfold signs at hd
      obtain ⟨c, hc, rfl⟩ := List.mem_map.mp hd
      have h1 := ok.sg c hc
      refine .map (fun _ _ _ _ _ => .name sc_is_plain_text.nd) (Agree.wiped.set (by decide)) rfl fun _ _ _ _ _ => .is (.and (.leLeS .str (.var (i := 1) rfl) .str) fun _ => .one (.not (.ltLtS .str (.var (i := 1) rfl) .str))) ?_
      have e1 : (" " : Str).cps.toList = [32] := by decide +kernel
      have e2 : ("~" : Str).cps.toList = [126] := by decide +kernel
      have e3 : ("$" : Str).cps.toList = [36] := by decide +kernel
      have e4 : ("&" : Str).cps.toList = [38] := by decide +kernel
      have e5 : (⟨#[c]⟩ : Str).cps.toList = [c] := rfl
      have f1 : ¬ (([c] : List Nat) < [32]) := fun z => by have := lt1.mp z; omega
      have f2 : ¬ (([126] : List Nat) < [c]) := fun z => by have := lt1.mp z; omega
      have f3 : ¬ (([c] : List Nat) < [38]) := fun z => by have := lt1.mp z; omega
      rw [e1, e2, e3, e4, e5]
      simp only [f1, f2, f3, decide_false, Bool.and_false, Bool.not_false, Bool.and_self]
    · rw [List.map_filterMap]
      simp
    · show Dt.bl _ = Dt.bl _
      simp)
abbrev rFits : List Dt → Dt → Prop := fun ds d => ∃ r : Row, ds = [.str r.kd, r.dt] ∧ OkRow r ∧ d = .bl true
theorem sc_fits_kind : FnScope ["kind", "value", "part"] ["kind", "value"] (defScope s_fits_kind) := ⟨rfl, rfl, rfl, by decide, rfl, by decide, by decide⟩
theorem fits_kind_ok (B : Bs mg) (hNm : GTup K mg "NAMED" NAMED) (hA : GInt mg "AGES" 2147483648) (hU : GInt mg "NUMBERS" 4294967296) (DT : DefOk P w K mg base "is_plain_text" 1 1 (spD P w K 1 rNodeT)) (DA : DefOk P w K mg base "is_asked" 3 1 (spD P w K 1 rName)) (DB : DefOk P w K mg base "is_below" 1 2 (spD P w K 2 rBelow)) (F : Fn K mg "fits_kind" s_fits_kind) :
    DefOk P w K mg base "fits_kind" 4 2 (spD P w K 2 rFits) :=
  defOk ["kind", "value", "part"] ["kind", "value"] F sc_fits_kind rfl (fun _ _ _ _ _ _ us h => by
    match us, h with
    | [_, _], _ => rfl) (by
    rintro fa cdv A outer s' H E hr ds d hl ⟨r, rfl, ok, rfl⟩
    have hr1 := hr.mono (show 1 ≤ 3 by decide)
    refine .skip (.cmp (.eqS (.var (i := 0) rfl) .str)) (decide_eq_false (by cases r <;> simp only [Row.kd] <;> decide +kernel)) ?_
    cases r with
    | text n a s =>
      refine .take (.cmp (.eqS (.var (i := 0) rfl) .str)) (by simp only [Row.kd]; decide +kernel) ?_
      exact .ret (.call DT hr1 (.one (.var (i := 1) rfl)) ⟨s, rfl, ok.dt, rfl⟩) rfl
    | ali n a m =>
      refine .skip (.cmp (.eqS (.var (i := 0) rfl) .str)) (decide_eq_false (by simp only [Row.kd]; decide +kernel)) ?_
      refine .take (.cmp (.inT (.var (i := 0) rfl) (.gTup hNm))) (by simp only [Row.kd]; decide +kernel) ?_
      exact .ret (.call DA hr (.one (.var (i := 1) rfl)) ⟨m, rfl, ok.dt.1, ok.dt.2, rfl⟩) rfl
    | serv =>
      refine .skip (.cmp (.eqS (.var (i := 0) rfl) .str)) (by decide +kernel) ?_
      refine .take (.cmp (.inT (.var (i := 0) rfl) (.gTup hNm))) (by decide +kernel) ?_
      exact .ret (.call DA hr (.one (.var (i := 1) rfl)) ⟨hN, rfl, ok_h, by decide, rfl⟩) rfl
    | start =>
      refine .skip (.cmp (.eqS (.var (i := 0) rfl) .str)) (by decide +kernel) ?_
      refine .skip (.cmp (.inT (.var (i := 0) rfl) (.gTup hNm))) (by decide +kernel) ?_
      refine .skip (.not (.val (.isTup B (.var (i := 1) rfl)))) rfl ?_
      refine .skip (.cmp (.eqS (.var (i := 0) rfl) .str)) (by decide +kernel) ?_
      refine .skip (.w (.or (.cmp (.neI (.lenT B.len (.var (i := 1) rfl)) .int)) fun _ => .or (.not (.val (.call DA hr (.one (.ixT (.var (i := 1) rfl) .int rfl)) ⟨hN, rfl, ok_h, by decide, rfl⟩))) fun _ => .or1 (.not (.val (.call DB hr1 (.cons (.ixT (.var (i := 1) rfl) .int rfl) (.one (.gInt hU))) ⟨1, _, rfl, by decide, by decide, rfl⟩))))) rfl ?_
      refine .ret (.all (bs := [true, true, true, true]) rfl B.all (.is (.lcF [("part", 2)] [2] (fun _ => some (.bl true)) rfl sc_fits_kind.nd (.tup (.tFrom (n := 2) (.var (i := 1) rfl) .int)) (by decide) fun d hd => ?_) rfl)) rfl
      obtain ⟨i, rfl, h0, h1⟩ : ∃ i : Int, d = .int i ∧ 0 ≤ i ∧ i < 2147483648 := by
        simp at hd
        rcases hd with z | z | z | z <;> exact ⟨_, z, by decide, by decide⟩
      exact .map (fun _ _ _ _ _ => .name sc_fits_kind.nd) (Agree.wiped.set (by decide)) rfl fun _ _ _ _ _ => .call DB hr1 (.cons (.var (i := 2) rfl) (.one (.gInt hA))) ⟨i, _, rfl, h0, h1, rfl⟩)
end Rw
namespace Rw
open PySem PySem.Spec PyProof.Rows L2
open PySem.W (dataLe)
variable {P : Program} {w : World} {K : PySem.W.Frag} {mg : Str → Option Value} {base : Heap}
abbrev rRec : List Dt → Dt → Prop := fun ds d => ∃ r : Row, ds = [eR r] ∧ OkRow r ∧ d = .bl true
theorem sc_is_record : FnScope ["value"] ["value"] (defScope s_is_record) := ⟨rfl, rfl, rfl, by decide, rfl, by decide, by decide⟩
theorem is_record_ok (B : Bs mg) (hA : GInt mg "AGES" 2147483648) (DN : DefOk P w K mg base "is_name" 2 1 (spD P w K 1 rName)) (DK : DefOk P w K mg base "is_kind" 1 1 (spD P w K 1 rKind)) (DB : DefOk P w K mg base "is_below" 1 2 (spD P w K 2 rBelow)) (DF : DefOk P w K mg base "fits_kind" 4 2 (spD P w K 2 rFits)) (F : Fn K mg "is_record" s_is_record) :
    DefOk P w K mg base "is_record" 5 1 (spD P w K 1 rRec) :=
  defOk ["value"] ["value"] F sc_is_record rfl (fun _ _ _ _ _ _ us h => by
    match us, h with
    | [_], _ => rfl) (by
    rintro fa cdv A outer s' H E hr ds d hl ⟨r, rfl, ok, rfl⟩
    have hr1 := hr.mono (show 1 ≤ 4 by decide)
    have hr2 := hr.mono (show 2 ≤ 4 by decide)
    refine .skip (.w (.or (.not (.val (.isTup B (.var (i := 0) rfl)))) fun _ => .or (.cmp (.neI (.lenT B.len (.var (i := 0) rfl)) .int)) fun _ => .or (.not (.val (.call DN hr2 (.one (.ixT (.var (i := 0) rfl) .int rfl)) ⟨r.nm, rfl, ok.nm, ok.nl, rfl⟩))) fun _ => .or1 (.not (.val (.call DK hr1 (.one (.ixT (.var (i := 0) rfl) .int rfl)) ⟨r.kd, rfl, r.kind, rfl⟩))))) rfl ?_
    exact .ret (.and (.call DB hr1 (.cons (.ixT (.var (i := 0) rfl) .int rfl) (.one (.gInt hA))) ⟨r.ag, _, rfl, ok.a0, ok.a1, rfl⟩) fun _ => .one (.call DF hr (.cons (.ixT (.var (i := 0) rfl) .int rfl) (.one (.ixT (.var (i := 0) rfl) .int rfl))) ⟨r, rfl, ok, rfl⟩)) rfl)
abbrev rDKey : List Dt → Dt → Prop := fun ds d => ∃ r : Row, ds = [.str r.kd, r.dt] ∧ d = r.dk
theorem sc_data_key : FnScope ["kind", "data"] ["kind", "data"] (defScope s_data_key) := ⟨rfl, rfl, rfl, by decide, rfl, by decide, by decide⟩
theorem data_key_ok (hNm : GTup K mg "NAMED" NAMED) (DK : DefOk P w K mg base "name_key" 1 1 (spD P w K 1 rKey)) (F : Fn K mg "data_key" s_data_key) : DefOk P w K mg base "data_key" 2 2 (spD P w K 2 rDKey) :=
  defOk ["kind", "data"] ["kind", "data"] F sc_data_key rfl (fun _ _ _ _ _ _ us h => by
    match us, h with
    | [_, _], _ => rfl) (by
    rintro fa cdv A outer s' H E hr ds d hl ⟨r, rfl, rfl⟩
    cases r with
    | text n a s =>
      refine .skip (.cmp (.inT (.var (i := 0) rfl) (.gTup hNm))) (by simp only [Row.kd]; decide +kernel) ?_
      refine .skip (.cmp (.eqS (.var (i := 0) rfl) .str)) (decide_eq_false (by simp only [Row.kd]; decide +kernel)) ?_
      refine .skip (.cmp (.eqS (.var (i := 0) rfl) .str)) (decide_eq_false (by simp only [Row.kd]; decide +kernel)) ?_
      exact .ret (.var (i := 1) rfl) rfl
    | ali n a m =>
      refine .take (.cmp (.inT (.var (i := 0) rfl) (.gTup hNm))) (by simp only [Row.kd]; decide +kernel) ?_
      exact .ret (.call DK hr (.one (.var (i := 1) rfl)) ⟨m, rfl, rfl⟩) rfl
    | serv =>
      refine .take (.cmp (.inT (.var (i := 0) rfl) (.gTup hNm))) (by decide +kernel) ?_
      exact .ret (.call DK hr (.one (.var (i := 1) rfl)) ⟨hN, rfl, rfl⟩) rfl
    | start =>
      refine .skip (.cmp (.inT (.var (i := 0) rfl) (.gTup hNm))) (by decide +kernel) ?_
      refine .skip (.cmp (.eqS (.var (i := 0) rfl) .str)) (by decide +kernel) ?_
      refine .take (.cmp (.eqS (.var (i := 0) rfl) .str)) (by decide +kernel) ?_
      exact .ret (.addT (.tup (.one (.call DK hr (.one (.ixT (.var (i := 1) rfl) .int rfl)) ⟨hN, rfl, rfl⟩))) (.tFrom (n := 1) (.var (i := 1) rfl) .int) (by decide)) rfl)
def Row.ky (r : Row) : Dt := .tup [eN r.nm.reverse, .str r.kd, r.dk, .int r.ag]
abbrev rRKey : List Dt → Dt → Prop := fun ds d => ∃ r : Row, ds = [eR r] ∧ d = r.ky
theorem sc_record_key : FnScope ["record"] ["record"] (defScope s_record_key) := ⟨rfl, rfl, rfl, by decide, rfl, by decide, by decide⟩
theorem record_key_ok (DK : DefOk P w K mg base "name_key" 1 1 (spD P w K 1 rKey)) (DD : DefOk P w K mg base "data_key" 2 2 (spD P w K 2 rDKey)) (F : Fn K mg "record_key" s_record_key) : DefOk P w K mg base "record_key" 3 1 (spD P w K 1 rRKey) :=
  defOk ["record"] ["record"] F sc_record_key rfl (fun _ _ _ _ _ _ us h => by
    match us, h with
    | [_], _ => rfl) (by
    rintro fa cdv A outer s' H E hr ds d hl ⟨r, rfl, rfl⟩
    have hr1 := hr.mono (show 1 ≤ 2 by decide)
    exact .ret (.tup (.cons (.call DK hr1 (.one (.ixT (.var (i := 0) rfl) .int rfl)) ⟨r.nm, rfl, rfl⟩) (.cons (.ixT (.var (i := 0) rfl) .int rfl) (.cons (.call DD hr (.cons (.ixT (.var (i := 0) rfl) .int rfl) (.one (.ixT (.var (i := 0) rfl) .int rfl))) ⟨r, rfl, rfl⟩) (.one (.ixT (.var (i := 0) rfl) .int rfl)))))) rfl)
structure OkRows (rs : List Row) : Prop where
  ok : ∀ r ∈ rs, OkRow r
  nd : (rs.map Row.k2).Nodup
  lz : rs.length ≤ 1000
def eRs (rs : List Row) : Dt := .lst (rs.map eR)
abbrev rNeed : List Dt → Dt → Prop := fun ds d => ∃ rs, ds = [eRs rs] ∧ OkRows rs ∧ d = .non
theorem sc_need_records : FnScope ["records", "record"] ["records"] (defScope s_need_records) := ⟨rfl, rfl, rfl, by decide, rfl, by decide, by decide⟩
theorem need_records_ok (DR : DefOk P w K mg base "is_record" 5 1 (spD P w K 1 rRec)) (F : Fn K mg "need_records" s_need_records) : DefOk P w K mg base "need_records" 6 1 (spD P w K 1 rNeed) :=
  defOk ["records", "record"] ["records"] F sc_need_records rfl (fun _ _ _ _ _ _ us h => by
    match us, h with
    | [_], _ => rfl) (by
    rintro fa cdv A outer s' H E hr ds d hl ⟨rs, rfl, ok, rfl⟩
    refine .for rfl (.list (.var (i := 0) rfl)) (fun i ρ => ∃ e, ρ = [.dat (eRs rs), e] ∧ isOwn e = false) ⟨.un, rfl, rfl⟩ (fun i d ρ hi hI => ?_) (fun ρ _ => .nil rfl)
    obtain ⟨e, rfl, _⟩ := hI
    obtain ⟨r, hr', rfl⟩ := List.mem_map.mp (List.mem_of_getElem? hi)
    refine ⟨_, _, .name (i := 1) sc_need_records.nd, .skip (.not (.val (.call DR hr (.one (.var (i := 1) rfl)) ⟨r, rfl, ok.ok r hr', rfl⟩))) rfl (.nil ⟨_, rfl, rfl⟩)⟩)
theorem nobl_eR {r : Row} (ok : OkRow r) : nobl (eR r) = true := by
  have h1 := nobl_eN ok.nm
  have h3 : nobl r.dt = true := by
    cases r with
    | start => decide +kernel
    | serv => decide +kernel
    | text n a s => exact ok.dt.str
    | ali n a m => exact nobl_eN ok.dt.1
  have h2 : nobl (.str r.kd) = true := by cases r <;> simp only [Row.kd] <;> decide +kernel
  show (nobl (eN r.nm) && (nobl (.str r.kd) && (true && (nobl r.dt && true)))) = true
  rw [h1, h2, h3]
  rfl
theorem dep_dt (r : Row) : dep r.dt ≤ 2 := by
  cases r with
  | start => decide +kernel
  | serv => decide +kernel
  | text n a s => show 0 ≤ 2; decide
  | ali n a m => show dep (eN m) ≤ 2; rw [dep_eN]; decide
theorem dep_eR (r : Row) : dep (eR r) ≤ 3 := by
  have h1 := dep_eN r.nm
  have h2 := dep_dt r
  show max (dep (eN r.nm)) (max 0 (max 0 (max (dep r.dt) 0))) + 1 ≤ 3
  omega
theorem eR_k2 {r r' : Row} (h : eR r = eR r') : r.k2 = r'.k2 := by
  unfold eR at h
  injection h with h
  injection h with h1 h
  injection h with h2 h
  injection h2 with h2
  unfold Row.k2
  rw [eN_inj h1, h2]
def strOf : Dt → Str
  | .str s => s
  | _ => ⟨#[]⟩
theorem strOf_map : ∀ n : Nm, (n.map Dt.str).map strOf = n
  | [] => rfl
  | x :: n => by rw [List.map_cons, List.map_cons, strOf_map n]; rfl
def dk2 : Dt → Nm × Str
  | .tup (.tup xs :: k :: _) => ((xs.map strOf).reverse, strOf k)
  | _ => ([], ⟨#[]⟩)
theorem dk2_eR (r : Row) : dk2 (eR r) = r.k2 := by
  show (((r.nm.map Dt.str).map strOf).reverse, r.kd) = _
  rw [strOf_map]
  rfl
open Classical in
noncomputable def dky (d : Dt) : Dt := if h : ∃ r, d = eR r then h.choose.ky else .non
theorem dky_rel (r : Row) : rRKey [eR r] (dky (eR r)) := by
  have h : ∃ r', eR r = eR r' := ⟨r, rfl⟩
  unfold dky
  rw [dif_pos h]
  exact ⟨h.choose, by rw [← h.choose_spec], rfl⟩
theorem dky_two (r : Row) : ∃ x, dky (eR r) = .tup (.tup ((dk2 (eR r)).1.map .str) :: .str (dk2 (eR r)).2 :: x) := by
  have h : ∃ r', eR r = eR r' := ⟨r, rfl⟩
  unfold dky
  rw [dif_pos h]
  have e : dk2 (eR r) = h.choose.k2 := by rw [← dk2_eR, ← h.choose_spec]
  rw [e]
  exact ⟨_, rfl⟩
end Rw
namespace Rw
open PySem PySem.Spec PyProof.Rows L2
open PySem.W (dataLe)
variable {P : Program} {w : World} {K : PySem.W.Frag} {mg : Str → Option Value} {base : Heap}
def srt (rs : List Row) : List Row := rs.mergeSort (dataLe false fun r => rcP r.k2)
theorem srt_perm (rs : List Row) : (srt rs).Perm rs := List.mergeSort_perm _ _
theorem sort_map {α β : Type} (f : α → β) (k : β → PyData) (k' : α → PyData) (h : ∀ a, k (f a) = k' a) (l : List α) : (l.map f).mergeSort (dataLe false k) = (l.mergeSort (dataLe false k')).map f := by
  have e : k' = fun a => k (f a) := funext fun a => (h a).symm
  subst e
  have z : (l.mergeSort (dataLe false fun a => k (f a))).map f = (l.map f).mergeSort (dataLe false k) := List.map_mergeSort fun a _ b _ => rfl
  exact z.symm
theorem srt_map (rs : List Row) : (rs.map eR).mergeSort (dataLe false fun d => rcP (dk2 d)) = (srt rs).map eR := sort_map eR _ _ (fun r => by rw [dk2_eR]) rs
theorem OkRows.srt {rs : List Row} (h : OkRows rs) : OkRows (srt rs) :=
  ⟨fun r hr => h.ok r ((srt_perm rs).mem_iff.mp hr), ((srt_perm rs).map Row.k2).nodup_iff.mpr h.nd, by rw [(srt_perm rs).length_eq]; exact h.lz⟩
theorem OkRows.next {rs : List Row} (h : OkRows rs) {i : Nat} {r r' : Row} (h1 : rs[i]? = some r) (h2 : rs[i + 1]? = some r') : r.k2 ≠ r'.k2 := fun z => by
  have e1 : (rs.map Row.k2)[i]? = some r.k2 := by rw [List.getElem?_map, h1]; rfl
  have e2 : (rs.map Row.k2)[i + 1]? = some r.k2 := by rw [List.getElem?_map, h2, z]; rfl
  have := (List.getElem?_inj (List.getElem?_eq_some_iff.mp e1).1 h.nd).mp (e1.trans e2.symm)
  omega
theorem last_take {α : Type} {l : List α} {i : Nat} {a : α} (h : l[i]? = some a) : (l.take (i + 1)).getLast? = some a := by
  rw [List.take_add_one, h]
  simp
abbrev rOrd : List Dt → Dt → Prop := fun ds d => ∃ rs, ds = [eRs rs] ∧ OkRows rs ∧ d = eRs (srt rs)
theorem sc_ordered_records : FnScope ["records", "kept", "record"] ["records"] (defScope s_ordered_records) := ⟨rfl, rfl, rfl, by decide, rfl, by decide, by decide⟩
theorem ordered_records_ok (B : Bs mg) (DK : DefOk P w K mg base "record_key" 3 1 (spD P w K 1 rRKey)) (F : Fn K mg "ordered_records" s_ordered_records) : DefOk P w K mg base "ordered_records" 6 1 (spD P w K 1 rOrd) :=
  defOk ["records", "kept", "record"] ["records"] F sc_ordered_records rfl (fun _ _ _ _ _ _ us h => by
    match us, h with
    | [_], _ => rfl) (by
    rintro fa cdv A outer s' H E hr ds d hl ⟨rs, rfl, ok, rfl⟩
    have okS := ok.srt
    refine .newL (i := 1) ?_ sc_ordered_records.nd
    refine .for rfl (.list (.is (.sortK DK hr B.sorted (.var (i := 0) rfl) dky (fun d hd => ?_) (fun d => rcP (dk2 d)) (.recs dk2 (fun d hd => ?_) ?_)) (by rw [srt_map]))) (fun i ρ => ∃ e, ρ = [.dat (eRs rs), .ol (((srt rs).take i).map eR), e] ∧ isOwn e = false) ⟨.un, rfl, rfl⟩ (fun i d ρ hi hI => ?_) (fun ρ hI => ?_)
    · obtain ⟨r, _, rfl⟩ := List.mem_map.mp hd
      exact dky_rel r
    · obtain ⟨r, hr', rfl⟩ := List.mem_map.mp hd
      obtain ⟨x, hx⟩ := dky_two r
      refine ⟨x, hx, ?_⟩
      rw [dk2_eR]
      exact nobl_eN (n := r.nm.reverse) (fun l hl => (ok.ok r hr').nm l (List.mem_reverse.mp hl)) |> plains_of _
    · have e : (rs.map eR).map dk2 = rs.map Row.k2 := by
        rw [List.map_map]
        exact List.map_congr_left fun r _ => dk2_eR r
      rw [e]
      exact ok.nd
    · obtain ⟨e, rfl, _⟩ := hI
      rw [List.getElem?_map] at hi
      cases q : (srt rs)[i]? with
      | none => rw [q] at hi; cases hi
      | some r =>
        rw [q] at hi
        cases hi
        have okr := okS.ok r (List.mem_of_getElem? q)
        have et : ((srt rs).take (i + 1)).map eR = ((srt rs).take i).map eR ++ [eR r] := by rw [List.take_add_one, q, List.map_append]; rfl
        have hz : (((srt rs).take i).map eR).length < sizeLine := by
          have := okS.lz
          rw [List.length_map, List.length_take, sizeLine_eq]
          omega
        refine ⟨_, _, .name (i := 2) sc_ordered_records.nd, .take (k := true) (ρ1 := [.dat (eRs rs), .ol (((srt rs).take i).map eR), .dat (eR r)]) ?_ rfl (.app (i := 1) rfl (.var (i := 2) rfl) rfl hz (.nil (.nil ⟨.dat (eR r), by rw [et]; rfl, rfl⟩)))⟩
        cases i with
        | zero =>
          refine .is (.w (.or (k' := false) (ET.lend (n := 1) rfl (.cmp (.eqI (.lenL B.len (.var (i := 1) rfl)) .int))) fun h => ?_)) ?_
          · cases h
          · rfl
        | succ i =>
          obtain ⟨r0, q0⟩ : ∃ r0, (srt rs)[i]? = some r0 := ⟨_, List.getElem?_eq_getElem (by have := (List.getElem?_eq_some_iff.mp q).1; omega)⟩
          have okr0 := okS.ok r0 (List.mem_of_getElem? q0)
          have hlast : atI (((srt rs).take (i + 1)).map eR) (-1) = some (eR r0) := atI_last (by rw [List.getLast?_map, last_take q0]; rfl)
          have hne : eqd (eR r0) (eR r) = false := eqd_ne (nobl_eR okr0) (nobl_eR okr) fun z => okS.next q0 q (eR_k2 z)
          refine .is (.w (.or (ET.lend (n := 1) rfl (.cmp (.eqI (.lenL B.len (.var (i := 1) rfl)) .int))) fun h => .or1 (ET.lend (n := 1) rfl (.cmp (.neD hr (.ixL (.var (i := 1) rfl) (.neg .int) hlast) (.var (i := 2) rfl) (plain_of _ (nobl_eR okr0)) (plain_of _ (nobl_eR okr)) (Nat.le_trans (dep_eR _) (by decide)) (Nat.le_trans (dep_eR _) (by decide))))))) ?_
          rw [hne]
          simp
    · obtain ⟨e, rfl, _⟩ := hI
      refine .ret (.own (i := 1) rfl) ?_
      show Dt.lst _ = Dt.lst _
      rw [List.length_map, List.take_length])
end Rw
namespace Rw
open PySem PySem.Spec PyProof.Rows L2
open PySem.W (dataLe)
variable {P : Program} {w : World} {K : PySem.W.Frag} {mg : Str → Option Value} {base : Heap}
def p2 (r : Row) : Dt := .tup [eN r.nm, .str r.kd]
theorem nobl_p2 {r : Row} (ok : OkRow r) : nobl (p2 r) = true := by
  have h1 := nobl_eN ok.nm
  have h2 : nobl (.str r.kd) = true := by cases r <;> simp only [Row.kd] <;> decide +kernel
  show (nobl (eN r.nm) && (nobl (.str r.kd) && true)) = true
  rw [h1, h2]
  rfl
theorem dep_p2 (r : Row) : dep (p2 r) ≤ 64 := by
  have h1 := dep_eN r.nm
  show max (dep (eN r.nm)) (max 0 0) + 1 ≤ 64
  omega
theorem p2_ne {r r' : Row} (h : r.k2 ≠ r'.k2) : p2 r ≠ p2 r' := fun z => h (by
  unfold p2 at z
  injection z with z
  injection z with h1 z
  injection z with h2 z
  injection h2 with h2
  unfold Row.k2
  rw [eN_inj h1, h2])
def ahd (rs : List Row) : Nat → Dt
  | 0 => .non
  | i + 1 => match rs[i]? with
    | some r => eR r
    | none => .non
theorem ahd_succ {rs : List Row} {i : Nat} {r : Row} (h : rs[i]? = some r) : ahd rs (i + 1) = eR r := by simp only [ahd, h]
theorem sc_need_like_ages : FnScope ["records", "ahead", "record"] ["records"] (defScope s_need_like_ages) := ⟨rfl, rfl, rfl, by decide, rfl, by decide, by decide⟩
theorem need_like_ages_ok (B : Bs mg) (F : Fn K mg "need_like_ages" s_need_like_ages) : DefOk P w K mg base "need_like_ages" 1 1 (spD P w K 1 rNeed) :=
  defOk ["records", "ahead", "record"] ["records"] F sc_need_like_ages rfl (fun _ _ _ _ _ _ us h => by
    match us, h with
    | [_], _ => rfl) (by
    rintro fa cdv A outer s' H E hr ds d hl ⟨rs, rfl, ok, rfl⟩
    refine .asg (i := 1) .non ?_ sc_need_like_ages.nd
    refine .for rfl (.list (.var (i := 0) rfl)) (fun i ρ => ∃ e, ρ = [.dat (eRs rs), .dat (ahd rs i), e] ∧ isOwn e = false) ⟨.un, rfl, rfl⟩ (fun i d ρ hi hI => ?_) (fun ρ _ => .nil rfl)
    obtain ⟨e, rfl, _⟩ := hI
    rw [List.getElem?_map] at hi
    cases q : rs[i]? with
    | none => rw [q] at hi; cases hi
    | some r =>
      rw [q] at hi
      cases hi
      have okr := ok.ok r (List.mem_of_getElem? q)
      refine ⟨_, _, .name (i := 2) sc_need_like_ages.nd, ?_⟩
      cases i with
      | zero =>
        refine .skip (.w (.and (k' := false) (.cmp (.notN (.var (i := 1) rfl))) fun h => ?_)) ?_ (.asg (i := 1) (.var (i := 2) rfl) (.nil ⟨.dat (eR r), ?_, rfl⟩) sc_need_like_ages.nd)
        · cases h
        · rfl
        · rw [ahd_succ q]; rfl
      | succ i =>
        obtain ⟨r0, q0⟩ : ∃ r0, rs[i]? = some r0 := ⟨_, List.getElem?_eq_getElem (by have := (List.getElem?_eq_some_iff.mp q).1; omega)⟩
        have okr0 := ok.ok r0 (List.mem_of_getElem? q0)
        have hne : eqd (p2 r) (p2 r0) = false := eqd_ne (nobl_p2 okr) (nobl_p2 okr0) (p2_ne fun z => ok.next q0 q z.symm)
        rw [ahd_succ q0]
        refine .skip (.w (.and (.cmp (.notN (.var (i := 1) rfl))) fun h => .and (.cmp (.eqD hr (x := p2 r) (y := p2 r0) (.is (.tTo (n := 2) (.var (i := 2) rfl) .int) rfl) (.is (.tTo (n := 2) (.var (i := 1) rfl) .int) rfl) (plain_of _ (nobl_p2 okr)) (plain_of _ (nobl_p2 okr0)) (dep_p2 _) (dep_p2 _))) (k' := false) fun h => ?_)) ?_ (.asg (i := 1) (.var (i := 2) rfl) (.nil ⟨.dat (eR r), ?_, rfl⟩) sc_need_like_ages.nd)
        · rw [hne] at h; cases h
        · rw [hne]; simp
        · rw [ahd_succ q]; rfl)
abbrev s_like := s_need_like_ages
theorem sc_checked_records : FnScope ["records", "kept"] ["records"] (defScope s_checked_records) := ⟨rfl, rfl, rfl, by decide, rfl, by decide, by decide⟩
theorem checked_records_ok (DN : DefOk P w K mg base "need_records" 6 1 (spD P w K 1 rNeed)) (DO : DefOk P w K mg base "ordered_records" 6 1 (spD P w K 1 rOrd)) (DA : DefOk P w K mg base "need_like_ages" 1 1 (spD P w K 1 rNeed)) (F : Fn K mg "checked_records" s_checked_records) : DefOk P w K mg base "checked_records" 7 1 (spD P w K 1 rOrd) :=
  defOk ["records", "kept"] ["records"] F sc_checked_records rfl (fun _ _ _ _ _ _ us h => by
    match us, h with
    | [_], _ => rfl) (by
    rintro fa cdv A outer s' H E hr ds d hl ⟨rs, rfl, ok, rfl⟩
    refine .expr (.call DN hr (.one (.var (i := 0) rfl)) ⟨rs, rfl, ok, rfl⟩) ?_
    refine .asg (i := 1) (.call DO hr (.one (.var (i := 0) rfl)) ⟨rs, rfl, ok, rfl⟩) ?_ sc_checked_records.nd
    refine .expr (.call DA (hr.mono (by decide)) (.one (.var (i := 1) rfl)) ⟨srt rs, rfl, ok.srt, rfl⟩) ?_
    exact .ret (.var (i := 1) rfl) rfl)
def eGr (r : Row) : Dt := .tup [eN r.nm, .str r.kd, .int r.ag, .tup [r.dt]]
def eGrs (rs : List Row) : Dt := .lst (rs.map eGr)
abbrev rGrp : List Dt → Dt → Prop := fun ds d => ∃ rs, ds = [eRs rs] ∧ OkRows rs ∧ d = eGrs rs
theorem sc_grouped : FnScope ["records", "sets", "name", "kind", "age", "data"] ["records"] (defScope s_grouped) := ⟨rfl, rfl, rfl, by decide, rfl, by decide, by decide⟩
theorem grouped_ok (B : Bs mg) (F : Fn K mg "grouped" s_grouped) : DefOk P w K mg base "grouped" 1 1 (spD P w K 1 rGrp) :=
  defOk ["records", "sets", "name", "kind", "age", "data"] ["records"] F sc_grouped rfl (fun _ _ _ _ _ _ us h => by
    match us, h with
    | [_], _ => rfl) (by
    rintro fa cdv A outer s' H E hr ds d hl ⟨rs, rfl, ok, rfl⟩
    refine .newL (i := 1) ?_ sc_grouped.nd
    refine .for rfl (.list (.var (i := 0) rfl)) (fun i ρ => ∃ e2 e3 e4 e5, ρ = [.dat (eRs rs), .ol ((rs.take i).map eGr), e2, e3, e4, e5] ∧ isOwn e2 = false ∧ isOwn e3 = false ∧ isOwn e4 = false ∧ isOwn e5 = false) ⟨.un, .un, .un, .un, rfl, rfl, rfl, rfl, rfl⟩ (fun i d ρ hi hI => ?_) (fun ρ hI => ?_)
    · obtain ⟨e2, e3, e4, e5, rfl, _⟩ := hI
      rw [List.getElem?_map] at hi
      cases q : rs[i]? with
      | none => rw [q] at hi; cases hi
      | some r =>
        rw [q] at hi
        cases hi
        have okr := ok.ok r (List.mem_of_getElem? q)
        have et : (rs.take (i + 1)).map eGr = (rs.take i).map eGr ++ [eGr r] := by rw [List.take_add_one, q, List.map_append]; rfl
        have hz : ((rs.take i).map eGr).length < sizeLine := by
          have := ok.lz
          rw [List.length_map, List.length_take, sizeLine_eq]
          omega
        refine ⟨_, _, .tup rfl (.cons (.name (i := 2) sc_grouped.nd) (.cons (.name (i := 3) sc_grouped.nd) (.cons (.name (i := 4) sc_grouped.nd) (.cons (.name (i := 5) sc_grouped.nd) .nil)))) rfl, ?_⟩
        refine .els (k := false) (ρ1 := [.dat (eRs rs), .ol ((rs.take i).map eGr), .dat (eN r.nm), .dat (.str r.kd), .dat (.int r.ag), .dat r.dt]) ?_ rfl ?_
        · cases i with
          | zero =>
            refine .is (.w (.and (k' := false) (ET.lend (n := 1) rfl (.cmp (.gt (.lenL B.len (.var (i := 1) rfl)) .int))) fun h => ?_)) ?_
            · cases h
            · rfl
          | succ i =>
            obtain ⟨r0, q0⟩ : ∃ r0, rs[i]? = some r0 := ⟨_, List.getElem?_eq_getElem (by have := (List.getElem?_eq_some_iff.mp q).1; omega)⟩
            have okr0 := ok.ok r0 (List.mem_of_getElem? q0)
            have hlast : atI ((rs.take (i + 1)).map eGr) (-1) = some (eGr r0) := atI_last (by rw [List.getLast?_map, last_take q0]; rfl)
            have hne : eqd (p2 r0) (p2 r) = false := eqd_ne (nobl_p2 okr0) (nobl_p2 okr) (p2_ne (ok.next q0 q))
            refine .is (.w (.and (ET.lend (n := 1) rfl (.cmp (.gt (.lenL B.len (.var (i := 1) rfl)) .int))) fun h => .and1 (ET.lend (n := 1) rfl (.cmp (.eqD hr (x := p2 r0) (y := p2 r) (.is (.tTo (n := 2) (.ixL (.var (i := 1) rfl) (.neg .int) hlast) .int) rfl) (.tup (.cons (.var (i := 2) rfl) (.one (.var (i := 3) rfl)))) (plain_of _ (nobl_p2 okr0)) (plain_of _ (nobl_p2 okr)) (dep_p2 _) (dep_p2 _)))))) ?_
            rw [hne]
            simp
        · exact .app (i := 1) (d := eGr r) rfl (.tup (.cons (.var (i := 2) rfl) (.cons (.var (i := 3) rfl) (.cons (.var (i := 4) rfl) (.one (.tup (.one (.var (i := 5) rfl)))))))) rfl hz (.nil (.nil ⟨.dat (eN r.nm), .dat (.str r.kd), .dat (.int r.ag), .dat r.dt, by rw [et]; rfl, rfl, rfl, rfl, rfl⟩))
    · obtain ⟨e2, e3, e4, e5, rfl, _⟩ := hI
      refine .ret (.own (i := 1) rfl) ?_
      show Dt.lst _ = Dt.lst _
      rw [List.length_map, List.take_length])
end Rw
namespace Rw
open PySem PySem.Spec PyProof.Rows L2
abbrev s_is_integer : Stmt := topS 48
abbrev s_is_count : Stmt := topS 49
abbrev s_is_node : Stmt := topS 50
abbrev s_is_policy : Stmt := topS 51
abbrev s_need_moment : Stmt := topS 52
abbrev s_need_asked : Stmt := topS 53
abbrev s_need_kind : Stmt := topS 54
abbrev s_need_policy : Stmt := topS 55
abbrev s_span_of : Stmt := topS 57
abbrev s_has_moments : Stmt := topS 59
abbrev s_need_timeline : Stmt := topS 60
abbrev s_force_index : Stmt := topS 61
abbrev s_last_force : Stmt := topS 62
abbrev s_got_moments : Stmt := topS 63
abbrev s_told_values : Stmt := topS 64
abbrev s_may_tell : Stmt := topS 65
variable {P : Program} {w : World} {K : PySem.W.Frag} {mg : Str → Option Value} {base : Heap}
theorem sc_is_integer : FnScope ["value"] ["value"] (defScope s_is_integer) := ⟨rfl, rfl, rfl, by decide, rfl, by decide, by decide⟩
abbrev rInt : List Dt → Dt → Prop := fun ds d => ∃ i : Int, ds = [.int i] ∧ d = .bl true
theorem is_integer_ok (B : Bs mg) (F : Fn K mg "is_integer" s_is_integer) : DefOk P w K mg base "is_integer" 1 1 (spD P w K 1 rInt) :=
  defOk ["value"] ["value"] F sc_is_integer rfl (fun _ _ _ _ _ _ us h => by
    match us, h with
    | [_], _ => rfl) (by
    rintro fa cdv A outer s' H E hr ds d hl ⟨i, rfl, rfl⟩
    exact .ret (.and (.isInt B (.var (i := 0) rfl)) fun _ => .one (.not (.noBool B (.var (i := 0) rfl)))) rfl)
abbrev rCount : List Dt → Dt → Prop := fun ds d => ∃ i : Int, ds = [.int i] ∧ 0 ≤ i ∧ d = .bl true
theorem sc_is_count : FnScope ["value"] ["value"] (defScope s_is_count) := ⟨rfl, rfl, rfl, by decide, rfl, by decide, by decide⟩
theorem is_count_ok (DI : DefOk P w K mg base "is_integer" 1 1 (spD P w K 1 rInt)) (F : Fn K mg "is_count" s_is_count) : DefOk P w K mg base "is_count" 2 1 (spD P w K 1 rCount) :=
  defOk ["value"] ["value"] F sc_is_count rfl (fun _ _ _ _ _ _ us h => by
    match us, h with
    | [_], _ => rfl) (by
    rintro fa cdv A outer s' H E hr ds d hl ⟨i, rfl, h0, rfl⟩
    exact .ret (.and (.call DI hr (.one (.var (i := 0) rfl)) ⟨i, rfl, rfl⟩) fun _ => .one (.cmp (.ge (.var (i := 0) rfl) .int))) (by show Dt.bl _ = _; simp [h0]))
def LETTERS : Str := "abcdefghijklmnopqrstuvwxyz"
theorem sc_is_node : FnScope ["value", "sign"] ["value"] (defScope s_is_node) := ⟨rfl, rfl, rfl, by decide, rfl, by decide, by decide⟩
theorem letters_all : ∀ c, 97 ≤ c → c ≤ 122 → c ∈ LETTERS.cps.toList := by
  intro c h1 h2
  have h : ∀ k : _root_.Fin 26, (97 + k.val) ∈ LETTERS.cps.toList := by decide +kernel
  have := h ⟨c - 97, by omega⟩
  simpa [show 97 + (c - 97) = c by omega] using this
theorem is_node_ok (B : Bs mg) (hL : GStr mg "LETTERS" LETTERS) (F : Fn K mg "is_node" s_is_node) : DefOk P w K mg base "is_node" 1 1 (spD P w K 1 rNodeT) :=
  defOk ["value", "sign"] ["value"] F sc_is_node rfl (fun _ _ _ _ _ _ us h => by
    match us, h with
    | [_], _ => rfl) (by
    rintro fa cdv A outer s' H E hr ds d hl ⟨s, rfl, ok, rfl⟩
    have hz : s.length ≤ sizeLine := Nat.le_trans ok.hi (by decide)
    refine .skip (.w (.or (.not (.val (.isStr B (.var (i := 0) rfl)))) fun _ => .or1 (.not (.leLe .int (.lenS B.len (.var (i := 0) rfl) hz) .int)))) ?_ ?_
    · have h1 := ok.lo
      have h2 := ok.hi
      simp
      omega
    refine .ret (.all (bs := (signs s).filterMap fun _ => some true) rfl B.all (.is (.lcF [("sign", 1)] [1] (fun _ => some (.bl true)) rfl sc_is_node.nd (.str (.var (i := 0) rfl)) (by unfold signs; rw [List.length_map, Array.length_toList]; exact Nat.lt_of_le_of_lt ok.hi (by decide)) fun d hd => ?_) ?_)) ?_
    · unfold signs at hd
      obtain ⟨c, hc, rfl⟩ := List.mem_map.mp hd
      have h1 := ok.sg c hc
      exact .map (fun _ _ _ _ _ => .name sc_is_node.nd) (Agree.wiped.set (by decide)) rfl fun _ _ _ _ _ => .is (.cmp (.inSign (.var (i := 1) rfl) (.gStr hL))) (by simp [letters_all c h1.1 h1.2])
    · rw [List.map_filterMap]
      simp
    · show Dt.bl _ = Dt.bl _
      simp)
def ePol (lo hi : Int) : Dt := .tup [.int lo, .int hi]
structure OkPol (lo hi : Int) : Prop where
  a : 0 ≤ lo
  b : lo ≤ hi
  c : 1 ≤ hi
abbrev rPol (r : Dt) : List Dt → Dt → Prop := fun ds d => ∃ lo hi, ds = [ePol lo hi] ∧ OkPol lo hi ∧ d = r
theorem sc_is_policy : FnScope ["value"] ["value"] (defScope s_is_policy) := ⟨rfl, rfl, rfl, by decide, rfl, by decide, by decide⟩
theorem is_policy_ok (B : Bs mg) (DC : DefOk P w K mg base "is_count" 2 1 (spD P w K 1 rCount)) (F : Fn K mg "is_policy" s_is_policy) : DefOk P w K mg base "is_policy" 3 1 (spD P w K 1 (rPol (.bl true))) :=
  defOk ["value"] ["value"] F sc_is_policy rfl (fun _ _ _ _ _ _ us h => by
    match us, h with
    | [_], _ => rfl) (by
    rintro fa cdv A outer s' H E hr ds d hl ⟨lo, hi, rfl, ok, rfl⟩
    refine .skip (.w (.or (.not (.val (.isTup B (.var (i := 0) rfl)))) fun _ => .or1 (.cmp (.neI (.lenT B.len (.var (i := 0) rfl)) .int)))) rfl ?_
    refine .skip (.w (.or (.not (.val (.call DC hr (.one (.ixT (.var (i := 0) rfl) .int rfl)) ⟨lo, rfl, ok.a, rfl⟩))) fun _ => .or1 (.not (.val (.call DC hr (.one (.ixT (.var (i := 0) rfl) .int rfl)) ⟨hi, rfl, by have := ok.c; omega, rfl⟩))))) rfl ?_
    exact .ret (.and (.cmp (.le (.ixT (.var (i := 0) rfl) .int rfl) (.ixT (.var (i := 0) rfl) .int rfl))) fun _ => .one (.cmp (.ge (.ixT (.var (i := 0) rfl) .int rfl) .int))) (by show Dt.bl _ = _; simp [ok.b, ok.c]))
abbrev rMom : List Dt → Dt → Prop := fun ds d => ∃ i : Int, ds = [.int i] ∧ 0 ≤ i ∧ d = .non
theorem sc_need_moment : FnScope ["value"] ["value"] (defScope s_need_moment) := ⟨rfl, rfl, rfl, by decide, rfl, by decide, by decide⟩
theorem need_moment_ok (DC : DefOk P w K mg base "is_count" 2 1 (spD P w K 1 rCount)) (F : Fn K mg "need_moment" s_need_moment) : DefOk P w K mg base "need_moment" 3 1 (spD P w K 1 rMom) :=
  defOk ["value"] ["value"] F sc_need_moment rfl (fun _ _ _ _ _ _ us h => by
    match us, h with
    | [_], _ => rfl) (by
    rintro fa cdv A outer s' H E hr ds d hl ⟨i, rfl, h0, rfl⟩
    exact .skip (.not (.val (.call DC hr (.one (.var (i := 0) rfl)) ⟨i, rfl, h0, rfl⟩))) rfl (.nil rfl))
abbrev rNName : List Dt → Dt → Prop := fun ds d => ∃ n, ds = [eN n] ∧ OkN n ∧ n.length ≤ 1000 ∧ d = .non
theorem sc_need_asked : FnScope ["name"] ["name"] (defScope s_need_asked) := ⟨rfl, rfl, rfl, by decide, rfl, by decide, by decide⟩
theorem need_asked_ok (DA : DefOk P w K mg base "is_asked" 3 1 (spD P w K 1 rName)) (F : Fn K mg "need_asked" s_need_asked) : DefOk P w K mg base "need_asked" 4 1 (spD P w K 1 rNName) :=
  defOk ["name"] ["name"] F sc_need_asked rfl (fun _ _ _ _ _ _ us h => by
    match us, h with
    | [_], _ => rfl) (by
    rintro fa cdv A outer s' H E hr ds d hl ⟨n, rfl, h0, h1, rfl⟩
    exact .skip (.not (.val (.call DA hr (.one (.var (i := 0) rfl)) ⟨n, rfl, h0, h1, rfl⟩))) rfl (.nil rfl))
abbrev rNKind : List Dt → Dt → Prop := fun ds d => ∃ s, ds = [.str s] ∧ KINDS.contains s = true ∧ d = .non
theorem sc_need_kind : FnScope ["kind"] ["kind"] (defScope s_need_kind) := ⟨rfl, rfl, rfl, by decide, rfl, by decide, by decide⟩
theorem need_kind_ok (DA : DefOk P w K mg base "is_kind" 1 1 (spD P w K 1 rKind)) (F : Fn K mg "need_kind" s_need_kind) : DefOk P w K mg base "need_kind" 2 1 (spD P w K 1 rNKind) :=
  defOk ["kind"] ["kind"] F sc_need_kind rfl (fun _ _ _ _ _ _ us h => by
    match us, h with
    | [_], _ => rfl) (by
    rintro fa cdv A outer s' H E hr ds d hl ⟨n, rfl, h0, rfl⟩
    exact .skip (.not (.val (.call DA hr (.one (.var (i := 0) rfl)) ⟨n, rfl, h0, rfl⟩))) rfl (.nil rfl))
theorem sc_need_policy : FnScope ["policy"] ["policy"] (defScope s_need_policy) := ⟨rfl, rfl, rfl, by decide, rfl, by decide, by decide⟩
theorem need_policy_ok (DA : DefOk P w K mg base "is_policy" 3 1 (spD P w K 1 (rPol (.bl true)))) (F : Fn K mg "need_policy" s_need_policy) : DefOk P w K mg base "need_policy" 4 1 (spD P w K 1 (rPol .non)) :=
  defOk ["policy"] ["policy"] F sc_need_policy rfl (fun _ _ _ _ _ _ us h => by
    match us, h with
    | [_], _ => rfl) (by
    rintro fa cdv A outer s' H E hr ds d hl ⟨lo, hi, rfl, h0, rfl⟩
    exact .skip (.not (.val (.call DA hr (.one (.var (i := 0) rfl)) ⟨lo, hi, rfl, h0, rfl⟩))) rfl (.nil rfl))
def spanOf (lo hi a : Int) : Int := if a = 0 then 0 else min hi (max a lo)
theorem min_is (i j : Int) : (if j < i then j else i) = min i j := by omega
theorem max_is (i j : Int) : (if j > i then j else i) = max i j := by omega
abbrev rSpan : List Dt → Dt → Prop := fun ds d => ∃ lo hi a, ds = [ePol lo hi, .int a] ∧ d = .int (spanOf lo hi a)
theorem sc_span_of : FnScope ["policy", "age"] ["policy", "age"] (defScope s_span_of) := ⟨rfl, rfl, rfl, by decide, rfl, by decide, by decide⟩
theorem span_of_ok (B : Bs mg) (F : Fn K mg "span_of" s_span_of) : DefOk P w K mg base "span_of" 1 2 (spD P w K 2 rSpan) :=
  defOk ["policy", "age"] ["policy", "age"] F sc_span_of rfl (fun _ _ _ _ _ _ us h => by
    match us, h with
    | [_, _], _ => rfl) (by
    rintro fa cdv A outer s' H E hr ds d hl ⟨lo, hi, a, rfl, rfl⟩
    refine .when (.cmp (.eqI (.var (i := 1) rfl) .int)) (fun h => .ret .int ?_) fun h => .ret (.min2 rfl B.min (.cons (.ixT (.var (i := 0) rfl) .int rfl) (.one (.max2 rfl B.max (.cons (.var (i := 1) rfl) (.one (.ixT (.var (i := 0) rfl) .int rfl))))))) ?_
    · show Dt.int _ = _
      unfold spanOf
      rw [if_pos (of_decide_eq_true h)]
    · show Dt.int _ = _
      unfold spanOf
      rw [if_neg (of_decide_eq_false h), min_is, max_is])
end Rw
namespace Rw
open PySem PySem.Spec PyProof.Rows L2
variable {P : Program} {w : World} {K : PySem.W.Frag} {mg : Str → Option Value} {base : Heap}

/-! ### timelines -/
abbrev GE := Int × Int × Dt
def eGE (e : GE) : Dt := .tup [.int e.1, .int e.2.1, e.2.2]
def eGT (t : List GE) : Dt := .lst (t.map eGE)
structure OkGT (t : List GE) : Prop where
  ne : t ≠ []
  lz : t.length ≤ 60
  h0 : ∀ e, t[0]? = some e → e.1 = 0
  m0 : ∀ e ∈ t, 0 ≤ e.1 ∧ 0 ≤ e.2.1
  up : ∀ i e e', t[i]? = some e → t[i + 1]? = some e' → e.1 < e'.1
  nb : ∀ e ∈ t, nobl e.2.2 = true ∧ dep e.2.2 ≤ 60
theorem gt_at {t : List GE} {i : Nat} {e : GE} (h : t[i]? = some e) : atI (t.map eGE) (i : Int) = some (eGE e) := atI_nat (by rw [List.getElem?_map, h]; rfl)
theorem gt_size {t : List GE} (h : t.length ≤ 60) : (t.map eGE).length < sizeLine := by rw [List.length_map, sizeLine_eq]; omega
abbrev rHas : List Dt → Dt → Prop := fun ds d => ∃ t, ds = [eGT t] ∧ OkGT t ∧ d = .bl true
theorem sc_has_moments : FnScope ["value", "entry", "at"] ["value"] (defScope s_has_moments) := ⟨rfl, rfl, rfl, by decide, rfl, by decide, by decide⟩
theorem has_moments_ok (B : Bs mg) (DC : DefOk P w K mg base "is_count" 2 1 (spD P w K 1 rCount)) (F : Fn K mg "has_moments" s_has_moments) : DefOk P w K mg base "has_moments" 3 1 (spD P w K 1 rHas) :=
  defOk ["value", "entry", "at"] ["value"] F sc_has_moments rfl (fun _ _ _ _ _ _ us h => by
    match us, h with
    | [_], _ => rfl) (by
    rintro fa cdv A outer s' H E hr ds d hl ⟨t, rfl, ok, rfl⟩
    obtain ⟨e0, q0⟩ : ∃ e0, t[0]? = some e0 := ⟨_, List.getElem?_eq_getElem (List.length_pos_iff.mpr ok.ne)⟩
    refine .skip (.w (.or (.not (.val (.isLst B (.var (i := 0) rfl)))) fun _ => .or1 (.cmp (.eqI (.lenL B.len (.var (i := 0) rfl)) .int)))) ?_ ?_
    · have := List.length_pos_iff.mpr ok.ne
      simp
      exact ok.ne
    refine .for rfl (.list (.var (i := 0) rfl)) (fun i ρ => ∃ e, ρ = [.dat (eGT t), e, .un] ∧ isOwn e = false) ⟨.un, rfl, rfl⟩ (fun i d ρ hi hI => ?_) (fun ρ hI => ?_)
    · obtain ⟨e, rfl, _⟩ := hI
      obtain ⟨g, hg, rfl⟩ := List.mem_map.mp (List.mem_of_getElem? hi)
      have hm := ok.m0 g hg
      exact ⟨_, _, .name (i := 1) sc_has_moments.nd, .skip (.w (.or (.not (.val (.isTup B (.var (i := 1) rfl)))) fun _ => .or (.cmp (.neI (.lenT B.len (.var (i := 1) rfl)) .int)) fun _ => .or (.not (.val (.call DC hr (.one (.ixT (.var (i := 1) rfl) .int rfl)) ⟨g.1, rfl, hm.1, rfl⟩))) fun _ => .or1 (.not (.val (.call DC hr (.one (.ixT (.var (i := 1) rfl) .int rfl)) ⟨g.2.1, rfl, hm.2, rfl⟩))))) rfl (.nil ⟨_, rfl, rfl⟩)⟩
    · obtain ⟨e, rfl, he⟩ := hI
      refine .skip (.cmp (.neI (.ixT (.ixL (.var (i := 0) rfl) .int (gt_at (i := 0) q0)) .int rfl) .int)) (by simp [ok.h0 e0 q0]) ?_
      refine .ret (.all (bs := (List.range (t.length - 1)).map fun _ => true) rfl B.all (.is (.lcF [("at", 2)] [2] (fun _ => some (.bl true)) rfl sc_has_moments.nd (.range B.range (.sub (.lenL B.len (.var (i := 0) rfl)) .int) (by have := ok.lz; rw [List.length_map]; omega) (by have := ok.lz; rw [List.length_map]; omega)) ?_ fun d hd => ?_) ?_)) ?_
      · unfold intsTo
        have := ok.lz
        rw [List.length_map, List.length_range, List.length_map, sizeLine_eq]
        omega
      · unfold intsTo at hd
        obtain ⟨k, hk, rfl⟩ := List.mem_map.mp hd
        rw [List.mem_range, List.length_map] at hk
        obtain ⟨e1, h1⟩ : ∃ e1, t[k]? = some e1 := ⟨_, List.getElem?_eq_getElem (by omega)⟩
        obtain ⟨e2, h2⟩ : ∃ e2, t[k + 1]? = some e2 := ⟨_, List.getElem?_eq_getElem (by omega)⟩
        exact .map (fun _ _ _ _ _ => .name sc_has_moments.nd) (Agree.wiped.set (by decide)) rfl fun _ _ _ _ _ => .is (.cmp (.lt (.ixT (.ixL (.var (i := 0) rfl) (.var (i := 2) rfl) (gt_at h1)) .int rfl) (.ixT (.ixL (.var (i := 0) rfl) (.add (.var (i := 2) rfl) .int) (gt_at (i := k + 1) h2)) .int rfl))) (by simp [ok.up k e1 e2 h1 h2])
      · unfold intsTo
        rw [List.filterMap_map, List.map_map, List.length_map]
        refine congrArg Dt.lst ?_
        have e3 : ((t.length : Int) - 1).toNat = t.length - 1 := by omega
        rw [e3]
        exact congrFun (List.filterMap_eq_map (f := fun _ : Nat => Dt.bl true)) _
      · show Dt.bl _ = Dt.bl _
        simp)
abbrev rNTl : List Dt → Dt → Prop := fun ds d => ∃ t, ds = [eGT t] ∧ OkGT t ∧ (∀ e ∈ t, ∃ s, e.2.2 = .str s ∧ OkNode s) ∧ d = .non
theorem sc_need_timeline : FnScope ["timeline", "entry"] ["timeline"] (defScope s_need_timeline) := ⟨rfl, rfl, rfl, by decide, rfl, by decide, by decide⟩
theorem need_timeline_ok (B : Bs mg) (DH : DefOk P w K mg base "has_moments" 3 1 (spD P w K 1 rHas)) (DN : DefOk P w K mg base "is_node" 1 1 (spD P w K 1 rNodeT)) (F : Fn K mg "need_timeline" s_need_timeline) : DefOk P w K mg base "need_timeline" 4 1 (spD P w K 1 rNTl) :=
  defOk ["timeline", "entry"] ["timeline"] F sc_need_timeline rfl (fun _ _ _ _ _ _ us h => by
    match us, h with
    | [_], _ => rfl) (by
    rintro fa cdv A outer s' H E hr ds d hl ⟨t, rfl, ok, hn, rfl⟩
    refine .skip (.w (.or (.not (.val (.call DH hr (.one (.var (i := 0) rfl)) ⟨t, rfl, ok, rfl⟩))) fun _ => .or1 (.not (.val (.all (bs := t.map fun _ => true) rfl B.all (.is (.lcF [("entry", 1)] [1] (fun _ => some (.bl true)) rfl sc_need_timeline.nd (.list (.var (i := 0) rfl)) (gt_size ok.lz) fun d hd => ?_) ?_)))))) ?_ (.nil rfl)
    · obtain ⟨g, hg, rfl⟩ := List.mem_map.mp hd
      obtain ⟨s, hs, okn⟩ := hn g hg
      exact .map (fun _ _ _ _ _ => .name sc_need_timeline.nd) (Agree.wiped.set (by decide)) rfl fun _ _ _ _ _ => .call DN (hr.mono (by decide)) (.one (.ixT (d := .str s) (.var (i := 1) rfl) .int (by rw [← hs]; rfl))) ⟨s, rfl, okn, rfl⟩
    · rw [List.filterMap_map, List.map_map]
      exact congrArg Dt.lst (congrFun (List.filterMap_eq_map (f := fun _ : GE => Dt.bl true)) _)
    · simp)
/-- the place of what is in force -/
def fIx (t : List GE) (mo : Int) : Nat := ((t.drop 1).takeWhile fun e => decide (e.1 ≤ mo)).length
theorem tw_get {α : Type} {p : α → Bool} : ∀ {l : List α} {k : Nat}, k < (l.takeWhile p).length → ∃ a, l[k]? = some a ∧ p a = true
  | [], _, h => by simp at h
  | x :: l, k, h => by
    rw [List.takeWhile_cons] at h
    by_cases hp : p x = true
    · rw [if_pos hp] at h
      cases k with
      | zero => exact ⟨x, rfl, hp⟩
      | succ k =>
        obtain ⟨a, h1, h2⟩ := tw_get (l := l) (k := k) (by simpa using h)
        exact ⟨a, by simpa using h1, h2⟩
    · rw [if_neg hp] at h; simp at h
theorem tw_end {α : Type} {p : α → Bool} : ∀ {l : List α} {a : α}, l[(l.takeWhile p).length]? = some a → p a = false
  | [], _, h => by simp at h
  | x :: l, a, h => by
    rw [List.takeWhile_cons] at h
    by_cases hp : p x = true
    · rw [if_pos hp] at h
      exact tw_end (l := l) (by simpa using h)
    · rw [if_neg hp] at h
      simp at h
      subst h
      simpa using hp
theorem fIx_lt {t : List GE} {mo : Int} {k : Nat} (h : k < fIx t mo) : ∃ e, t[k + 1]? = some e ∧ e.1 ≤ mo := by
  obtain ⟨e, h1, h2⟩ := tw_get h
  rw [List.getElem?_drop] at h1
  exact ⟨e, by rw [Nat.add_comm]; exact h1, of_decide_eq_true h2⟩
theorem fIx_end {t : List GE} {mo : Int} {e : GE} (h : t[fIx t mo + 1]? = some e) : ¬ e.1 ≤ mo := by
  have := tw_end (p := fun e : GE => decide (e.1 ≤ mo)) (l := t.drop 1) (a := e) (by rw [List.getElem?_drop, Nat.add_comm]; exact h)
  exact of_decide_eq_false this
theorem fIx_size {t : List GE} {mo : Int} (h : t ≠ []) : fIx t mo < t.length := by
  have h1 : fIx t mo ≤ (t.drop 1).length := (List.takeWhile_sublist _).length_le
  have h2 := List.length_pos_iff.mpr h
  rw [List.length_drop] at h1
  omega
abbrev rFI : List Dt → Dt → Prop := fun ds d => ∃ t mo, ds = [eGT t, .int mo] ∧ OkGT t ∧ d = .int (fIx t mo : Nat)
theorem sc_force_index : FnScope ["timeline", "moment", "at"] ["timeline", "moment"] (defScope s_force_index) := ⟨rfl, rfl, rfl, by decide, rfl, by decide, by decide⟩
theorem force_index_ok (B : Bs mg) (F : Fn K mg "force_index" s_force_index) : DefOk P w K mg base "force_index" 1 2 (spD P w K 2 rFI) :=
  defOk ["timeline", "moment", "at"] ["timeline", "moment"] F sc_force_index rfl (fun _ _ _ _ _ _ us h => by
    match us, h with
    | [_, _], _ => rfl) (by
    rintro fa cdv A outer s' H E hr ds d hl ⟨t, mo, rfl, ok, rfl⟩
    refine .asg (i := 2) .int ?_ sc_force_index.nd
    refine .while (fun m ρ => ∃ k, k + m = fIx t mo ∧ ρ = [.dat (eGT t), .dat (.int mo), .dat (.int (k : Nat))]) (fIx t mo) ⟨0, by omega, rfl⟩ fun m ρ hI => ?_
    obtain ⟨k, hk, rfl⟩ := hI
    have hfs := fIx_size (mo := mo) ok.ne
    refine ⟨decide (0 < m), [.dat (eGT t), .dat (.int mo), .dat (.int (k : Nat))], ?_, fun hb => ?_, fun hb => ?_⟩
    · cases hlt : t[k + 1]? with
      | some e =>
        have hl := (List.getElem?_eq_some_iff.mp hlt).1
        refine .is (.w (.and (.cmp (.lt (.add (.var (i := 2) rfl) .int) (.lenL B.len (.var (i := 0) rfl)))) fun _ => .and1 (.cmp (.le (.ixT (.ixL (.var (i := 0) rfl) (.add (.var (i := 2) rfl) .int) (gt_at (i := k + 1) hlt)) .int rfl) (.var (i := 1) rfl))))) ?_
        rw [List.length_map]
        have h1 : decide (((k : Nat) : Int) + 1 < (t.length : Nat)) = true := decide_eq_true (by omega)
        rw [h1, Bool.true_and]
        by_cases hm : 0 < m
        · obtain ⟨e', h2, h3⟩ := fIx_lt (t := t) (mo := mo) (k := k) (by omega)
          rw [hlt] at h2
          cases h2
          rw [decide_eq_true hm]
          exact decide_eq_true h3
        · have e0 : k = fIx t mo := by omega
          rw [decide_eq_false hm]
          exact decide_eq_false (fIx_end (t := t) (mo := mo) (e := e) (by rw [← e0]; exact hlt))
      | none =>
        have hl := List.getElem?_eq_none_iff.mp hlt
        refine .is (.w (.and (k' := false) (.cmp (.lt (.add (.var (i := 2) rfl) .int) (.lenL B.len (.var (i := 0) rfl)))) fun h => ?_)) ?_
        · rw [List.length_map] at h
          have := of_decide_eq_true h
          omega
        · rw [Bool.and_false]
          exact (decide_eq_false (by omega)).symm
    · have := of_decide_eq_true hb
      exact .aug (i := 2) rfl .int (.nil ⟨m - 1, by omega, k + 1, by omega, rfl⟩) sc_force_index.nd
    · have := of_decide_eq_false hb
      have e0 : k = fIx t mo := by omega
      subst e0
      exact .ret (.var (i := 2) rfl) rfl)
def lastF (t : List GE) (i : Nat) (mo : Int) : Int := match t[i + 1]? with
  | some e => min mo (e.1 - 1)
  | none => mo
abbrev rLF : List Dt → Dt → Prop := fun ds d => ∃ t i mo, ds = [eGT t, .int (i : Nat), .int mo] ∧ d = .int (lastF t i mo)
theorem sc_last_force : FnScope ["timeline", "index", "moment"] ["timeline", "index", "moment"] (defScope s_last_force) := ⟨rfl, rfl, rfl, by decide, rfl, by decide, by decide⟩
theorem last_force_ok (B : Bs mg) (F : Fn K mg "last_force" s_last_force) : DefOk P w K mg base "last_force" 1 3 (spD P w K 3 rLF) :=
  defOk ["timeline", "index", "moment"] ["timeline", "index", "moment"] F sc_last_force rfl (fun _ _ _ _ _ _ us h => by
    match us, h with
    | [_, _, _], _ => rfl) (by
    rintro fa cdv A outer s' H E hr ds d hl ⟨t, i, mo, rfl, rfl⟩
    refine .when (.cmp (.lt (.add (.var (i := 1) rfl) .int) (.lenL B.len (.var (i := 0) rfl)))) (fun h => ?_) fun h => .ret (.var (i := 2) rfl) ?_
    · have h' := of_decide_eq_true h
      rw [List.length_map] at h'
      obtain ⟨e, he⟩ : ∃ e, t[i + 1]? = some e := ⟨_, List.getElem?_eq_getElem (by omega)⟩
      refine .ret (.min2 rfl B.min (.cons (.var (i := 2) rfl) (.one (.sub (.ixT (.ixL (.var (i := 0) rfl) (.add (.var (i := 1) rfl) .int) (gt_at (i := i + 1) he)) .int rfl) .int)))) ?_
      show Dt.int _ = _
      unfold lastF
      rw [he, min_is]
    · have h' := of_decide_eq_false h
      rw [List.length_map] at h'
      show Dt.int _ = _
      unfold lastF
      rw [List.getElem?_eq_none (by omega)])

/-! ### what may be told -/
def agAt (t : List GE) (i : Nat) : Int := match t[i]? with
  | some e => e.2.1
  | none => 0
def vlAt (t : List GE) (i : Nat) : Dt := match t[i]? with
  | some e => e.2.2
  | none => .non
def gotB (t : List GE) (lo hi mo : Int) (i : Nat) : Bool := decide (i = fIx t mo) || decide (mo < lastF t i mo + spanOf lo hi (agAt t i))
def gotL (t : List GE) (lo hi mo : Int) : List Nat := (List.range (fIx t mo + 1)).filter (gotB t lo hi mo)
def eGot (t : List GE) (mo : Int) (i : Nat) : Dt := .tup [.int (i : Nat), .int (lastF t i mo)]
theorem range_get {n i : Nat} (h : i < n) : (List.range n)[i]? = some i := by rw [List.getElem?_range h]
theorem range_take (n i : Nat) (h : i ≤ n) : (List.range n).take i = List.range i := by
  rw [List.take_range, Nat.min_eq_left h]
abbrev rGM : List Dt → Dt → Prop := fun ds d => ∃ t lo hi mo, ds = [eGT t, ePol lo hi, .int mo] ∧ OkGT t ∧ d = .lst ((gotL t lo hi mo).map (eGot t mo))
theorem sc_got_moments : FnScope ["timeline", "policy", "moment", "now", "found", "at", "got"] ["timeline", "policy", "moment"] (defScope s_got_moments) := ⟨rfl, rfl, rfl, by decide, rfl, by decide, by decide⟩
theorem got_moments_ok (B : Bs mg) (DI : DefOk P w K mg base "force_index" 1 2 (spD P w K 2 rFI)) (DL : DefOk P w K mg base "last_force" 1 3 (spD P w K 3 rLF)) (DS : DefOk P w K mg base "span_of" 1 2 (spD P w K 2 rSpan)) (F : Fn K mg "got_moments" s_got_moments) : DefOk P w K mg base "got_moments" 2 3 (spD P w K 3 rGM) :=
  defOk ["timeline", "policy", "moment", "now", "found", "at", "got"] ["timeline", "policy", "moment"] F sc_got_moments rfl (fun _ _ _ _ _ _ us h => by
    match us, h with
    | [_, _, _], _ => rfl) (by
    rintro fa cdv A outer s' H E hr ds d hl ⟨t, lo, hi, mo, rfl, ok, rfl⟩
    have hfs := fIx_size (mo := mo) ok.ne
    have hlz := ok.lz
    refine .asg (i := 3) (.call DI hr (.cons (.var (i := 0) rfl) (.one (.var (i := 2) rfl))) ⟨t, mo, rfl, ok, rfl⟩) ?_ sc_got_moments.nd
    refine .newL (i := 4) ?_ sc_got_moments.nd
    refine .for rfl (.range B.range (.add (.var (i := 3) rfl) .int) (by omega) (by omega)) (fun i ρ => ∃ e5 e6, ρ = [.dat (eGT t), .dat (ePol lo hi), .dat (.int mo), .dat (.int (fIx t mo : Nat)), .ol (((List.range i).filter (gotB t lo hi mo)).map (eGot t mo)), e5, e6] ∧ isOwn e5 = false ∧ isOwn e6 = false) ⟨.un, .un, rfl, rfl, rfl⟩ (fun i d ρ hi' hI => ?_) (fun ρ hI => ?_)
    · obtain ⟨e5, e6, rfl, _⟩ := hI
      unfold intsTo at hi'
      rw [List.getElem?_map] at hi'
      have e0 : ((fIx t mo : Int) + 1).toNat = fIx t mo + 1 := by omega
      rw [e0] at hi'
      cases q : (List.range (fIx t mo + 1))[i]? with
      | none => rw [q] at hi'; cases hi'
      | some k =>
        rw [q] at hi'
        cases hi'
        obtain ⟨h1, h2⟩ := List.getElem?_eq_some_iff.mp q
        rw [List.length_range] at h1
        rw [List.getElem_range] at h2
        subst h2
        obtain ⟨e, he⟩ : ∃ e, t[i]? = some e := ⟨_, List.getElem?_eq_getElem (by omega)⟩
        have hag : agAt t i = e.2.1 := by unfold agAt; rw [he]
        have hz : (((List.range i).filter (gotB t lo hi mo)).map (eGot t mo)).length < sizeLine := by
          have := List.length_filter_le (gotB t lo hi mo) (List.range i)
          rw [List.length_map, sizeLine_eq]
          rw [List.length_range] at this
          omega
        refine ⟨_, _, .name (i := 5) sc_got_moments.nd, ?_⟩
        refine .asg (i := 6) (.call DL hr (.cons (.var (i := 0) rfl) (.cons (.var (i := 5) rfl) (.one (.var (i := 2) rfl)))) ⟨t, i, mo, rfl, rfl⟩) ?_ sc_got_moments.nd
        refine .when (k := gotB t lo hi mo i) (ρ1 := [.dat (eGT t), .dat (ePol lo hi), .dat (.int mo), .dat (.int (fIx t mo : Nat)), .ol (((List.range i).filter (gotB t lo hi mo)).map (eGot t mo)), .dat (.int (i : Nat)), .dat (.int (lastF t i mo))]) ?_ (fun h => ?_) fun h => ?_
        · refine .is (.w (.or (.cmp (.eqI (.var (i := 5) rfl) (.var (i := 3) rfl))) fun _ => .or1 (.cmp (.lt (.var (i := 2) rfl) (.add (.var (i := 6) rfl) (.call DS hr (.cons (.var (i := 1) rfl) (.one (.ixT (.ixL (.var (i := 0) rfl) (.var (i := 5) rfl) (gt_at he)) .int rfl))) ⟨lo, hi, e.2.1, rfl, rfl⟩)))))) ?_
          unfold gotB
          rw [hag]
          congr 1
          exact decide_eq_decide.mpr (by omega)
        · refine .app (i := 4) (d := eGot t mo i) rfl (.tup (.cons (.var (i := 5) rfl) (.one (.var (i := 6) rfl)))) rfl hz (.nil (.nil ⟨.dat (.int (i : Nat)), .dat (.int (lastF t i mo)), ?_, rfl, rfl⟩))
          rw [List.range_succ, List.filter_append, List.filter_cons, if_pos h, List.filter_nil, List.map_append]
          rfl
        · refine .nil ⟨.dat (.int (i : Nat)), .dat (.int (lastF t i mo)), ?_, rfl, rfl⟩
          rw [List.range_succ, List.filter_append, List.filter_cons, if_neg (by rw [h]; exact Bool.false_ne_true), List.filter_nil, List.append_nil]
    · obtain ⟨e5, e6, rfl, _⟩ := hI
      refine .ret (.own (i := 4) rfl) ?_
      show Dt.lst _ = Dt.lst _
      unfold intsTo
      rw [List.length_map, List.length_range]
      rfl)
theorem rev_ind {α : Type} {P : List α → Prop} (h0 : P []) (hs : ∀ l a, P l → P (l ++ [a])) (l : List α) : P l := by
  have h : ∀ l, P (List.reverse l) := by
    intro l
    induction l with
    | nil => exact h0
    | cons a l ih => rw [List.reverse_cons]; exact hs _ _ ih
  have := h l.reverse
  rwa [List.reverse_reverse] at this
def dedD (xs : List Dt) : List Dt := xs.foldl (fun acc x => if ind x acc = true then acc else acc ++ [x]) []
theorem dedD_snoc (xs : List Dt) (x : Dt) : dedD (xs ++ [x]) = if ind x (dedD xs) = true then dedD xs else dedD xs ++ [x] := by
  unfold dedD
  rw [List.foldl_append]
  rfl
theorem dedD_len : ∀ xs : List Dt, (dedD xs).length ≤ xs.length := by
  refine rev_ind (Nat.le_refl _) fun xs x ih => ?_
  rw [dedD_snoc, List.length_append]
  split
  · simp; omega
  · rw [List.length_append]; simp; omega
theorem dedD_mem : ∀ xs : List Dt, ∀ x ∈ dedD xs, x ∈ xs := by
  refine rev_ind (fun x h => h) fun xs y ih x h => ?_
  rw [dedD_snoc] at h
  split at h
  · exact List.mem_append_left _ (ih x h)
  · rcases List.mem_append.mp h with z | z
    · exact List.mem_append_left _ (ih x z)
    · exact List.mem_append_right _ z
def toldD (t : List GE) (lo hi mo : Int) : List Dt := dedD ((gotL t lo hi mo).map (vlAt t))
theorem gotL_lt {t : List GE} {lo hi mo : Int} (h : t ≠ []) {i : Nat} (hi' : i ∈ gotL t lo hi mo) : i < t.length := by
  have h1 := (List.mem_filter.mp hi').1
  rw [List.mem_range] at h1
  have := fIx_size (mo := mo) h
  omega
theorem vlAt_mem {t : List GE} {i : Nat} (h : i < t.length) : ∃ e ∈ t, t[i]? = some e ∧ vlAt t i = e.2.2 := ⟨_, List.getElem_mem h, List.getElem?_eq_getElem h, by unfold vlAt; rw [List.getElem?_eq_getElem h]⟩
theorem deps_le {n : Nat} : ∀ {xs : List Dt}, (∀ x ∈ xs, dep x ≤ n) → deps xs ≤ n
  | [], _ => Nat.zero_le _
  | x :: xs, h => by
    have h1 := h x (.head _)
    have h2 := deps_le fun y hy => h y (.tail _ hy)
    show max (dep x) (deps xs) ≤ n
    omega
abbrev rTV : List Dt → Dt → Prop := fun ds d => ∃ t lo hi mo, ds = [eGT t, ePol lo hi, .int mo] ∧ OkGT t ∧ d = .lst (toldD t lo hi mo)
theorem sc_told_values : FnScope ["timeline", "policy", "moment", "values", "at", "_"] ["timeline", "policy", "moment"] (defScope s_told_values) := ⟨rfl, rfl, rfl, by decide, rfl, by decide, by decide⟩
theorem told_values_ok (DG : DefOk P w K mg base "got_moments" 2 3 (spD P w K 3 rGM)) (F : Fn K mg "told_values" s_told_values) : DefOk P w K mg base "told_values" 3 3 (spD P w K 3 rTV) :=
  defOk ["timeline", "policy", "moment", "values", "at", "_"] ["timeline", "policy", "moment"] F sc_told_values rfl (fun _ _ _ _ _ _ us h => by
    match us, h with
    | [_, _, _], _ => rfl) (by
    rintro fa cdv A outer s' H E hr ds d hl ⟨t, lo, hi, mo, rfl, ok, rfl⟩
    refine .newL (i := 3) ?_ sc_told_values.nd
    refine .for rfl (.list (.call DG hr (.cons (.var (i := 0) rfl) (.cons (.var (i := 1) rfl) (.one (.var (i := 2) rfl)))) ⟨t, lo, hi, mo, rfl, ok, rfl⟩)) (fun i ρ => ∃ e4 e5, ρ = [.dat (eGT t), .dat (ePol lo hi), .dat (.int mo), .ol (dedD (((gotL t lo hi mo).take i).map (vlAt t))), e4, e5] ∧ isOwn e4 = false ∧ isOwn e5 = false) ⟨.un, .un, rfl, rfl, rfl⟩ (fun i d ρ hi' hI => ?_) (fun ρ hI => ?_)
    · obtain ⟨e4, e5, rfl, _⟩ := hI
      rw [List.getElem?_map] at hi'
      cases q : (gotL t lo hi mo)[i]? with
      | none => rw [q] at hi'; cases hi'
      | some k =>
        rw [q] at hi'
        cases hi'
        have hk := gotL_lt ok.ne (List.mem_of_getElem? q)
        obtain ⟨e, hm, he, hv⟩ := vlAt_mem hk
        have hmem : ∀ x ∈ dedD (((gotL t lo hi mo).take i).map (vlAt t)), nobl x = true ∧ dep x ≤ 60 := by
          intro x hx
          obtain ⟨j, hj, rfl⟩ := List.mem_map.mp (dedD_mem _ x hx)
          obtain ⟨e', hm', _, hv'⟩ := vlAt_mem (gotL_lt ok.ne (List.mem_of_mem_take hj))
          rw [hv']
          exact ok.nb e' hm'
        have et : dedD (((gotL t lo hi mo).take (i + 1)).map (vlAt t)) = if ind e.2.2 (dedD (((gotL t lo hi mo).take i).map (vlAt t))) = true then dedD (((gotL t lo hi mo).take i).map (vlAt t)) else dedD (((gotL t lo hi mo).take i).map (vlAt t)) ++ [e.2.2] := by
          rw [List.take_add_one, q, List.map_append]
          show dedD (_ ++ [vlAt t k]) = _
          rw [dedD_snoc, hv]
        have hz : (dedD (((gotL t lo hi mo).take i).map (vlAt t))).length < sizeLine := by
          have h1 := dedD_len (((gotL t lo hi mo).take i).map (vlAt t))
          have h2 := (List.getElem?_eq_some_iff.mp q).1
          have h3 : (gotL t lo hi mo).length ≤ fIx t mo + 1 := by
            have := List.length_filter_le (gotB t lo hi mo) (List.range (fIx t mo + 1))
            rwa [List.length_range] at this
          have h4 := fIx_size (mo := mo) ok.ne
          have h5 := ok.lz
          rw [List.length_map, List.length_take] at h1
          rw [sizeLine_eq]
          omega
        refine ⟨_, _, .tup rfl (.cons (.name (i := 4) sc_told_values.nd) (.cons (.name (i := 5) sc_told_values.nd) .nil)) rfl, ?_⟩
        refine .when (k := !ind e.2.2 (dedD (((gotL t lo hi mo).take i).map (vlAt t)))) (ρ1 := [.dat (eGT t), .dat (ePol lo hi), .dat (.int mo), .ol (dedD (((gotL t lo hi mo).take i).map (vlAt t))), .dat (.int (k : Nat)), .dat (.int (lastF t k mo))]) ?_ (fun h => ?_) fun h => ?_
        · refine ET.lend (n := 3) rfl (.cmp (.ninD hr (.ixT (.ixL (.var (i := 0) rfl) (.var (i := 4) rfl) (gt_at he)) .int rfl) (.var (i := 3) rfl) (plain_of _ (ok.nb e hm).1) ?_ (Nat.le_trans (ok.nb e hm).2 (by decide)) ?_))
          · refine plains_of _ ?_
            rw [nobls_all, List.all_eq_true]
            exact fun x hx => (hmem x hx).1
          · show deps _ + 1 ≤ 64
            have := deps_le fun x hx => (hmem x hx).2
            omega
        · refine .app (i := 3) rfl (.ixT (.ixL (.var (i := 0) rfl) (.var (i := 4) rfl) (gt_at he)) .int rfl) rfl hz (.nil (.nil ⟨.dat (.int (k : Nat)), .dat (.int (lastF t k mo)), ?_, rfl, rfl⟩))
          rw [et, if_neg (by simpa using h)]
          rfl
        · refine .nil ⟨.dat (.int (k : Nat)), .dat (.int (lastF t k mo)), ?_, rfl, rfl⟩
          rw [et, if_pos (by simpa using h)]
    · obtain ⟨e4, e5, rfl, _⟩ := hI
      refine .ret (.own (i := 3) rfl) ?_
      show Dt.lst _ = Dt.lst _
      rw [List.length_map, List.take_length]
      rfl)
end Rw
namespace Rw
open PySem PySem.Spec PyProof.Rows L2
open PySem.W (dataLe alike alikeAll AllAlike Sortable)
abbrev s_is_part : Stmt := topS 67
abbrev s_is_thread : Stmt := topS 68
abbrev s_need_story : Stmt := topS 69
abbrev s_need_story_name : Stmt := topS 70
abbrev s_part_key : Stmt := topS 71
abbrev s_name_behind : Stmt := topS 72
abbrev s_values_for : Stmt := topS 73
variable {P : Program} {w : World} {K : PySem.W.Frag} {mg : Str → Option Value} {base : Heap}

/-! ### texts sorted -/
def sLe (a b : Str) : Bool := !ltCps b.cps.toList a.cps.toList
theorem ltCps_irrefl : ∀ l : List Nat, ltCps l l = false
  | [] => rfl
  | a :: l => by simp [ltCps, ltCps_irrefl l]
theorem ltCps_total : ∀ a b : List Nat, ltCps a b = false → ltCps b a = false → a = b
  | [], [], _, _ => rfl
  | [], _ :: _, h, _ => by simp [ltCps] at h
  | _ :: _, [], _, h => by simp [ltCps] at h
  | x :: a, y :: b, h1, h2 => by
    simp only [ltCps, Bool.or_eq_false_iff, decide_eq_false_iff_not, Bool.and_eq_false_iff, beq_eq_false_iff_ne] at h1 h2
    have e : x = y := by omega
    subst e
    rw [ltCps_total a b (h1.2.resolve_left (by simp)) (h2.2.resolve_left (by simp))]
theorem ltCps_trans : ∀ a b c : List Nat, ltCps a b = true → ltCps b c = true → ltCps a c = true
  | [], [], _, h, _ => by simp [ltCps] at h
  | [], _ :: _, [], _, h => by simp [ltCps] at h
  | [], _ :: _, _ :: _, _, _ => rfl
  | _ :: _, [], _, h, _ => by simp [ltCps] at h
  | _ :: _, _ :: _, [], _, h => by simp [ltCps] at h
  | x :: a, y :: b, z :: c, h1, h2 => by
    simp only [ltCps, Bool.or_eq_true, decide_eq_true_eq, Bool.and_eq_true, beq_iff_eq] at h1 h2 ⊢
    rcases h1 with h1 | ⟨h1, h1'⟩ <;> rcases h2 with h2 | ⟨h2, h2'⟩
    · left; omega
    · left; omega
    · left; omega
    · right; exact ⟨by omega, ltCps_trans a b c h1' h2'⟩
theorem sLe_trans (a b c : Str) (h1 : sLe a b = true) (h2 : sLe b c = true) : sLe a c = true := by
  unfold sLe at *
  rw [Bool.not_eq_true'] at *
  cases h : ltCps c.cps.toList a.cps.toList with
  | false => rfl
  | true =>
    cases h3 : ltCps b.cps.toList c.cps.toList with
    | true => rw [ltCps_trans _ _ _ h3 h] at h1; cases h1
    | false =>
      have e := ltCps_total _ _ h2 h3
      rw [e, h1] at h; cases h
theorem sLe_total (a b : Str) : (sLe a b || sLe b a) = true := by
  unfold sLe
  cases h1 : ltCps b.cps.toList a.cps.toList with
  | false => rfl
  | true =>
    cases h2 : ltCps a.cps.toList b.cps.toList with
    | false => rfl
    | true =>
      have := ltCps_trans _ _ _ h1 h2
      rw [ltCps_irrefl] at this; cases this
theorem sLe_anti {a b : Str} (h1 : sLe a b = true) (h2 : sLe b a = true) : a = b := by
  unfold sLe at *
  rw [Bool.not_eq_true'] at *
  have := ltCps_total _ _ h2 h1
  cases a; cases b
  exact congrArg Str.mk (Array.toList_inj.mp this)
theorem rising_pair : ∀ (x : Str) (r : List Str), risingS x r = true → (x :: r).Pairwise fun a b => sLe a b = true
  | x, [], _ => List.pairwise_singleton _ _
  | x, y :: r, h => by
    have h' : sLe x y = true ∧ risingS y r = true := by
      have : (!ltCps y.cps.toList x.cps.toList && risingS y r) = true := h
      exact Bool.and_eq_true_iff.mp this
    have ih := rising_pair y r h'.2
    refine List.pairwise_cons.mpr ⟨fun z hz => ?_, ih⟩
    rcases List.mem_cons.mp hz with e | hz
    · subst e; exact h'.1
    · exact sLe_trans _ _ _ h'.1 ((List.pairwise_cons.mp ih).1 z hz)
def sortS (ss : List Str) : List Str := ss.mergeSort sLe
theorem sortS_is {ss ns : List Str} (hp : ns.Perm ss) (hs : sortedS ns = true) : ns = sortS ss := by
  have h1 : ns.Pairwise fun a b => sLe a b = true := by
    cases ns with
    | nil => exact .nil
    | cons x r => exact rising_pair x r hs
  have h2 := List.pairwise_mergeSort sLe_trans (fun a b => by simpa using sLe_total a b) ss
  exact List.Perm.eq_of_pairwise (fun a b _ _ => sLe_anti) h1 h2 (hp.trans (List.mergeSort_perm _ _).symm)
abbrev rMT : List Dt → Dt → Prop := fun ds d => ∃ t lo hi mo ss, ds = [eGT t, ePol lo hi, .int mo] ∧ OkGT t ∧ OkPol lo hi ∧ 0 ≤ mo ∧ (∀ e ∈ t, ∃ s, e.2.2 = .str s ∧ OkNode s) ∧ toldD t lo hi mo = ss.map .str ∧ d = .lst ((sortS ss).map .str)
theorem sc_may_tell : FnScope ["timeline", "policy", "moment"] ["timeline", "policy", "moment"] (defScope s_may_tell) := ⟨rfl, rfl, rfl, by decide, rfl, by decide, by decide⟩
theorem may_tell_ok (B : Bs mg) (DT : DefOk P w K mg base "need_timeline" 4 1 (spD P w K 1 rNTl)) (DP : DefOk P w K mg base "need_policy" 4 1 (spD P w K 1 (rPol .non))) (DM : DefOk P w K mg base "need_moment" 3 1 (spD P w K 1 rMom)) (DV : DefOk P w K mg base "told_values" 3 3 (spD P w K 3 rTV)) (F : Fn K mg "may_tell" s_may_tell) :
    DefOk P w K mg base "may_tell" 5 3 (spD P w K 3 rMT) :=
  defOk ["timeline", "policy", "moment"] ["timeline", "policy", "moment"] F sc_may_tell rfl (fun _ _ _ _ _ _ us h => by
    match us, h with
    | [_, _, _], _ => rfl) (by
    rintro fa cdv A outer s' H E hr ds d hl ⟨t, lo, hi, mo, ss, rfl, ok, okp, h0, hn, hss, rfl⟩
    have hr3 := hr.mono (show 3 ≤ 4 by decide)
    refine .expr (.call DT hr (.one (.var (i := 0) rfl)) ⟨t, rfl, ok, hn, rfl⟩) ?_
    refine .expr (.call DP hr (.one (.var (i := 1) rfl)) ⟨lo, hi, rfl, okp, rfl⟩) ?_
    refine .expr (.call DM hr3 (.one (.var (i := 2) rfl)) ⟨mo, rfl, h0, rfl⟩) ?_
    refine .ret (.sortedS (ss := ss) B.sorted (.is (.call DV hr3 (.cons (.var (i := 0) rfl) (.cons (.var (i := 1) rfl) (.one (.var (i := 2) rfl)))) ⟨t, lo, hi, mo, rfl, ok, rfl⟩) (by rw [hss])) ?_ fun ns hp hs => ?_) rfl
    · have h1 : ss.length = (toldD t lo hi mo).length := by rw [hss, List.length_map]
      have h2 := dedD_len ((gotL t lo hi mo).map (vlAt t))
      have h3 : (gotL t lo hi mo).length ≤ fIx t mo + 1 := by
        have := List.length_filter_le (gotB t lo hi mo) (List.range (fIx t mo + 1))
        rwa [List.length_range] at this
      have h4 := fIx_size (mo := mo) ok.ne
      have h5 := ok.lz
      rw [List.length_map] at h2
      unfold toldD at h1
      omega
    · rw [sortS_is hp hs])

/-! ### stories -/
inductive Vl where
  | rows (s : Str) | to (n : Nm)
  deriving DecidableEq
def eV : Vl → Dt
  | .rows s => .tup [.str "rows", .str s]
  | .to n => .tup [.str "to", eN n]
abbrev Tl := List (Int × Int × Vl)
def gt (t : Tl) : List GE := t.map fun e => (e.1, e.2.1, eV e.2.2)
abbrev Story := List (Nm × Tl)
def nk (n : Nm) : NestedKey := .tup (n.map .text)
theorem nkDs_text : ∀ n : Nm, nkDs (n.map .text) = n.map .str
  | [] => rfl
  | x :: n => by show Dt.str x :: nkDs (n.map .text) = _; rw [nkDs_text n]; rfl
theorem nkD_nk (n : Nm) : nkD (nk n) = eN n := by show Dt.tup (nkDs _) = _; rw [nkDs_text]; rfl
theorem depth_nk (n : Nm) : (nk n).depth ≤ 8 := by
  have h : ∀ n : Nm, NestedKey.depthAll (n.map .text) = 0 := by
    intro n
    induction n with
    | nil => rfl
    | cons x n ih => simp [NestedKey.depthAll, NestedKey.depth, ih]
  show NestedKey.depthAll _ + 1 ≤ 8
  rw [h]
  decide
theorem nk_inj {a b : Nm} (h : nk a = nk b) : a = b := eN_inj (by rw [← nkD_nk, h, nkD_nk])
def eKv (s : Story) : List (NestedKey × Dt) := s.map fun p => (nk p.1, eGT (gt p.2))
def eSt (s : Story) : Dt := .dic (eKv s)
def tlOf (s : Story) (n : Nm) : Option Tl := (s.find? fun p => decide (p.1 = n)).map (·.2)
theorem lk_story : ∀ (s : Story) (n : Nm), lk (eKv s) (nk n) = (tlOf s n).map fun t => eGT (gt t)
  | [], _ => rfl
  | p :: s, n => by
    show (if nk p.1 = nk n then some (eGT (gt p.2)) else lk (eKv s) (nk n)) = _
    unfold tlOf
    rw [List.find?_cons]
    by_cases h : p.1 = n
    · rw [if_pos (by rw [h])]; simp [h]
    · rw [if_neg (fun z => h (nk_inj z))]
      simp only [h, decide_false]
      exact lk_story s n
def namesOf (s : Story) : List Nm := s.map (·.1)
def OkV (ns : List Nm) : Vl → Prop
  | .rows s => OkNode s
  | .to n => n ∈ ns
structure OkStory (s : Story) : Prop where
  ne : s ≠ []
  lz : s.length ≤ 6
  nd : (namesOf s).Nodup
  nm : ∀ n ∈ namesOf s, OkN n ∧ n ≠ [] ∧ n.length ≤ 10
  tl : ∀ p ∈ s, OkGT (gt p.2) ∧ p.2.length ≤ 8 ∧ ∀ e ∈ p.2, OkV (namesOf s) e.2.2
theorem OkStory.size {s : Story} (h : OkStory s) : s.length ≤ 6 := h.lz
theorem tlOf_mem {s : Story} {n : Nm} {t : Tl} (h : tlOf s n = some t) : (n, t) ∈ s := by
  unfold tlOf at h
  cases q : s.find? fun p => decide (p.1 = n) with
  | none => rw [q] at h; cases h
  | some p =>
    rw [q] at h
    have h1 := List.find?_some q
    have h2 := List.mem_of_find?_eq_some q
    have e1 : p.1 = n := of_decide_eq_true h1
    have e2 : p.2 = t := Option.some.inj h
    rw [← e1, ← e2]
    exact h2
theorem tlOf_some {s : Story} {n : Nm} (h : n ∈ namesOf s) : ∃ t, tlOf s n = some t := by
  unfold tlOf
  cases q : s.find? fun p => decide (p.1 = n) with
  | some p => exact ⟨p.2, rfl⟩
  | none =>
    obtain ⟨p, hp, e⟩ := List.mem_map.mp h
    have := List.find?_eq_none.mp q p hp
    simp [e] at this
theorem tlOf_none {s : Story} {n : Nm} (h : n ∉ namesOf s) : tlOf s n = none := by
  cases q : tlOf s n with
  | none => rfl
  | some t => exact absurd (List.mem_map.mpr ⟨_, tlOf_mem q, rfl⟩) h
theorem tlOf_of {s : Story} (h : (namesOf s).Nodup) {n : Nm} {t : Tl} (hm : (n, t) ∈ s) : tlOf s n = some t := by
  obtain ⟨t', ht⟩ := tlOf_some (s := s) (n := n) (List.mem_map.mpr ⟨_, hm, rfl⟩)
  have h2 := tlOf_mem ht
  rw [ht]
  obtain ⟨i, hi⟩ := List.getElem?_of_mem hm
  obtain ⟨j, hj⟩ := List.getElem?_of_mem h2
  have e1 : (namesOf s)[i]? = some n := by unfold namesOf; rw [List.getElem?_map, hi]; rfl
  have e2 : (namesOf s)[j]? = some n := by unfold namesOf; rw [List.getElem?_map, hj]; rfl
  have := (List.getElem?_inj (List.getElem?_eq_some_iff.mp e1).1 h).mp (e1.trans e2.symm)
  subst this
  rw [hi] at hj
  cases hj
  rfl
theorem nobl_eV {ns : List Nm} (h : ∀ n ∈ ns, OkN n) {v : Vl} (ok : OkV ns v) : nobl (eV v) = true := by
  cases v with
  | rows s =>
    show (nobl (.str "rows") && (nobl (.str s) && true)) = true
    rw [OkNode.str ok]
    decide +kernel
  | to n =>
    show (nobl (.str "to") && (nobl (eN n) && true)) = true
    rw [nobl_eN (h n ok)]
    decide +kernel
theorem dep_eV (v : Vl) : dep (eV v) ≤ 2 := by
  cases v with
  | rows s => show max 0 (max 0 0) + 1 ≤ 2; decide
  | to n =>
    have := dep_eN n
    show max 0 (max (dep (eN n)) 0) + 1 ≤ 2
    omega
theorem rows_to : ("rows" : Str) ≠ "to" := by decide +kernel
theorem eV_inj {a b : Vl} (h : eV a = eV b) : a = b := by
  cases a with
  | rows s => cases b with
    | rows t => injection h with h; injection h with _ h; injection h with h _; injection h with h; rw [h]
    | to n => injection h with h; injection h with h _; injection h with h; exact absurd h rows_to
  | to m => cases b with
    | rows t => injection h with h; injection h with h _; injection h with h; exact absurd h.symm rows_to
    | to n => injection h with h; injection h with _ h; injection h with h _; rw [eN_inj h]
theorem OkStory.nb {s : Story} (h : OkStory s) {v : Vl} (ok : OkV (namesOf s) v) : nobl (eV v) = true := nobl_eV (fun n hn => (h.nm n hn).1) ok
section
variable {X : Cx} {ρ ρ1 ρ2 : List En} {a b : Expr} {pos : Pos} {s : Story} {n : Nm} {r : Nat}
theorem EV.key (h : EV X a ρ (eN n) ρ1) : EV X a ρ (nkD (nk n)) ρ1 := h.is (nkD_nk n).symm
theorem lk_isSome_story (s : Story) (n : Nm) : (lk (eKv s) (nk n)).isSome = decide (n ∈ namesOf s) := by
  rw [lk_story, Option.isSome_map]
  by_cases h : n ∈ namesOf s
  · obtain ⟨t, ht⟩ := tlOf_some h
    rw [ht]; simp [h]
  · rw [tlOf_none h]; simp [h]
theorem EC.inSt (hr : Room r X.A) (ha : EV X a ρ (eN n) ρ1) (hb : EV X b ρ1 (eSt s) ρ2) : EC X .In a b ρ (decide (n ∈ namesOf s)) ρ2 := by
  rw [← lk_isSome_story]
  exact EC.inK hr ha.key hb (depth_nk n)
theorem EC.ninSt (hr : Room r X.A) (ha : EV X a ρ (eN n) ρ1) (hb : EV X b ρ1 (eSt s) ρ2) : EC X .NotIn a b ρ (!decide (n ∈ namesOf s)) ρ2 := by
  rw [← lk_isSome_story]
  exact EC.ninK hr ha.key hb (depth_nk n)
theorem EV.ixSt {t : Tl} (hr : Room r X.A) (ha : EV X a ρ (eSt s) ρ1) (hb : EV X b ρ1 (eN n) ρ2) (ht : tlOf s n = some t) (hs : PlainIx b := by exact fun _ _ => rfl) : EV X (.Subscript a b pos) ρ (eGT (gt t)) ρ2 :=
  EV.ixK hr ha hb.key (depth_nk n) (by rw [show (NestedKey.tup (n.map .text)) = nk n from rfl, lk_story, ht]; rfl) hs
end
abbrev rPart : List Dt → Dt → Prop := fun ds d => ∃ s v, ds = [eV v, eSt s] ∧ OkStory s ∧ OkV (namesOf s) v ∧ d = .bl true
theorem sc_is_part : FnScope ["value", "story"] ["value", "story"] (defScope s_is_part) := ⟨rfl, rfl, rfl, by decide, rfl, by decide, by decide⟩
theorem is_part_ok (B : Bs mg) (DN : DefOk P w K mg base "is_node" 1 1 (spD P w K 1 rNodeT)) (DA : DefOk P w K mg base "is_asked" 3 1 (spD P w K 1 rName)) (F : Fn K mg "is_part" s_is_part) : DefOk P w K mg base "is_part" 4 2 (spD P w K 2 rPart) :=
  defOk ["value", "story"] ["value", "story"] F sc_is_part rfl (fun _ _ _ _ _ _ us h => by
    match us, h with
    | [_, _], _ => rfl) (by
    rintro fa cdv A outer s' H E hr ds d hl ⟨s, v, rfl, ok, okv, rfl⟩
    cases v with
    | rows x =>
      refine .skip (.w (.or (.not (.val (.isTup B (.var (i := 0) rfl)))) fun _ => .or (.cmp (.neI (.lenT B.len (.var (i := 0) rfl)) .int)) fun _ => .or1 (.not (.val (.isStr (s := "rows") B (.ixT (.var (i := 0) rfl) .int rfl)))))) rfl ?_
      refine .take (.cmp (.eqS (s := "rows") (.ixT (.var (i := 0) rfl) .int rfl) .str)) (by decide +kernel) ?_
      exact .ret (.call DN (hr.mono (by decide)) (.one (.ixT (d := .str x) (.var (i := 0) rfl) .int rfl)) ⟨x, rfl, okv, rfl⟩) rfl
    | to n =>
      have hn := ok.nm n okv
      refine .skip (.w (.or (.not (.val (.isTup B (.var (i := 0) rfl)))) fun _ => .or (.cmp (.neI (.lenT B.len (.var (i := 0) rfl)) .int)) fun _ => .or1 (.not (.val (.isStr (s := "to") B (.ixT (.var (i := 0) rfl) .int rfl)))))) rfl ?_
      refine .skip (.cmp (.eqS (s := "to") (.ixT (.var (i := 0) rfl) .int rfl) .str)) (by decide +kernel) ?_
      refine .ret (.and (.cmp (.eqS (s := "to") (.ixT (.var (i := 0) rfl) .int rfl) .str)) fun _ => .and (.call DA hr (.one (.ixT (d := eN n) (.var (i := 0) rfl) .int rfl)) ⟨n, rfl, hn.1, Nat.le_trans hn.2.2 (by decide), rfl⟩) fun _ => .one (.cmp (.inSt hr (.ixT (d := eN n) (.var (i := 0) rfl) .int rfl) (.var (i := 1) rfl)))) ?_
      show Dt.bl _ = Dt.bl _
      rw [decide_eq_true (show n ∈ namesOf s from okv), decide_eq_true (show ("to" : Str) = "to" from rfl)]
      rfl)
abbrev rThr : List Dt → Dt → Prop := fun ds d => ∃ s t, ds = [eGT (gt t), eSt s] ∧ OkStory s ∧ OkGT (gt t) ∧ (∀ e ∈ t, OkV (namesOf s) e.2.2) ∧ d = .bl true
theorem sc_is_thread : FnScope ["timeline", "story", "entry"] ["timeline", "story"] (defScope s_is_thread) := ⟨rfl, rfl, rfl, by decide, rfl, by decide, by decide⟩
theorem filterMap_true {α : Type} (g : α → Dt) (l : List α) : (l.map g).filterMap (fun _ => some (Dt.bl true)) = (l.map fun _ => true).map Dt.bl := by
  rw [List.filterMap_map, List.map_map]
  exact congrFun (List.filterMap_eq_map (f := fun _ : α => Dt.bl true)) _
theorem is_thread_ok (B : Bs mg) (DH : DefOk P w K mg base "has_moments" 3 1 (spD P w K 1 rHas)) (DP : DefOk P w K mg base "is_part" 4 2 (spD P w K 2 rPart)) (F : Fn K mg "is_thread" s_is_thread) : DefOk P w K mg base "is_thread" 5 2 (spD P w K 2 rThr) :=
  defOk ["timeline", "story", "entry"] ["timeline", "story"] F sc_is_thread rfl (fun _ _ _ _ _ _ us h => by
    match us, h with
    | [_, _], _ => rfl) (by
    rintro fa cdv A outer s' H E hr ds d hl ⟨s, t, rfl, ok, okt, okv, rfl⟩
    refine .ret (.and (.call DH (hr.mono (by decide)) (.one (.var (i := 0) rfl)) ⟨_, rfl, okt, rfl⟩) fun _ => .one (.all (bs := (gt t).map fun _ => true) rfl B.all (.is (.lcF [("entry", 2)] [2] (fun _ => some (.bl true)) rfl sc_is_thread.nd (.list (.var (i := 0) rfl)) (gt_size okt.lz) fun d hd => ?_) ?_))) ?_
    · obtain ⟨g, hg, rfl⟩ := List.mem_map.mp hd
      unfold gt at hg
      obtain ⟨e, he, rfl⟩ := List.mem_map.mp hg
      exact .map (fun _ _ _ _ _ => .name sc_is_thread.nd) (Agree.wiped.set (by decide)) rfl fun _ _ _ _ _ => .call DP hr (.cons (.ixT (d := eV e.2.2) (.var (i := 2) rfl) .int rfl) (.one (.var (i := 1) rfl))) ⟨s, e.2.2, rfl, ok, okv e he, rfl⟩
    · exact congrArg Dt.lst (filterMap_true _ _)
    · show Dt.bl _ = Dt.bl _
      simp)
abbrev rNSt : List Dt → Dt → Prop := fun ds d => ∃ s, ds = [eSt s] ∧ OkStory s ∧ d = .non
theorem sc_need_story : FnScope ["story", "name", "timeline"] ["story"] (defScope s_need_story) := ⟨rfl, rfl, rfl, by decide, rfl, by decide, by decide⟩
theorem st_len (s : Story) : (eKv s).length = s.length := by unfold eKv; rw [List.length_map]
theorem need_story_ok (B : Bs mg) (DA : DefOk P w K mg base "is_asked" 3 1 (spD P w K 1 rName)) (DT : DefOk P w K mg base "is_thread" 5 2 (spD P w K 2 rThr)) (F : Fn K mg "need_story" s_need_story) : DefOk P w K mg base "need_story" 6 1 (spD P w K 1 rNSt) :=
  defOk ["story", "name", "timeline"] ["story"] F sc_need_story rfl (fun _ _ _ _ _ _ us h => by
    match us, h with
    | [_], _ => rfl) (by
    rintro fa cdv A outer s' H E hr ds d hl ⟨s, rfl, ok, rfl⟩
    have hz : (eKv s).length < sizeLine := by have := ok.lz; rw [st_len, sizeLine_eq]; omega
    refine .skip (.w (.or (.not (.val (.isDic B (.var (i := 0) rfl)))) fun _ => .or1 (.cmp (.eqI (.lenK B.len (.var (i := 0) rfl)) .int)))) ?_ ?_
    · have := List.length_pos_iff.mpr ok.ne
      rw [st_len]
      simp
      exact ok.ne
    refine .skip (.not (.val (.all (bs := s.map fun _ => true) rfl B.all (.is (.lcF [("name", 1)] [1] (fun _ => some (.bl true)) rfl sc_need_story.nd (.keys (.var (i := 0) rfl)) (by rw [List.length_map]; exact hz) fun d hd => ?_) ?_)))) ?_ ?_
    · obtain ⟨q, hq, rfl⟩ := List.mem_map.mp hd
      unfold eKv at hq
      obtain ⟨p, hp, rfl⟩ := List.mem_map.mp hq
      have hn := ok.nm p.1 (List.mem_map.mpr ⟨p, hp, rfl⟩)
      exact .map (fun _ _ _ _ _ => .name sc_need_story.nd) (Agree.wiped.set (by decide)) rfl fun _ _ _ _ _ => .call DA (hr.mono (by decide)) (.one (.is (.var (i := 1) rfl) (nkD_nk p.1))) ⟨p.1, rfl, hn.1, Nat.le_trans hn.2.2 (by decide), rfl⟩
    · unfold eKv
      rw [List.map_map]
      exact congrArg Dt.lst (filterMap_true _ _)
    · simp
    refine .skip (.not (.val (.all (bs := s.map fun _ => true) rfl B.all (.is (.lcF [("timeline", 2)] [2] (fun _ => some (.bl true)) rfl sc_need_story.nd (.vals (.var (i := 0) rfl)) (by rw [List.length_map]; exact hz) fun d hd => ?_) ?_)))) ?_ (.nil rfl)
    · obtain ⟨q, hq, rfl⟩ := List.mem_map.mp hd
      unfold eKv at hq
      obtain ⟨p, hp, rfl⟩ := List.mem_map.mp hq
      have ht := ok.tl p hp
      exact .map (fun _ _ _ _ _ => .name sc_need_story.nd) (Agree.wiped.set (by decide)) rfl fun _ _ _ _ _ => .call DT hr (.cons (.var (i := 2) rfl) (.one (.var (i := 0) rfl))) ⟨s, p.2, rfl, ok, ht.1, ht.2.2, rfl⟩
    · unfold eKv
      rw [List.map_map]
      exact congrArg Dt.lst (filterMap_true _ _)
    · simp)
end Rw
namespace Rw
open PySem PySem.Spec PyProof.Rows L2
open PySem.W (dataLe alike alikeAll AllAlike Sortable)
abbrev s_told_lists : Stmt := topS 74
abbrev s_were_together : Stmt := topS 75
variable {P : Program} {w : World} {K : PySem.W.Frag} {mg : Str → Option Value} {base : Heap}

/-! ### plain: what is told -/
def ded {α : Type} [DecidableEq α] (xs : List α) : List α := xs.foldl (fun acc x => if x ∈ acc then acc else acc ++ [x]) []
theorem ded_snoc {α : Type} [DecidableEq α] (xs : List α) (x : α) : ded (xs ++ [x]) = if x ∈ ded xs then ded xs else ded xs ++ [x] := by
  unfold ded
  rw [List.foldl_append]
  rfl
theorem ded_mem {α : Type} [DecidableEq α] (xs : List α) : ∀ x, x ∈ ded xs ↔ x ∈ xs := by
  refine rev_ind (P := fun xs => ∀ x, x ∈ ded xs ↔ x ∈ xs) (fun x => Iff.rfl) (fun xs y ih x => ?_) xs
  rw [ded_snoc, List.mem_append, List.mem_singleton]
  by_cases h : y ∈ ded xs
  · rw [if_pos h, ih]
    constructor
    · exact .inl
    · rintro (z | z)
      · exact z
      · subst z; exact (ih x).mp h
  · rw [if_neg h, List.mem_append, List.mem_singleton, ih]
theorem ded_nodup {α : Type} [DecidableEq α] (xs : List α) : (ded xs).Nodup := by
  refine rev_ind (P := fun xs => (ded xs).Nodup) List.nodup_nil (fun xs y ih => ?_) xs
  rw [ded_snoc]
  by_cases h : y ∈ ded xs
  · rw [if_pos h]; exact ih
  · rw [if_neg h, List.nodup_append]
    exact ⟨ih, List.nodup_cons.mpr ⟨by simp, List.nodup_nil⟩, fun a ha b hb => by rw [List.mem_singleton.mp hb]; rintro rfl; exact h ha⟩
theorem ded_len {α : Type} [DecidableEq α] (xs : List α) : (ded xs).length ≤ xs.length := by
  refine rev_ind (P := fun xs => (ded xs).length ≤ xs.length) (Nat.le_refl _) (fun xs y ih => ?_) xs
  rw [ded_snoc, List.length_append]
  split
  · simp; omega
  · rw [List.length_append]; simp; omega
theorem ind_map {α : Type} [DecidableEq α] {e : α → Dt} (inj : ∀ a b, e a = e b → a = b) {x : α} (hx : nobl (e x) = true) : ∀ {l : List α}, (∀ y ∈ l, nobl (e y) = true) → ind (e x) (l.map e) = decide (x ∈ l)
  | [], _ => rfl
  | y :: l, h => by
    show (eqd (e y) (e x) || ind (e x) (l.map e)) = _
    rw [ind_map inj hx (fun z hz => h z (.tail _ hz)), eqd_of (inj y x) (h y (.head _)) hx]
    by_cases h1 : y = x
    · subst h1; simp
    · have h2 : ¬ x = y := fun z => h1 z.symm
      simp [h1, h2]
theorem dedD_map {α : Type} [DecidableEq α] {e : α → Dt} (inj : ∀ a b, e a = e b → a = b) (xs : List α) : (∀ x ∈ xs, nobl (e x) = true) → dedD (xs.map e) = (ded xs).map e := by
  refine rev_ind (P := fun xs => (∀ x ∈ xs, nobl (e x) = true) → dedD (xs.map e) = (ded xs).map e) (fun _ => rfl) (fun xs y ih h => ?_) xs
  have h1 : ∀ x ∈ xs, nobl (e x) = true := fun x hx => h x (List.mem_append_left _ hx)
  rw [List.map_append, List.map_cons, List.map_nil, dedD_snoc, ded_snoc, ih h1, ind_map inj (h y (by simp)) fun z hz => h1 z ((ded_mem _ z).mp hz)]
  by_cases hy : y ∈ ded xs
  · simp [hy]
  · simp [hy]
def told (t : Tl) (lo hi mo : Int) : List Vl := ded ((gotL (gt t) lo hi mo).filterMap fun i => (t[i]?).map (·.2.2))
theorem gt_ne {t : Tl} (h : gt t ≠ []) : t ≠ [] := fun z => h (by rw [z]; rfl)
theorem gt_len (t : Tl) : (gt t).length = t.length := by unfold gt; rw [List.length_map]
theorem gt_get (t : Tl) (i : Nat) : (gt t)[i]? = (t[i]?).map fun e => (e.1, e.2.1, eV e.2.2) := by unfold gt; rw [List.getElem?_map]
theorem toldD_gt {ns : List Nm} {t : Tl} {lo hi mo : Int} (ok : OkGT (gt t)) (hn : ∀ n ∈ ns, OkN n) (hv : ∀ e ∈ t, OkV ns e.2.2) : toldD (gt t) lo hi mo = (told t lo hi mo).map eV := by
  unfold toldD told
  rw [← dedD_map (fun a b => eV_inj) _ (fun x hx => ?_)]
  · congr 1
    rw [List.map_filterMap]
    have h : ∀ l : List Nat, (∀ i ∈ l, i < t.length) → l.map (vlAt (gt t)) = l.filterMap fun i => ((t[i]?).map (·.2.2)).map eV := by
      intro l
      induction l with
      | nil => intro _; rfl
      | cons i l ih =>
        intro hl
        have hi' := hl i (.head _)
        rw [List.map_cons, List.filterMap_cons, ih fun j hj => hl j (.tail _ hj)]
        have e : t[i]? = some t[i] := List.getElem?_eq_getElem hi'
        have e2 : vlAt (gt t) i = eV t[i].2.2 := by unfold vlAt; rw [gt_get, e]; rfl
        rw [e2, e]
        rfl
    exact h _ fun i hi' => by rw [← gt_len]; exact gotL_lt ok.ne hi'
  · obtain ⟨i, _, h⟩ := List.mem_filterMap.mp hx
    cases q : t[i]? with
    | none => rw [q] at h; cases h
    | some e =>
      rw [q] at h
      cases h
      exact nobl_eV hn (hv e (List.mem_of_getElem? q))
theorem told_mem {t : Tl} {lo hi mo : Int} {v : Vl} (h : v ∈ told t lo hi mo) : ∃ e ∈ t, e.2.2 = v := by
  unfold told at h
  rw [ded_mem] at h
  obtain ⟨i, _, h⟩ := List.mem_filterMap.mp h
  cases q : t[i]? with
  | none => rw [q] at h; cases h
  | some e => rw [q] at h; cases h; exact ⟨e, List.mem_of_getElem? q, rfl⟩
theorem told_len {t : Tl} {lo hi mo : Int} (h : t ≠ []) : (told t lo hi mo).length ≤ t.length := by
  unfold told
  have h1 := ded_len ((gotL (gt t) lo hi mo).filterMap fun i => (t[i]?).map (·.2.2))
  have h2 := List.length_filterMap_le (fun i => (t[i]?).map (·.2.2)) (gotL (gt t) lo hi mo)
  have h3 : (gotL (gt t) lo hi mo).length ≤ fIx (gt t) mo + 1 := by
    have := List.length_filter_le (gotB (gt t) lo hi mo) (List.range (fIx (gt t) mo + 1))
    rwa [List.length_range] at this
  have h4 : fIx (gt t) mo < (gt t).length := fIx_size (fun z => h (by unfold gt at z; exact List.map_eq_nil_iff.mp z))
  rw [gt_len] at h4
  omega
def pky : Vl → Dt
  | .rows x => .tup [.str "rows", .str x, .tup []]
  | .to n => .tup [.str "to", .str "", eN n.reverse]
def sortVl (l : List Vl) : List Vl := l.mergeSort (dataLe false fun v => py (pky v))
theorem sortVl_mem {l : List Vl} {v : Vl} : v ∈ sortVl l ↔ v ∈ l := (List.mergeSort_perm _ _).mem_iff
theorem sortVl_len (l : List Vl) : (sortVl l).length = l.length := (List.mergeSort_perm _ _).length_eq
abbrev Pr := Nm × Vl
abbrev Ps := List Pr
def ePr (p : Pr) : Dt := .tup [eN p.1, eV p.2]
def ePs (ps : Ps) : Dt := .lst (ps.map ePr)
def ePss (l : List Ps) : Dt := .lst (l.map ePs)
def toldOf (s : Story) (lo hi : Int) (n : Nm) (mo : Int) : List Vl := match tlOf s n with
  | some t => told t lo hi mo
  | none => []
def valsFor (s : Story) (lo hi : Int) (ps : Ps) (n : Nm) (mo : Int) : List Vl := match ps.find? fun p => decide (p.1 = n) with
  | some p => [p.2]
  | none => sortVl (toldOf s lo hi n mo)
def behind (ps : Ps) (most : Nat) : Option Nm := match ps.getLast? with
  | some (_, .to n) => if ps.length = most then none else some n
  | _ => none
def stepP (s : Story) (lo hi mo : Int) (ps : Ps) : List Ps := match behind ps s.length with
  | none => [ps]
  | some o => (valsFor s lo hi ps o mo).map fun v => ps ++ [(o, v)]
def tls (s : Story) (lo hi : Int) (n : Nm) (mo : Int) : Nat → List Ps
  | 0 => (valsFor s lo hi [] n mo).map fun v => [(n, v)]
  | i + 1 => (tls s lo hi n mo i).flatMap (stepP s lo hi mo)
def toldL (s : Story) (lo hi : Int) (n : Nm) (mo : Int) : List Ps := tls s lo hi n mo s.length
/-- pairs of a story's -/
structure OkPs (s : Story) (ps : Ps) : Prop where
  ne : ps ≠ []
  lz : ps.length ≤ 20
  ok : ∀ p ∈ ps, p.1 ∈ namesOf s ∧ OkV (namesOf s) p.2
theorem valsFor_ok {s : Story} (h : OkStory s) {lo hi mo : Int} {ps : Ps} {n : Nm} (hp : ∀ p ∈ ps, p.1 ∈ namesOf s ∧ OkV (namesOf s) p.2) (hn : n ∈ namesOf s) : (∀ v ∈ valsFor s lo hi ps n mo, OkV (namesOf s) v) ∧ (valsFor s lo hi ps n mo).length ≤ 8 := by
  unfold valsFor
  cases q : ps.find? fun p => decide (p.1 = n) with
  | some p => exact ⟨fun v hv => by rw [List.mem_singleton.mp hv]; exact (hp p (List.mem_of_find?_eq_some q)).2, by simp⟩
  | none =>
    obtain ⟨t, ht⟩ := tlOf_some hn
    have hm := h.tl _ (tlOf_mem ht)
    simp only [toldOf, ht]
    refine ⟨fun v hv => ?_, ?_⟩
    · obtain ⟨e, he, rfl⟩ := told_mem (sortVl_mem.mp hv)
      exact hm.2.2 e he
    · rw [sortVl_len]
      exact Nat.le_trans (told_len (gt_ne hm.1.ne)) hm.2.1
theorem behind_ok {s : Story} {ps : Ps} (h : OkPs s ps) {m : Nat} {o : Nm} (hb : behind ps m = some o) : o ∈ namesOf s := by
  unfold behind at hb
  cases q : ps.getLast? with
  | none => rw [q] at hb; cases hb
  | some p =>
    obtain ⟨a, v⟩ := p
    rw [q] at hb
    have := (h.ok _ (List.mem_of_getLast? q)).2
    cases v with
    | rows x => cases hb
    | to n =>
      simp only at hb
      split at hb
      · cases hb
      · cases hb; exact this
theorem tls_ok {s : Story} (h : OkStory s) {lo hi mo : Int} {n : Nm} (hn : n ∈ namesOf s) : ∀ i, i ≤ 6 → (∀ ps ∈ tls s lo hi n mo i, OkPs s ps ∧ ps.length ≤ i + 1) ∧ (tls s lo hi n mo i).length ≤ 8 ^ (i + 1)
  | 0, _ => by
    have hv := valsFor_ok h (lo := lo) (hi := hi) (mo := mo) (ps := []) (fun p hp => nomatch hp) hn
    unfold tls
    refine ⟨fun ps hps => ?_, by rw [List.length_map]; exact hv.2⟩
    obtain ⟨v, hv', rfl⟩ := List.mem_map.mp hps
    exact ⟨⟨by simp, by simp, fun p hp => by rw [List.mem_singleton.mp hp]; exact ⟨hn, hv.1 v hv'⟩⟩, by simp⟩
  | i + 1, hi' => by
    obtain ⟨h1, h2⟩ := tls_ok h (lo := lo) (hi := hi) (mo := mo) hn i (by omega)
    have hst : ∀ ps ∈ tls s lo hi n mo i, (∀ q ∈ stepP s lo hi mo ps, OkPs s q ∧ q.length ≤ i + 2) ∧ (stepP s lo hi mo ps).length ≤ 8 := by
      intro ps hps
      obtain ⟨o1, o2⟩ := h1 ps hps
      unfold stepP
      cases q : behind ps s.length with
      | none => exact ⟨fun q hq => by rw [List.mem_singleton.mp hq]; exact ⟨o1, by omega⟩, by simp⟩
      | some o =>
        have ho := behind_ok o1 q
        have hv := valsFor_ok h (lo := lo) (hi := hi) (mo := mo) (ps := ps) o1.ok ho
        refine ⟨fun q hq => ?_, by rw [List.length_map]; exact hv.2⟩
        obtain ⟨v, hv', rfl⟩ := List.mem_map.mp hq
        refine ⟨⟨by simp, by simp; omega, fun p hp => ?_⟩, by simp; omega⟩
        rcases List.mem_append.mp hp with z | z
        · exact o1.ok p z
        · rw [List.mem_singleton.mp z]; exact ⟨ho, hv.1 v hv'⟩
    unfold tls
    refine ⟨fun q hq => ?_, ?_⟩
    · obtain ⟨ps, hps, hq'⟩ := List.mem_flatMap.mp hq
      exact (hst ps hps).1 q hq'
    · have hb : ∀ l : List Ps, (∀ ps ∈ l, (stepP s lo hi mo ps).length ≤ 8) → (l.flatMap (stepP s lo hi mo)).length ≤ l.length * 8 := by
        intro l
        induction l with
        | nil => intro _; exact Nat.le_refl _
        | cons p l ih =>
          intro hl
          rw [List.flatMap_cons, List.length_append, List.length_cons]
          have h3 := hl p (.head _)
          have h4 := ih fun q hq => hl q (.tail _ hq)
          omega
      have h5 := hb _ fun ps hps => (hst ps hps).2
      rw [Nat.pow_succ]
      exact Nat.le_trans h5 (Nat.mul_le_mul_right 8 h2)
end Rw
namespace Rw
open PySem PySem.Spec PyProof.Rows L2
open PySem.W (dataLe alike alikeAll AllAlike Sortable)
variable {P : Program} {w : World} {K : PySem.W.Frag} {mg : Str → Option Value} {base : Heap}
abbrev rNSN : List Dt → Dt → Prop := fun ds d => ∃ s n, ds = [eSt s, eN n] ∧ OkStory s ∧ n ∈ namesOf s ∧ d = .non
theorem sc_need_story_name : FnScope ["story", "name"] ["story", "name"] (defScope s_need_story_name) := ⟨rfl, rfl, rfl, by decide, rfl, by decide, by decide⟩
theorem need_story_name_ok (DA : DefOk P w K mg base "need_asked" 4 1 (spD P w K 1 rNName)) (F : Fn K mg "need_story_name" s_need_story_name) : DefOk P w K mg base "need_story_name" 5 2 (spD P w K 2 rNSN) :=
  defOk ["story", "name"] ["story", "name"] F sc_need_story_name rfl (fun _ _ _ _ _ _ us h => by
    match us, h with
    | [_, _], _ => rfl) (by
    rintro fa cdv A outer s' H E hr ds d hl ⟨s, n, rfl, ok, hn, rfl⟩
    have hm := ok.nm n hn
    refine .expr (.call DA hr (.one (.var (i := 1) rfl)) ⟨n, rfl, hm.1, Nat.le_trans hm.2.2 (by decide), rfl⟩) ?_
    exact .skip (.cmp (.ninSt hr (.var (i := 1) rfl) (.var (i := 0) rfl))) (by simp [hn]) (.nil rfl))
abbrev rPK : List Dt → Dt → Prop := fun ds d => ∃ v, ds = [eV v] ∧ d = pky v
theorem sc_part_key : FnScope ["value"] ["value"] (defScope s_part_key) := ⟨rfl, rfl, rfl, by decide, rfl, by decide, by decide⟩
theorem part_key_ok (F : Fn K mg "part_key" s_part_key) : DefOk P w K mg base "part_key" 1 1 (spD P w K 1 rPK) :=
  defOk ["value"] ["value"] F sc_part_key rfl (fun _ _ _ _ _ _ us h => by
    match us, h with
    | [_], _ => rfl) (by
    rintro fa cdv A outer s' H E hr ds d hl ⟨v, rfl, rfl⟩
    cases v with
    | rows x =>
      refine .take (.cmp (.eqS (s := "rows") (.ixT (.var (i := 0) rfl) .int rfl) .str)) (by decide +kernel) ?_
      exact .ret (.tup (.cons .str (.cons (.ixT (d := .str x) (.var (i := 0) rfl) .int rfl) (.one (.tup .nil))))) rfl
    | to n =>
      refine .skip (.cmp (.eqS (s := "to") (.ixT (.var (i := 0) rfl) .int rfl) .str)) (by decide +kernel) ?_
      refine .ret (.tup (.cons .str (.cons .str (.one (.rev (.ixT (d := eN n) (.var (i := 0) rfl) .int rfl)))))) ?_
      show Dt.tup _ = Dt.tup _
      rw [← List.map_reverse]
      rfl)
def oN : Option Nm → Dt
  | none => .non
  | some n => eN n
abbrev rNB : List Dt → Dt → Prop := fun ds d => ∃ ps m, ds = [ePs ps, .int (m : Nat)] ∧ ps ≠ [] ∧ d = oN (behind ps m)
theorem sc_name_behind : FnScope ["pairs", "most", "value"] ["pairs", "most"] (defScope s_name_behind) := ⟨rfl, rfl, rfl, by decide, rfl, by decide, by decide⟩
theorem name_behind_ok (B : Bs mg) (F : Fn K mg "name_behind" s_name_behind) : DefOk P w K mg base "name_behind" 1 2 (spD P w K 2 rNB) :=
  defOk ["pairs", "most", "value"] ["pairs", "most"] F sc_name_behind rfl (fun _ _ _ _ _ _ us h => by
    match us, h with
    | [_, _], _ => rfl) (by
    rintro fa cdv A outer s' H E hr ds d hl ⟨ps, m, rfl, hne, rfl⟩
    obtain ⟨⟨a, v⟩, hlast⟩ : ∃ p, ps.getLast? = some p := by
      cases q : ps.getLast? with
      | some p => exact ⟨p, rfl⟩
      | none => exact absurd (List.getLast?_eq_none_iff.mp q) hne
    have hat : atI (ps.map ePr) (-1) = some (ePr (a, v)) := atI_last (by rw [List.getLast?_map, hlast]; rfl)
    refine .asg (i := 2) (d := eV v) (.ixT (.ixL (.var (i := 0) rfl) (.neg .int) hat) .int rfl) ?_ sc_name_behind.nd
    cases v with
    | rows x =>
      refine .take (k := true) (ρ1 := [.dat (ePs ps), .dat (.int (m : Nat)), .dat (eV (.rows x))]) (.is (.w (.or (k' := false) (.cmp (.eqS (s := "rows") (.ixT (.var (i := 2) rfl) .int rfl) .str)) fun h => absurd h (by decide +kernel))) (by decide +kernel)) rfl ?_
      refine .ret .non ?_
      show Dt.non = _
      unfold behind
      rw [hlast]
      rfl
    | to n =>
      refine .when (k := decide (ps.length = m)) (ρ1 := [.dat (ePs ps), .dat (.int (m : Nat)), .dat (eV (.to n))]) (.is (.w (.or (.cmp (.eqS (s := "to") (.ixT (.var (i := 2) rfl) .int rfl) .str)) fun _ => .or1 (.cmp (.eqI (.lenL B.len (.var (i := 0) rfl)) (.var (i := 1) rfl))))) ?_) (fun h => .ret .non ?_) fun h => .ret (.ixT (d := eN n) (.var (i := 2) rfl) .int rfl) ?_
      · rw [List.length_map, decide_eq_false (show ¬ ("to" : Str) = "rows" from fun z => rows_to z.symm), Bool.false_or]
        exact decide_eq_decide.mpr (by omega)
      · show Dt.non = _
        unfold behind
        rw [hlast]
        simp only [of_decide_eq_true h, if_true]
        rfl
      · show eN n = _
        unfold behind
        rw [hlast]
        simp only [of_decide_eq_false h, if_false]
        rfl)
open Classical in
noncomputable def kyV (d : Dt) : Dt := if h : ∃ v, d = eV v then pky h.choose else .non
theorem kyV_eV (v : Vl) : kyV (eV v) = pky v := by
  have h : ∃ v', eV v = eV v' := ⟨v, rfl⟩
  unfold kyV
  rw [dif_pos h, ← eV_inj h.choose_spec]
theorem pky_plain {ns : List Nm} (hn : ∀ n ∈ ns, OkN n) {v : Vl} (ok : OkV ns v) : plain (pky v) = true := by
  cases v with
  | rows x =>
    show (plain (.str "rows") && (plain (.str x) && (plain (.tup []) && true))) = true
    rw [plain_of _ (OkNode.str ok)]
    decide +kernel
  | to n =>
    show (plain (.str "to") && (plain (.str "") && (plain (eN n.reverse) && true))) = true
    rw [plain_of _ (nobl_eN (n := n.reverse) fun l hl => hn n ok l (List.mem_reverse.mp hl))]
    decide +kernel
theorem pky_alike (a b : Vl) : alike (py (pky a)) (py (pky b)) = true := by
  have h1 : ∀ x : List PyData, alikeAll [] x = true := fun x => by cases x <;> simp [alikeAll]
  have h2 : ∀ x : List PyData, alikeAll x [] = true := fun x => by cases x <;> simp [alikeAll]
  cases a with
  | rows x => cases b with
    | rows y => simp [pky, py, pys, alike, alikeAll]
    | to m =>
      show alike (.tuple [.str "rows", .str x, .tuple []]) (.tuple [.str "to", .str "", py (eN m.reverse)]) = true
      rw [show py (eN m.reverse) = nmP m.reverse from py_nm _]
      simp [nmP, alike, alikeAll]
  | to n => cases b with
    | rows y =>
      show alike (.tuple [.str "to", .str "", py (eN n.reverse)]) (.tuple [.str "rows", .str y, .tuple []]) = true
      rw [show py (eN n.reverse) = nmP n.reverse from py_nm _]
      simp [nmP, alike, alikeAll, h2]
    | to m =>
      show alike (.tuple [.str "to", .str "", py (eN n.reverse)]) (.tuple [.str "to", .str "", py (eN m.reverse)]) = true
      rw [show py (eN n.reverse) = nmP n.reverse from py_nm _, show py (eN m.reverse) = nmP m.reverse from py_nm _]
      have := alike_nm n.reverse m.reverse
      simp [alike, alikeAll, this]
theorem dep_pky (v : Vl) : dep (pky v) ≤ 3 := by
  cases v with
  | rows x => show max 0 (max 0 (max 1 0)) + 1 ≤ 3; decide
  | to n =>
    have := dep_eN n.reverse
    show max 0 (max 0 (max (dep (eN n.reverse)) 0)) + 1 ≤ 3
    omega
theorem pys_mem {ds : List Dt} {d : PyData} (h : d ∈ pys ds) : ∃ x ∈ ds, d = py x := by
  rw [pys_map] at h
  obtain ⟨x, hx, rfl⟩ := List.mem_map.mp h
  exact ⟨x, hx, rfl⟩
theorem sak_vl {X : Cx} {ns : List Nm} {l : List Vl} (hn : ∀ n ∈ ns, OkN n) (ok : ∀ v ∈ l, OkV ns v) : SAK X (l.map eV) kyV fun d => py (kyV d) := by
  have hk : (l.map eV).map kyV = l.map pky := by rw [List.map_map]; exact List.map_congr_left fun v _ => kyV_eV v
  have hmem : ∀ d ∈ pys ((l.map eV).map kyV), ∃ v ∈ l, d = py (pky v) := fun d hd => by
    rw [hk] at hd
    obtain ⟨x, hx, rfl⟩ := pys_mem hd
    obtain ⟨v, hv, rfl⟩ := List.mem_map.mp hx
    exact ⟨v, hv, rfl⟩
  refine SAK.data ?_ (fun d hd d' hd' => ?_) (.inl fun d hd => ?_) ?_
  · rw [hk, plains_all, List.all_map, List.all_eq_true]
    exact fun v hv => pky_plain hn (ok v hv)
  · obtain ⟨v, _, rfl⟩ := hmem d hd
    obtain ⟨v', _, rfl⟩ := hmem d' hd'
    exact pky_alike v v'
  · obtain ⟨v, _, rfl⟩ := hmem d hd
    cases v <;> exact ⟨_, _, rfl⟩
  · rw [hk]
    refine Nat.le_trans (deps_le (n := 3) fun x hx => ?_) (by decide)
    obtain ⟨v, _, rfl⟩ := List.mem_map.mp hx
    exact dep_pky v
abbrev rVF : List Dt → Dt → Prop := fun ds d => ∃ s lo hi ps n mo, ds = [eSt s, ePol lo hi, ePs ps, eN n, .int mo] ∧ OkStory s ∧ n ∈ namesOf s ∧ (∀ p ∈ ps, p.1 ∈ namesOf s ∧ OkV (namesOf s) p.2) ∧ d = .lst ((valsFor s lo hi ps n mo).map eV)
theorem find_app {ps : Ps} {n : Nm} {i : Nat} {p : Pr} (h : ∀ q ∈ ps.take i, q.1 ≠ n) (hi : ps[i]? = some p) (hp : p.1 = n) : ps.find? (fun q => decide (q.1 = n)) = some p := by
  have e : ps = ps.take i ++ p :: ps.drop (i + 1) := by
    have h1 := (List.getElem?_eq_some_iff.mp hi)
    obtain ⟨h1, h2⟩ := h1
    rw [← h2, ← List.drop_eq_getElem_cons h1, List.take_append_drop]
  rw [e, List.find?_append, List.find?_eq_none.mpr fun q hq => by simpa using h q hq, Option.none_or, List.find?_cons, decide_eq_true hp]
theorem sc_values_for : FnScope ["story", "policy", "pairs", "name", "moment", "other", "value"] ["story", "policy", "pairs", "name", "moment"] (defScope s_values_for) := ⟨rfl, rfl, rfl, by decide, rfl, by decide, by decide⟩
theorem values_for_ok (B : Bs mg) (DV : DefOk P w K mg base "told_values" 3 3 (spD P w K 3 rTV)) (DK : DefOk P w K mg base "part_key" 1 1 (spD P w K 1 rPK)) (F : Fn K mg "values_for" s_values_for) : DefOk P w K mg base "values_for" 4 5 (spD P w K 5 rVF) :=
  defOk ["story", "policy", "pairs", "name", "moment", "other", "value"] ["story", "policy", "pairs", "name", "moment"] F sc_values_for rfl (fun _ _ _ _ _ _ us h => by
    match us, h with
    | [_, _, _, _, _], _ => rfl) (by
    rintro fa cdv A outer s' H E hr ds d hl ⟨s, lo, hi, ps, n, mo, rfl, ok, hn, hps, rfl⟩
    have hm := ok.nm n hn
    refine .for rfl (.list (.var (i := 2) rfl)) (fun i ρ => (∀ q ∈ ps.take i, q.1 ≠ n) ∧ ∃ e5 e6, ρ = [.dat (eSt s), .dat (ePol lo hi), .dat (ePs ps), .dat (eN n), .dat (.int mo), e5, e6] ∧ isOwn e5 = false ∧ isOwn e6 = false) ⟨fun q hq => by simp at hq, .un, .un, rfl, rfl, rfl⟩ (fun i d ρ hi' hI => ?_) (fun ρ hI => ?_)
    · obtain ⟨hno, e5, e6, rfl, _⟩ := hI
      rw [List.getElem?_map] at hi'
      cases q : ps[i]? with
      | none => rw [q] at hi'; cases hi'
      | some p =>
        rw [q] at hi'
        cases hi'
        have hp := hps p (List.mem_of_getElem? q)
        have okn := (ok.nm p.1 hp.1).1
        refine ⟨_, _, .tup rfl (.cons (.name (i := 5) sc_values_for.nd) (.cons (.name (i := 6) sc_values_for.nd) .nil)) rfl, ?_⟩
        refine .when (k := decide (p.1 = n)) (ρ1 := [.dat (eSt s), .dat (ePol lo hi), .dat (ePs ps), .dat (eN n), .dat (.int mo), .dat (eN p.1), .dat (eV p.2)]) (.is (.cmp (.eqD hr (.var (i := 5) rfl) (.var (i := 3) rfl) (plain_of _ (nobl_eN okn)) (plain_of _ (nobl_eN hm.1)) (by rw [dep_eN]; decide) (by rw [dep_eN]; decide))) (eqd_eN okn hm.1)) (fun h => ?_) fun h => ?_
        · refine .ret (.list (.one (.var (i := 6) rfl))) ?_
          show Dt.lst _ = Dt.lst _
          unfold valsFor
          rw [find_app hno q (of_decide_eq_true h)]
          rfl
        · refine .nil ⟨fun r hr' => ?_, .dat (eN p.1), .dat (eV p.2), rfl, rfl, rfl⟩
          rw [List.take_add_one, q] at hr'
          rcases List.mem_append.mp hr' with z | z
          · exact hno r z
          · rw [List.mem_singleton.mp z]; exact of_decide_eq_false h
    · obtain ⟨hno, e5, e6, rfl, _⟩ := hI
      rw [List.length_map, List.take_length] at hno
      obtain ⟨t, ht⟩ := tlOf_some hn
      have hmt := ok.tl _ (tlOf_mem ht)
      have hnm : ∀ n ∈ namesOf s, OkN n := fun n hn => (ok.nm n hn).1
      refine .ret (.sortK DK (hr.mono (by decide)) B.sorted (.is (d1 := .lst ((told t lo hi mo).map eV)) (.call DV hr (.cons (.ixSt hr (.var (i := 0) rfl) (.var (i := 3) rfl) ht) (.cons (.var (i := 1) rfl) (.one (.var (i := 4) rfl)))) ⟨gt t, lo, hi, mo, rfl, hmt.1, rfl⟩) (by rw [toldD_gt hmt.1 hnm hmt.2.2])) kyV (fun d hd => ?_) (fun d => py (kyV d)) (sak_vl hnm fun v hv => ?_)) ?_
      · obtain ⟨v, _, rfl⟩ := List.mem_map.mp hd
        exact ⟨v, rfl, kyV_eV v⟩
      · obtain ⟨e, he, rfl⟩ := told_mem hv
        exact hmt.2.2 e he
      · show Dt.lst _ = Dt.lst _
        unfold valsFor
        rw [List.find?_eq_none.mpr fun q hq => by simpa using hno q hq]
        simp only [toldOf, ht]
        rw [sort_map eV _ (fun v => py (pky v)) (fun v => by rw [kyV_eV])]
        rfl)
end Rw
namespace Rw
open PySem PySem.Spec PyProof.Rows L2
variable {P : Program} {w : World} {K : PySem.W.Frag} {mg : Str → Option Value} {base : Heap}
theorem filterMap_some {α β : Type} (f : α → β) (l : List α) : l.filterMap (fun a => some (f a)) = l.map f := congrFun (List.filterMap_eq_map (f := f)) l
theorem flat_snoc {α β : Type} (f : α → List β) {l : List α} {i : Nat} {a : α} (h : l[i]? = some a) : (l.take (i + 1)).flatMap f = (l.take i).flatMap f ++ f a := by
  rw [List.take_add_one, h, List.flatMap_append]
  simp
theorem flat_take_le {α β : Type} (f : α → List β) (l : List α) (i : Nat) : ((l.take i).flatMap f).length ≤ (l.flatMap f).length := by
  have e : l.flatMap f = (l.take i).flatMap f ++ (l.drop i).flatMap f := by rw [← List.flatMap_append, List.take_append_drop]
  rw [e, List.length_append]
  omega
abbrev rTL : List Dt → Dt → Prop := fun ds d => ∃ s lo hi n mo, ds = [eSt s, ePol lo hi, eN n, .int mo] ∧ OkStory s ∧ n ∈ namesOf s ∧ d = ePss (toldL s lo hi n mo)
abbrev nTL : List Str := ["story", "policy", "name", "moment", "lists", "_", "longer", "pairs", "other", "value"]
theorem sc_told_lists : FnScope nTL ["story", "policy", "name", "moment"] (defScope s_told_lists) := ⟨rfl, rfl, rfl, by decide, rfl, by decide, by decide⟩
theorem pow8 {i : Nat} (h : i ≤ 6) : 8 ^ (i + 1) ≤ 2097152 := Nat.pow_le_pow_right (by decide) (show i + 1 ≤ 7 by omega)
theorem told_lists_ok (B : Bs mg) (DV : DefOk P w K mg base "values_for" 4 5 (spD P w K 5 rVF)) (DN : DefOk P w K mg base "name_behind" 1 2 (spD P w K 2 rNB)) (F : Fn K mg "told_lists" s_told_lists) : DefOk P w K mg base "told_lists" 5 4 (spD P w K 4 rTL) :=
  defOk nTL ["story", "policy", "name", "moment"] F sc_told_lists rfl (fun _ _ _ _ _ _ us h => by
    match us, h with
    | [_, _, _, _], _ => rfl) (by
    rintro fa cdv A outer s' H E hr ds d hl ⟨s, lo, hi, n, mo, rfl, ok, hn, rfl⟩
    have hsl : (eKv s).length = s.length := st_len s
    have hs6 := ok.lz
    have hv0 := valsFor_ok ok (lo := lo) (hi := hi) (mo := mo) (ps := []) (fun p hp => nomatch hp) hn
    refine .lcF (i := 4) [("value", 9)] [9] (fun d => some (.lst [.tup [eN n, d]])) rfl sc_told_lists.nd (.list (.call DV hr (.cons (.var (i := 0) rfl) (.cons (.var (i := 1) rfl) (.cons (.list .nil) (.cons (.var (i := 2) rfl) (.one (.var (i := 3) rfl)))))) ⟨s, lo, hi, [], n, mo, rfl, ok, hn, (fun p hp => nomatch hp), rfl⟩)) (by rw [List.length_map, sizeLine_eq]; omega) (fun d hd => ?_) ?_
    · exact .map (fun _ _ _ _ _ => .name sc_told_lists.nd) (Agree.wiped.set (by decide)) rfl fun _ _ _ _ _ => .list (.one (.tup (.cons (.var (i := 2) rfl) (.one (.var (i := 9) rfl)))))
    rw [show ((valsFor s lo hi [] n mo).map eV).filterMap (fun d => some (.lst [.tup [eN n, d]])) = (tls s lo hi n mo 0).map ePs by
      rw [filterMap_some]
      unfold tls
      rw [List.map_map, List.map_map]
      rfl]
    refine .for rfl (.range B.range (.lenK B.len (.var (i := 0) rfl)) (by rw [hsl]; omega) (by rw [hsl]; omega)) (fun i ρ => ∃ e5 e6 e7 e8 e9, ρ = [.dat (eSt s), .dat (ePol lo hi), .dat (eN n), .dat (.int mo), .dat (ePss (tls s lo hi n mo i)), e5, e6, e7, e8, e9] ∧ isOwn e5 = false ∧ isOwn e6 = false ∧ isOwn e7 = false ∧ isOwn e8 = false ∧ isOwn e9 = false) ⟨.un, .un, .un, .un, .un, rfl, rfl, rfl, rfl, rfl, rfl⟩ (fun i d ρ hi' hI => ?_) (fun ρ hI => ?_)
    · obtain ⟨e5, e6, e7, e8, e9, rfl, h5, h6, h7, h8, h9⟩ := hI
      have hi6 : i < 6 := by
        unfold intsTo at hi'
        have := (List.getElem?_eq_some_iff.mp hi').1
        rw [List.length_map, List.length_range, hsl] at this
        omega
      obtain ⟨t1, t2⟩ := tls_ok ok (lo := lo) (hi := hi) (mo := mo) hn i (by omega)
      have t3 := (tls_ok ok (lo := lo) (hi := hi) (mo := mo) hn (i + 1) (by omega)).2
      have t4 := pow8 (show i + 1 ≤ 6 by omega)
      have eNext : tls s lo hi n mo (i + 1) = (tls s lo hi n mo i).flatMap (stepP s lo hi mo) := rfl
      generalize hL : tls s lo hi n mo i = L at *
      refine ⟨_, _, .name (i := 5) sc_told_lists.nd, ?_⟩
      refine .newL (i := 6) ?_ sc_told_lists.nd
      refine .for rfl (.list (.var (i := 4) rfl)) (fun j ρ => ∃ e7 e8 e9, ρ = [.dat (eSt s), .dat (ePol lo hi), .dat (eN n), .dat (.int mo), .dat (ePss L), .dat d, .ol (((L.take j).flatMap (stepP s lo hi mo)).map ePs), e7, e8, e9] ∧ isOwn e7 = false ∧ isOwn e8 = false ∧ isOwn e9 = false) ⟨e7, e8, e9, rfl, h7, h8, h9⟩ (fun j d2 ρ hj hJ => ?_) (fun ρ hJ => ?_)
      · obtain ⟨e7, e8, e9, rfl, h7, h8, h9⟩ := hJ
        rw [List.getElem?_map] at hj
        cases q : L[j]? with
        | none => rw [q] at hj; cases hj
        | some ps =>
          rw [q] at hj
          cases hj
          obtain ⟨okp, okl⟩ := t1 ps (List.mem_of_getElem? q)
          have hst := flat_snoc (stepP s lo hi mo) q
          have hbig : ∀ k, (((L.take j).flatMap (stepP s lo hi mo)).map ePs ++ ((stepP s lo hi mo ps).take k).map ePs).length ≤ 2097152 := by
            intro k
            have h1 := flat_take_le (stepP s lo hi mo) L (j + 1)
            rw [hst, List.length_append, ← eNext] at h1
            rw [List.length_append, List.length_map, List.length_map, List.length_take]
            omega
          refine ⟨_, _, .name (i := 7) sc_told_lists.nd, ?_⟩
          refine .asg (i := 8) (.call DN (hr.mono (by decide)) (.cons (.var (i := 7) rfl) (.one (.lenK B.len (.var (i := 0) rfl)))) ⟨ps, s.length, by rw [hsl], okp.ne, rfl⟩) ?_ sc_told_lists.nd
          refine .ite (k := isNon (oN (behind ps s.length))) (.cmp (.isN (.var (i := 8) rfl))) (fun h => ?_) fun h => ?_
          · have hb : behind ps s.length = none := by
              cases z : behind ps s.length with
              | none => rfl
              | some o => rw [z] at h; cases h
            have hsp : stepP s lo hi mo ps = [ps] := by unfold stepP; rw [hb]
            refine .app (i := 6) rfl (.var (i := 7) rfl) rfl ?_ (.nil (.nil ⟨.dat (ePs ps), .dat (oN (behind ps s.length)), e9, ?_, rfl, rfl, h9⟩))
            · have := hbig 0
              rw [List.take_zero, List.map_nil, List.append_nil] at this
              rw [sizeLine_eq]
              omega
            · rw [hst, hsp, List.map_append]
              rfl
          · obtain ⟨o, hb⟩ : ∃ o, behind ps s.length = some o := by
              cases z : behind ps s.length with
              | none => rw [z] at h; cases h
              | some o => exact ⟨o, rfl⟩
            have ho := behind_ok okp hb
            have hsp : stepP s lo hi mo ps = (valsFor s lo hi ps o mo).map fun v => ps ++ [(o, v)] := by unfold stepP; rw [hb]
            rw [hb]
            refine .for rfl (.list (.call DV hr (.cons (.var (i := 0) rfl) (.cons (.var (i := 1) rfl) (.cons (.var (i := 7) rfl) (.cons (.var (i := 8) rfl) (.one (.var (i := 3) rfl)))))) ⟨s, lo, hi, ps, o, mo, rfl, ok, ho, okp.ok, rfl⟩)) (fun k ρ => ∃ e9, ρ = [.dat (eSt s), .dat (ePol lo hi), .dat (eN n), .dat (.int mo), .dat (ePss L), .dat d, .ol (((L.take j).flatMap (stepP s lo hi mo)).map ePs ++ ((stepP s lo hi mo ps).take k).map ePs), .dat (ePs ps), .dat (eN o), e9] ∧ isOwn e9 = false) ⟨e9, by rw [List.take_zero, List.map_nil, List.append_nil]; rfl, h9⟩ (fun k d3 ρ hk hK => ?_) (fun ρ hK => ?_)
            · obtain ⟨e9, rfl, h9⟩ := hK
              rw [List.getElem?_map] at hk
              cases q2 : (valsFor s lo hi ps o mo)[k]? with
              | none => rw [q2] at hk; cases hk
              | some v =>
                rw [q2] at hk
                cases hk
                have hsk : (stepP s lo hi mo ps)[k]? = some (ps ++ [(o, v)]) := by rw [hsp, List.getElem?_map, q2]; rfl
                refine ⟨_, _, .name (i := 9) sc_told_lists.nd, ?_⟩
                refine .app (i := 6) (d := ePs (ps ++ [(o, v)])) rfl (.is (.addL (.var (i := 7) rfl) (.list (.one (.tup (.cons (.var (i := 8) rfl) (.one (.var (i := 9) rfl)))))) (by rw [List.length_map, sizeLine_eq]; have := okp.lz; simp; omega)) (by show Dt.lst _ = Dt.lst _; rw [List.map_append]; rfl)) rfl ?_ (.nil ⟨.dat (eV v), ?_, rfl⟩)
                · have := hbig k
                  rw [sizeLine_eq]
                  omega
                · rw [List.take_add_one, hsk, List.map_append, ← List.append_assoc]
                  rfl
            · obtain ⟨e9, rfl, h9⟩ := hK
              refine .nil (.nil ⟨.dat (ePs ps), .dat (eN o), e9, ?_, rfl, rfl, h9⟩)
              rw [hst, List.map_append, List.length_map]
              have e1 : (valsFor s lo hi ps o mo).length = (stepP s lo hi mo ps).length := by rw [hsp, List.length_map]
              rw [e1, List.take_length]
      · obtain ⟨e7, e8, e9, rfl, h7, h8, h9⟩ := hJ
        refine .asg (i := 4) (.own (i := 6) rfl) (.nil ⟨.dat d, .dat (.lst (((L.take (L.map ePs).length).flatMap (stepP s lo hi mo)).map ePs)), e7, e8, e9, ?_, rfl, rfl, h7, h8, h9⟩) sc_told_lists.nd
        rw [List.length_map, List.take_length, eNext]
        rfl
    · obtain ⟨e5, e6, e7, e8, e9, rfl, _⟩ := hI
      refine .ret (.var (i := 4) rfl) ?_
      show ePss _ = ePss _
      unfold intsTo toldL
      rw [List.length_map, List.length_range, hsl]
      rfl)
/-- what is in force -/
def forceV (t : Tl) (mo : Int) : Option Vl := (t[fIx (gt t) mo]?).map (·.2.2)
def togetherP (s : Story) (mo : Int) (p : Pr) : Bool := decide ((tlOf s p.1).bind (fun t => forceV t mo) = some p.2)
abbrev rWT : List Dt → Dt → Prop := fun ds d => ∃ s ps mo, ds = [eSt s, ePs ps, .int mo] ∧ OkStory s ∧ (∀ p ∈ ps, p.1 ∈ namesOf s ∧ OkV (namesOf s) p.2) ∧ d = .bl (ps.all (togetherP s mo))
theorem sc_were_together : FnScope ["story", "pairs", "moment", "name", "value", "timeline"] ["story", "pairs", "moment"] (defScope s_were_together) := ⟨rfl, rfl, rfl, by decide, rfl, by decide, by decide⟩
theorem were_together_ok (DI : DefOk P w K mg base "force_index" 1 2 (spD P w K 2 rFI)) (F : Fn K mg "were_together" s_were_together) : DefOk P w K mg base "were_together" 2 3 (spD P w K 3 rWT) :=
  defOk ["story", "pairs", "moment", "name", "value", "timeline"] ["story", "pairs", "moment"] F sc_were_together rfl (fun _ _ _ _ _ _ us h => by
    match us, h with
    | [_, _, _], _ => rfl) (by
    rintro fa cdv A outer s' H E hr ds d hl ⟨s, ps, mo, rfl, ok, hps, rfl⟩
    have hnm : ∀ n ∈ namesOf s, OkN n := fun n hn => (ok.nm n hn).1
    refine .for rfl (.list (.var (i := 1) rfl)) (fun i ρ => (ps.take i).all (togetherP s mo) = true ∧ ∃ e3 e4 e5, ρ = [.dat (eSt s), .dat (ePs ps), .dat (.int mo), e3, e4, e5] ∧ isOwn e3 = false ∧ isOwn e4 = false ∧ isOwn e5 = false) ⟨rfl, .un, .un, .un, rfl, rfl, rfl, rfl⟩ (fun i d ρ hi' hI => ?_) (fun ρ hI => ?_)
    · obtain ⟨hall, e3, e4, e5, rfl, _⟩ := hI
      rw [List.getElem?_map] at hi'
      cases q : ps[i]? with
      | none => rw [q] at hi'; cases hi'
      | some p =>
        rw [q] at hi'
        cases hi'
        have hp := hps p (List.mem_of_getElem? q)
        obtain ⟨t, ht⟩ := tlOf_some hp.1
        have hmt := ok.tl _ (tlOf_mem ht)
        have hfs := fIx_size (mo := mo) hmt.1.ne
        rw [gt_len] at hfs
        obtain ⟨e, he⟩ : ∃ e, t[fIx (gt t) mo]? = some e := ⟨_, List.getElem?_eq_getElem hfs⟩
        have hge : (gt t)[fIx (gt t) mo]? = some (e.1, e.2.1, eV e.2.2) := by rw [gt_get, he]; rfl
        have hv := hmt.2.2 e (List.mem_of_getElem? he)
        have htg : togetherP s mo p = decide (e.2.2 = p.2) := by
          unfold togetherP forceV
          rw [ht]
          show decide ((t[fIx (gt t) mo]?).map (·.2.2) = some p.2) = _
          rw [he]
          exact decide_eq_decide.mpr (by simp)
        refine ⟨_, _, .tup rfl (.cons (.name (i := 3) sc_were_together.nd) (.cons (.name (i := 4) sc_were_together.nd) .nil)) rfl, ?_⟩
        refine .asg (i := 5) (.ixSt hr (.var (i := 0) rfl) (.var (i := 3) rfl) ht) ?_ sc_were_together.nd
        refine .when (k := !togetherP s mo p) (ρ1 := [.dat (eSt s), .dat (ePs ps), .dat (.int mo), .dat (eN p.1), .dat (eV p.2), .dat (eGT (gt t))]) (.is (.cmp (.neD hr (.ixT (d := eV e.2.2) (.ixL (.var (i := 5) rfl) (.call DI hr (.cons (.var (i := 5) rfl) (.one (.var (i := 2) rfl))) ⟨gt t, mo, rfl, hmt.1, rfl⟩) (gt_at hge)) .int rfl) (.var (i := 4) rfl) (plain_of _ (ok.nb hv)) (plain_of _ (ok.nb hp.2)) (Nat.le_trans (dep_eV _) (by decide)) (Nat.le_trans (dep_eV _) (by decide)))) ?_) (fun h => .ret .bl ?_) fun h => ?_
        · rw [htg, eqd_of (e := eV) eV_inj (ok.nb hv) (ok.nb hp.2)]
        · show Dt.bl _ = Dt.bl _
          have h0 : togetherP s mo p = false := by simpa using h
          refine congrArg Dt.bl (Eq.symm ?_)
          rw [List.all_eq_false]
          exact ⟨p, List.mem_of_getElem? q, by rw [h0]; exact Bool.false_ne_true⟩
        · refine .nil ⟨?_, .dat (eN p.1), .dat (eV p.2), .dat (eGT (gt t)), rfl, rfl, rfl, rfl⟩
          rw [List.take_add_one, q, List.all_append, hall]
          simpa using h
    · obtain ⟨hall, e3, e4, e5, rfl, _⟩ := hI
      rw [List.length_map, List.take_length] at hall
      exact .ret .bl (by show Dt.bl _ = Dt.bl _; rw [hall]))
end Rw
namespace Rw
open PySem PySem.Spec PyProof.Rows L2
abbrev s_starts : Stmt := topS 76
abbrev s_torn_lists : Stmt := topS 77
abbrev s_may_tell_whole : Stmt := topS 78
abbrev s_torn : Stmt := topS 79
abbrev s_first_torn : Stmt := topS 80

/-! ### a dict of ints of one's own -/
def iks (ns : List Int) : List (Key × V) := ns.map fun n => (Sum.inl n, V.bl true)
theorem iks_put (ns : List Int) (n : Int) : putK (iks ns) (Sum.inl n) (.bl true) = iks (if n ∈ ns then ns else ns ++ [n]) := by
  have hany : ((iks ns).any fun kv => decide (kv.1 = (Sum.inl n : Key))) = decide (n ∈ ns) := by
    unfold iks
    rw [List.any_map]
    induction ns with
    | nil => rfl
    | cons m ns ih =>
      rw [List.any_cons, ih]
      by_cases h : m = n
      · subst h; simp
      · have h2 : ¬ n = m := fun z => h z.symm
        simp [h, h2]
  unfold putK
  rw [hany]
  by_cases h : n ∈ ns
  · simp only [h, decide_true, if_true]
    unfold iks
    rw [List.map_map]
    refine List.map_congr_left fun m _ => ?_
    simp only [Function.comp]
    split
    · next z => rw [z]
    · rfl
  · simp only [h, decide_false, if_false]
    unfold iks
    rw [List.map_append]
    rfl
section
variable {X : Cx} {ρ ρ' ρ1 ρ2 ρ3 : List En} {d : Dt} {e a b : Expr} {pos p : Pos} {r : Nat} {P : Ou → Prop} {rest : List Stmt} {ns : List Int}
theorem SD.newI {i : Nat} {x : Str} {lp : Pos} (hk : SD X rest (ρ.set i (.ob (.dK (iks [])))) P) (hN : X.N.Nodup) (hi : X.N[i]? = some x := by rfl) (h0 : i ≠ 0 := by decide) (hx : Loc X.env.scope x := by first | exact Or.inl rfl | exact Or.inr rfl)
    (hs : swapsWith (.Dict [] [] lp) (some (.Name x p)) pos.line X.env = pure false := by rfl) (hf : X.fn x = true ∨ X.env.scope.names.lookup x = some .local := by first | exact .inl rfl | exact .inr rfl) : SD X (.Assign [.Name x p] (.Dict [] [] lp) pos :: rest) ρ P :=
  .st (ps_set hN hi hx pe_dnewK hs hf) fun pp F G Hd H σ D er k => fun a ha => k.nx _ Hd _ _ (Ex.refl _) (er.own (en := .ob (.dK (iks []))) ha h0 ⟨a, rfl, er.fr.back ha, er.fresh ha, upd_same⟩) hk
/-- x[n] = True -/
theorem SD.putI {i n' : Nat} {n : Int} {x : Str} {px p2 : Pos} (hr : Room r X.A) (hi : ρ[i]? = some (.ob (.dK (iks ns)))) (hb : EV X b ρ (.int n) ρ) (hz : ns.length < sizeLine) (hk : SD X rest (ρ.set i (.ob (.dK (iks (if n ∈ ns then ns else ns ++ [n]))))) P) (hN : X.N[i]? = some x := by rfl)
    (hv : Vis X.env.scope x := by first | exact Or.inl rfl | exact Or.inr (Or.inl rfl) | exact Or.inr (Or.inr rfl)) (hd : (x == ("__debug__" : Str)) = false := by decide) (hcd : (x == ("__classdict__" : Str)) = false := by decide)
    (hs : swapsWith (.Constant (.bool true) n' p2) (some (.Subscript (.Name x px) b p)) pos.line X.env = pure false := by rfl) : SD X (.Assign [.Subscript (.Name x px) b p] (.Constant (.bool true) n' p2) pos :: rest) ρ P := by
  refine .st (ps_dput (by have := hr.un; omega) (pe_var hN hv hd hcd) pe_c pe_bl hs) fun pp F G Hd H σ D er k => ?_
  obtain ⟨y0, q0, a, rfl, _⟩ := er.sl i _ hi
  refine ⟨.ref a, q0, hb pp F G Hd H σ _ er fun u Hd1 H1 e1 er1 r1 => ?_⟩
  cases r1
  obtain ⟨y, q1, a', ey, hF, hHd, hH⟩ := er1.sl i _ hi
  subst ey
  rw [q0] at q1
  cases q1
  refine ⟨a, _, rfl, DPut.k (k := Sum.inl n) hH (by unfold iks; rw [List.length_map]; exact hz), ?_⟩
  rw [iks_put]
  exact k.nx _ Hd1 _ _ e1 (er1.mut (en := .ob (.dK (iks (if n ∈ ns then ns else ns ++ [n])))) hi rfl q0 ⟨a, rfl, hF, hHd, upd_same⟩ rfl) hk
def sortI (l : List Int) : List Int := l.mergeSort fun a b => decide (a ≤ b)
theorem sortI_pair (l : List Int) : (sortI l).Pairwise (· ≤ ·) := by
  have h := List.pairwise_mergeSort (le := fun a b : Int => decide (a ≤ b)) (fun a b c h1 h2 => by simp at *; omega) (fun a b => by simp; omega) l
  exact h.imp fun h => of_decide_eq_true h
theorem sortI_is {l ns : List Int} (hp : ns.Perm l) (hs : ns.Pairwise (· ≤ ·)) : ns = sortI l :=
  List.Perm.eq_of_pairwise (le := (· ≤ ·)) (fun a b _ _ h1 h2 => by omega) hs (sortI_pair l) (hp.trans (List.mergeSort_perm _ _).symm)
theorem EV.sortedDI {i : Nat} {x : Str} {px : Pos} (hc : X.calm = true) (hm : X.mg "sorted" = none) (hi : ρ[i]? = some (.ob (.dK (iks ns)))) (h64 : ns.length < 64) (hN : X.N[i]? = some x := by rfl)
    (hv : Vis X.env.scope x := by first | exact Or.inl rfl | exact Or.inr (Or.inl rfl) | exact Or.inr (Or.inr rfl)) (hd : (x == ("__debug__" : Str)) = false := by decide) (hcd : (x == ("__classdict__" : Str)) = false := by decide) (hg : Gl X "sorted" := by rfl)
    (he : starEach (.Name x px :: []) X.env = (false, eval (.Name x px) X.env) :: starEach [] X.env := by rfl) : EV X (.Call (.Name "sorted" p) [.Name x px] [] pos) ρ (.lst ((sortI ns).map .int)) ρ :=
  .of (pe_callB (call_sortedDI hc) hg hm (by decide +kernel) (pa_cons (pe_var hN hv hd hcd) pa_nil he) (by decide) (by decide) he (by rfl)) fun pp F G Hd H σ Q er k => by
    obtain ⟨y0, q0, a, rfl, hF, hHd, hH⟩ := er.sl i _ hi
    refine ⟨.ref a, q0, a, iks ns, ns, rfl, .inl hH, ?_, h64, fun ys p' hp hs hn => ?_⟩
    · unfold iks
      rw [List.map_map]
      rfl
    · rw [sortI_is hp hs]
      exact k.new er hn (.lst upd_same (RepL.of_ints _))
end
variable {P : Program} {w : World} {K : PySem.W.Frag} {mg : Str → Option Value} {base : Heap}
def moms (p : Nm × Tl) : List Int := p.2.map (·.1)
def stM (s : Story) : List Int := ded (s.flatMap moms)
def startsOf (s : Story) : List Int := sortI (stM s)
theorem flat_len_le {α β : Type} {f : α → List β} {m : Nat} : ∀ {l : List α}, (∀ a ∈ l, (f a).length ≤ m) → (l.flatMap f).length ≤ l.length * m
  | [], _ => by simp
  | a :: l, h => by
    rw [List.flatMap_cons, List.length_append, List.length_cons, Nat.succ_mul]
    have h1 := h a (.head _)
    have h2 := flat_len_le fun b hb => h b (.tail _ hb)
    omega
theorem moms_all {s : Story} (ok : OkStory s) : (s.flatMap moms).length ≤ 48 := by
  have h := flat_len_le (f := moms) (l := s) (m := 8) fun p hp => by unfold moms; rw [List.length_map]; exact (ok.tl p hp).2.1
  have := ok.lz
  omega
abbrev rSts : List Dt → Dt → Prop := fun ds d => ∃ s, ds = [eSt s] ∧ OkStory s ∧ d = .lst ((startsOf s).map .int)
theorem sc_starts : FnScope ["story", "found", "timeline", "entry"] ["story"] (defScope s_starts) := ⟨rfl, rfl, rfl, by decide, rfl, by decide, by decide⟩
theorem starts_ok (B : Bs mg) (F : Fn K mg "starts" s_starts) : DefOk P w K mg base "starts" 1 1 (spD P w K 1 rSts) :=
  defOk ["story", "found", "timeline", "entry"] ["story"] F sc_starts rfl (fun _ _ _ _ _ _ us h => by
    match us, h with
    | [_], _ => rfl) (by
    rintro fa cdv A outer s' H E hr ds d hl ⟨s, rfl, ok, rfl⟩
    have hall := moms_all ok
    refine .newI (i := 1) ?_ sc_starts.nd
    refine .for rfl (.vals (.var (i := 0) rfl)) (fun i ρ => ∃ e2 e3, ρ = [.dat (eSt s), .ob (.dK (iks (ded ((s.take i).flatMap moms)))), e2, e3] ∧ isOwn e2 = false ∧ isOwn e3 = false) ⟨.un, .un, rfl, rfl, rfl⟩ (fun i d ρ hi' hI => ?_) (fun ρ hI => ?_)
    · obtain ⟨e2, e3, rfl, h2, h3⟩ := hI
      unfold eKv at hi'
      rw [List.map_map, List.getElem?_map] at hi'
      cases q : s[i]? with
      | none => rw [q] at hi'; cases hi'
      | some p =>
        rw [q] at hi'
        cases hi'
        have hst := flat_snoc moms q
        refine ⟨_, _, .name (i := 2) sc_starts.nd, ?_⟩
        refine .for rfl (.list (.var (i := 2) rfl)) (fun j ρ => ∃ e3, ρ = [.dat (eSt s), .ob (.dK (iks (ded ((s.take i).flatMap moms ++ (moms p).take j)))), .dat (eGT (gt p.2)), e3] ∧ isOwn e3 = false) ⟨e3, by rw [List.take_zero, List.append_nil]; rfl, h3⟩ (fun j d ρ hj hJ => ?_) (fun ρ hJ => ?_)
        · obtain ⟨e3, rfl, h3⟩ := hJ
          rw [List.getElem?_map] at hj
          cases q2 : (gt p.2)[j]? with
          | none => rw [q2] at hj; cases hj
          | some g =>
            rw [q2] at hj
            cases hj
            have hm : (moms p)[j]? = some g.1 := by
              rw [gt_get] at q2
              unfold moms
              rw [List.getElem?_map]
              cases z : p.2[j]? with
              | none => rw [z] at q2; cases q2
              | some e => rw [z] at q2; cases q2; rfl
            refine ⟨_, _, .name (i := 3) sc_starts.nd, ?_⟩
            refine .putI (i := 1) hr rfl (.ixT (d := .int g.1) (.var (i := 3) rfl) .int rfl) ?_ (.nil ⟨.dat (eGE g), ?_, rfl⟩)
            · have h1 := ded_len ((s.take i).flatMap moms ++ (moms p).take j)
              have h2 := flat_take_le moms s (i + 1)
              rw [hst, List.length_append] at h2
              rw [List.length_append, List.length_take] at h1
              rw [sizeLine_eq]
              omega
            · rw [List.take_add_one, hm]
              show _ = [_, En.ob (.dK (iks (ded ((s.take i).flatMap moms ++ ((moms p).take j ++ [g.1]))))), _, _]
              rw [← List.append_assoc, ded_snoc]
              rfl
        · obtain ⟨e3, rfl, h3⟩ := hJ
          refine .nil ⟨.dat (eGT (gt p.2)), e3, ?_, rfl, h3⟩
          have e1 : ((gt p.2).map eGE).length = (moms p).length := by unfold moms; rw [List.length_map, gt_len, List.length_map]
          rw [hst, e1, List.take_length]
    · obtain ⟨e2, e3, rfl, _⟩ := hI
      have e1 : ((eKv s).map (·.2)).length = s.length := by rw [List.length_map, st_len]
      rw [e1, List.take_length]
      have h1 := ded_len (s.flatMap moms)
      exact .ret (.sortedDI (i := 1) rfl B.sorted rfl (by omega)) rfl)
def momsTo (s : Story) (mo : Int) : List Int := (startsOf s).filter fun m => decide (m ≤ mo)
def isTorn (s : Story) (mo : Int) (ps : Ps) : Bool := !(momsTo s mo).any fun st => ps.all (togetherP s st)
def tornL (s : Story) (lo hi : Int) (n : Nm) (mo : Int) : List Ps := (toldL s lo hi n mo).filter (isTorn s mo)
abbrev rToL : List Dt → Dt → Prop := fun ds d => ∃ s lo hi n mo, ds = [eSt s, ePol lo hi, eN n, .int mo] ∧ OkStory s ∧ n ∈ namesOf s ∧ d = ePss (tornL s lo hi n mo)
abbrev nTo : List Str := ["story", "policy", "name", "moment", "moments", "found", "pairs", "start"]
theorem sc_torn_lists : FnScope nTo ["story", "policy", "name", "moment"] (defScope s_torn_lists) := ⟨rfl, rfl, rfl, by decide, rfl, by decide, by decide⟩
theorem starts_len {s : Story} (ok : OkStory s) : (startsOf s).length ≤ 48 := by
  unfold startsOf sortI stM
  rw [(List.mergeSort_perm _ _).length_eq]
  exact Nat.le_trans (ded_len _) (moms_all ok)
theorem told_size {s : Story} (ok : OkStory s) {lo hi mo : Int} {n : Nm} (hn : n ∈ namesOf s) : (toldL s lo hi n mo).length ≤ 2097152 := by
  have h := (tls_ok ok (lo := lo) (hi := hi) (mo := mo) hn s.length ok.lz).2
  exact Nat.le_trans h (pow8 ok.lz)
theorem toldL_ok {s : Story} (ok : OkStory s) {lo hi mo : Int} {n : Nm} (hn : n ∈ namesOf s) : ∀ ps ∈ toldL s lo hi n mo, OkPs s ps := fun ps h => ((tls_ok ok (lo := lo) (hi := hi) (mo := mo) hn s.length ok.lz).1 ps h).1
theorem torn_lists_ok (B : Bs mg) (DS : DefOk P w K mg base "starts" 1 1 (spD P w K 1 rSts)) (DT : DefOk P w K mg base "told_lists" 5 4 (spD P w K 4 rTL)) (DW : DefOk P w K mg base "were_together" 2 3 (spD P w K 3 rWT)) (F : Fn K mg "torn_lists" s_torn_lists) : DefOk P w K mg base "torn_lists" 6 4 (spD P w K 4 rToL) :=
  defOk nTo ["story", "policy", "name", "moment"] F sc_torn_lists rfl (fun _ _ _ _ _ _ us h => by
    match us, h with
    | [_, _, _, _], _ => rfl) (by
    rintro fa cdv A outer s' H E hr ds d hl ⟨s, lo, hi, n, mo, rfl, ok, hn, rfl⟩
    have hr1 := hr.mono (show 1 ≤ 5 by decide)
    have hr2 := hr.mono (show 2 ≤ 5 by decide)
    have hsl := starts_len ok
    have htl := told_size ok (lo := lo) (hi := hi) (mo := mo) hn
    refine .lcF (i := 4) [("start", 7)] [7] (fun d => match d with | Dt.int m => if m ≤ mo then some (Dt.int m) else none | _ => none) rfl sc_torn_lists.nd (.list (.call DS hr1 (.one (.var (i := 0) rfl)) ⟨s, rfl, ok, rfl⟩)) (by rw [List.length_map, sizeLine_eq]; omega) (fun d hd => ?_) ?_
    · obtain ⟨m, _, rfl⟩ := List.mem_map.mp hd
      refine .if (b := decide (m ≤ mo)) (fun _ _ _ _ _ => .name sc_torn_lists.nd) (Agree.wiped.set (by decide)) (fun _ _ _ _ _ => .cmp (.le (.var (i := 7) rfl) (.var (i := 3) rfl))) (fun h => ?_) fun h => ⟨.int m, ?_, fun _ _ _ _ _ => .var (i := 7) rfl⟩
      · simp only [of_decide_eq_false h, if_false]
      · simp only [of_decide_eq_true h, if_true]
    have e1 : ((startsOf s).map Dt.int).filterMap (fun d => match d with | Dt.int m => if m ≤ mo then some (Dt.int m) else none | _ => none) = (momsTo s mo).map Dt.int := by
      unfold momsTo
      induction startsOf s with
      | nil => rfl
      | cons m l ih =>
        rw [List.map_cons, List.filterMap_cons, List.filter_cons]
        by_cases h : m ≤ mo
        · simp only [h, if_true, decide_true, List.map_cons, ih]
        · simp only [h, if_false, decide_false, ih]
          rfl
    rw [e1]
    have hml : (momsTo s mo).length ≤ 48 := Nat.le_trans (List.length_filter_le _ _) hsl
    refine .newL (i := 5) ?_ sc_torn_lists.nd
    refine .for rfl (.list (.call DT hr (.cons (.var (i := 0) rfl) (.cons (.var (i := 1) rfl) (.cons (.var (i := 2) rfl) (.one (.var (i := 3) rfl))))) ⟨s, lo, hi, n, mo, rfl, ok, hn, rfl⟩)) (fun i ρ => ∃ e6, ρ = [.dat (eSt s), .dat (ePol lo hi), .dat (eN n), .dat (.int mo), .dat (.lst ((momsTo s mo).map .int)), .ol ((((toldL s lo hi n mo).take i).filter (isTorn s mo)).map ePs), e6, .un] ∧ isOwn e6 = false) ⟨.un, rfl, rfl⟩ (fun i d ρ hi' hI => ?_) (fun ρ hI => ?_)
    · obtain ⟨e6, rfl, _⟩ := hI
      rw [List.getElem?_map] at hi'
      cases q : (toldL s lo hi n mo)[i]? with
      | none => rw [q] at hi'; cases hi'
      | some ps =>
        rw [q] at hi'
        cases hi'
        have okp := toldL_ok ok hn ps (List.mem_of_getElem? q)
        refine ⟨_, _, .name (i := 6) sc_torn_lists.nd, ?_⟩
        refine .when (k := isTorn s mo ps) (ρ1 := [.dat (eSt s), .dat (ePol lo hi), .dat (eN n), .dat (.int mo), .dat (.lst ((momsTo s mo).map .int)), .ol ((((toldL s lo hi n mo).take i).filter (isTorn s mo)).map ePs), .dat (ePs ps), .un]) (.is (.not (.val (.any (bs := (momsTo s mo).map fun st => ps.all (togetherP s st)) rfl B.any (.is (.lcF [("start", 7)] [7] (fun d => match d with | .int m => some (.bl (ps.all (togetherP s m))) | _ => none) rfl sc_torn_lists.nd (.list (.var (i := 4) rfl)) (by rw [List.length_map, sizeLine_eq]; omega) fun d hd => ?_) ?_)))) ?_) (fun h => ?_) fun h => ?_
        · obtain ⟨m, _, rfl⟩ := List.mem_map.mp hd
          exact .map (fun _ _ _ _ _ => .name sc_torn_lists.nd) (Agree.wiped.set (by decide)) rfl fun _ _ _ _ _ => .call DW hr2 (.cons (.var (i := 0) rfl) (.cons (.var (i := 6) rfl) (.one (.var (i := 7) rfl)))) ⟨s, ps, m, rfl, ok, okp.ok, rfl⟩
        · rw [List.filterMap_map, List.map_map]
          exact congrArg Dt.lst (filterMap_some (fun m : Int => Dt.bl (ps.all (togetherP s m))) _)
        · rw [List.any_map]
          rfl
        · refine .app (i := 5) rfl (.var (i := 6) rfl) rfl ?_ (.nil (.nil ⟨.dat (ePs ps), ?_, rfl⟩))
          · have h1 := List.length_filter_le (isTorn s mo) ((toldL s lo hi n mo).take i)
            rw [List.length_take] at h1
            rw [List.length_map, sizeLine_eq]
            omega
          · rw [List.take_add_one, q, List.filter_append, List.map_append]
            show _ = [_, _, _, _, _, En.ol (_ ++ List.map ePs (List.filter (isTorn s mo) [ps])), _, _]
            rw [List.filter_cons, if_pos h]
            rfl
        · refine .nil ⟨.dat (ePs ps), ?_, rfl⟩
          rw [List.take_add_one, q, List.filter_append, List.map_append]
          show _ = [_, _, _, _, _, En.ol (_ ++ List.map ePs (List.filter (isTorn s mo) [ps])), _, _]
          rw [List.filter_cons, if_neg (by rw [h]; exact Bool.false_ne_true)]
          show _ = [_, _, _, _, _, En.ol (_ ++ []), _, _]
          rw [List.append_nil]
    · obtain ⟨e6, rfl, _⟩ := hI
      refine .ret (.own (i := 5) rfl) ?_
      show Dt.lst _ = Dt.lst _
      rw [List.length_map, List.take_length]
      rfl)
end Rw
namespace Rw
open PySem PySem.Spec PyProof.Rows L2
variable {P : Program} {w : World} {K : PySem.W.Frag} {mg : Str → Option Value} {base : Heap}
abbrev rWh (f : Story → Int → Int → Nm → Int → List Ps) : List Dt → Dt → Prop := fun ds d => ∃ s lo hi n mo, ds = [eSt s, ePol lo hi, eN n, .int mo] ∧ OkStory s ∧ OkPol lo hi ∧ n ∈ namesOf s ∧ 0 ≤ mo ∧ d = ePss (f s lo hi n mo)
theorem sc_may_tell_whole : FnScope ["story", "policy", "name", "moment"] ["story", "policy", "name", "moment"] (defScope s_may_tell_whole) := ⟨rfl, rfl, rfl, by decide, rfl, by decide, by decide⟩
theorem sc_torn : FnScope ["story", "policy", "name", "moment"] ["story", "policy", "name", "moment"] (defScope s_torn) := ⟨rfl, rfl, rfl, by decide, rfl, by decide, by decide⟩
theorem may_tell_whole_ok (DS : DefOk P w K mg base "need_story" 6 1 (spD P w K 1 rNSt)) (DP : DefOk P w K mg base "need_policy" 4 1 (spD P w K 1 (rPol .non))) (DN : DefOk P w K mg base "need_story_name" 5 2 (spD P w K 2 rNSN)) (DM : DefOk P w K mg base "need_moment" 3 1 (spD P w K 1 rMom)) (DT : DefOk P w K mg base "told_lists" 5 4 (spD P w K 4 rTL)) (F : Fn K mg "may_tell_whole" s_may_tell_whole) :
    DefOk P w K mg base "may_tell_whole" 7 4 (spD P w K 4 (rWh toldL)) :=
  defOk ["story", "policy", "name", "moment"] ["story", "policy", "name", "moment"] F sc_may_tell_whole rfl (fun _ _ _ _ _ _ us h => by
    match us, h with
    | [_, _, _, _], _ => rfl) (by
    rintro fa cdv A outer s' H E hr ds d hl ⟨s, lo, hi, n, mo, rfl, ok, okp, hn, h0, rfl⟩
    refine .expr (.call DS hr (.one (.var (i := 0) rfl)) ⟨s, rfl, ok, rfl⟩) ?_
    refine .expr (.call DP (hr.mono (by decide)) (.one (.var (i := 1) rfl)) ⟨lo, hi, rfl, okp, rfl⟩) ?_
    refine .expr (.call DN (hr.mono (by decide)) (.cons (.var (i := 0) rfl) (.one (.var (i := 2) rfl))) ⟨s, n, rfl, ok, hn, rfl⟩) ?_
    refine .expr (.call DM (hr.mono (by decide)) (.one (.var (i := 3) rfl)) ⟨mo, rfl, h0, rfl⟩) ?_
    exact .ret (.call DT (hr.mono (by decide)) (.cons (.var (i := 0) rfl) (.cons (.var (i := 1) rfl) (.cons (.var (i := 2) rfl) (.one (.var (i := 3) rfl))))) ⟨s, lo, hi, n, mo, rfl, ok, hn, rfl⟩) rfl)
theorem torn_ok (DS : DefOk P w K mg base "need_story" 6 1 (spD P w K 1 rNSt)) (DP : DefOk P w K mg base "need_policy" 4 1 (spD P w K 1 (rPol .non))) (DN : DefOk P w K mg base "need_story_name" 5 2 (spD P w K 2 rNSN)) (DM : DefOk P w K mg base "need_moment" 3 1 (spD P w K 1 rMom)) (DT : DefOk P w K mg base "torn_lists" 6 4 (spD P w K 4 rToL)) (F : Fn K mg "torn" s_torn) :
    DefOk P w K mg base "torn" 7 4 (spD P w K 4 (rWh tornL)) :=
  defOk ["story", "policy", "name", "moment"] ["story", "policy", "name", "moment"] F sc_torn rfl (fun _ _ _ _ _ _ us h => by
    match us, h with
    | [_, _, _, _], _ => rfl) (by
    rintro fa cdv A outer s' H E hr ds d hl ⟨s, lo, hi, n, mo, rfl, ok, okp, hn, h0, rfl⟩
    refine .expr (.call DS hr (.one (.var (i := 0) rfl)) ⟨s, rfl, ok, rfl⟩) ?_
    refine .expr (.call DP (hr.mono (by decide)) (.one (.var (i := 1) rfl)) ⟨lo, hi, rfl, okp, rfl⟩) ?_
    refine .expr (.call DN (hr.mono (by decide)) (.cons (.var (i := 0) rfl) (.one (.var (i := 2) rfl))) ⟨s, n, rfl, ok, hn, rfl⟩) ?_
    refine .expr (.call DM (hr.mono (by decide)) (.one (.var (i := 3) rfl)) ⟨mo, rfl, h0, rfl⟩) ?_
    exact .ret (.call DT hr (.cons (.var (i := 0) rfl) (.cons (.var (i := 1) rfl) (.cons (.var (i := 2) rfl) (.one (.var (i := 3) rfl))))) ⟨s, lo, hi, n, mo, rfl, ok, hn, rfl⟩) rfl)
def oI : Option Int → Dt
  | none => .non
  | some i => .int i
def firstT (s : Story) (lo hi : Int) (n : Nm) : Option Int := (startsOf s).find? fun m => !(tornL s lo hi n m).isEmpty
abbrev rFT : List Dt → Dt → Prop := fun ds d => ∃ s lo hi n, ds = [eSt s, ePol lo hi, eN n] ∧ OkStory s ∧ OkPol lo hi ∧ n ∈ namesOf s ∧ d = oI (firstT s lo hi n)
theorem sc_first_torn : FnScope ["story", "policy", "name", "moment"] ["story", "policy", "name"] (defScope s_first_torn) := ⟨rfl, rfl, rfl, by decide, rfl, by decide, by decide⟩
theorem find_appG {α : Type} {p : α → Bool} {l : List α} {i : Nat} {a : α} (h : ∀ q ∈ l.take i, p q = false) (hi : l[i]? = some a) (hp : p a = true) : l.find? p = some a := by
  have e : l = l.take i ++ a :: l.drop (i + 1) := by
    obtain ⟨h1, h2⟩ := (List.getElem?_eq_some_iff.mp hi)
    rw [← h2, ← List.drop_eq_getElem_cons h1, List.take_append_drop]
  rw [e, List.find?_append, List.find?_eq_none.mpr fun q hq => by rw [h q hq]; exact Bool.false_ne_true, Option.none_or, List.find?_cons, hp]
theorem first_torn_ok (B : Bs mg) (DS : DefOk P w K mg base "need_story" 6 1 (spD P w K 1 rNSt)) (DP : DefOk P w K mg base "need_policy" 4 1 (spD P w K 1 (rPol .non))) (DN : DefOk P w K mg base "need_story_name" 5 2 (spD P w K 2 rNSN)) (DSt : DefOk P w K mg base "starts" 1 1 (spD P w K 1 rSts)) (DT : DefOk P w K mg base "torn_lists" 6 4 (spD P w K 4 rToL)) (F : Fn K mg "first_torn" s_first_torn) :
    DefOk P w K mg base "first_torn" 7 3 (spD P w K 3 rFT) :=
  defOk ["story", "policy", "name", "moment"] ["story", "policy", "name"] F sc_first_torn rfl (fun _ _ _ _ _ _ us h => by
    match us, h with
    | [_, _, _], _ => rfl) (by
    rintro fa cdv A outer s' H E hr ds d hl ⟨s, lo, hi, n, rfl, ok, okp, hn, rfl⟩
    refine .expr (.call DS hr (.one (.var (i := 0) rfl)) ⟨s, rfl, ok, rfl⟩) ?_
    refine .expr (.call DP (hr.mono (by decide)) (.one (.var (i := 1) rfl)) ⟨lo, hi, rfl, okp, rfl⟩) ?_
    refine .expr (.call DN (hr.mono (by decide)) (.cons (.var (i := 0) rfl) (.one (.var (i := 2) rfl))) ⟨s, n, rfl, ok, hn, rfl⟩) ?_
    refine .for rfl (.list (.call DSt (hr.mono (by decide)) (.one (.var (i := 0) rfl)) ⟨s, rfl, ok, rfl⟩)) (fun i ρ => (∀ m ∈ (startsOf s).take i, (!(tornL s lo hi n m).isEmpty) = false) ∧ ∃ e3, ρ = [.dat (eSt s), .dat (ePol lo hi), .dat (eN n), e3] ∧ isOwn e3 = false) ⟨fun m hm => by simp at hm, .un, rfl, rfl⟩ (fun i d ρ hi' hI => ?_) (fun ρ hI => ?_)
    · obtain ⟨hno, e3, rfl, _⟩ := hI
      rw [List.getElem?_map] at hi'
      cases q : (startsOf s)[i]? with
      | none => rw [q] at hi'; cases hi'
      | some m =>
        rw [q] at hi'
        cases hi'
        refine ⟨_, _, .name (i := 3) sc_first_torn.nd, ?_⟩
        refine .when (k := !(tornL s lo hi n m).isEmpty) (ρ1 := [.dat (eSt s), .dat (ePol lo hi), .dat (eN n), .dat (.int m)]) (.is (.cmp (.gt (.lenL B.len (.call DT hr (.cons (.var (i := 0) rfl) (.cons (.var (i := 1) rfl) (.cons (.var (i := 2) rfl) (.one (.var (i := 3) rfl))))) ⟨s, lo, hi, n, m, rfl, ok, hn, rfl⟩)) .int)) ?_) (fun h => .ret (.var (i := 3) rfl) ?_) fun h => ?_
        · rw [List.length_map]
          cases z : tornL s lo hi n m with
          | nil => rfl
          | cons a l => simp
        · show Dt.int m = _
          unfold firstT
          rw [find_appG hno q h]
          rfl
        · refine .nil ⟨fun m' hm' => ?_, .dat (.int m), rfl, rfl⟩
          rw [List.take_add_one, q] at hm'
          rcases List.mem_append.mp hm' with z | z
          · exact hno m' z
          · rw [List.mem_singleton.mp z]; exact h
    · obtain ⟨hno, e3, rfl, _⟩ := hI
      rw [List.length_map, List.take_length] at hno
      refine .ret .non ?_
      show Dt.non = _
      unfold firstT
      rw [List.find?_eq_none.mpr fun q hq => by rw [hno q hq]; exact Bool.false_ne_true]
      rfl)
end Rw
namespace Rw
open PySem PySem.Spec PyProof.Rows L2
abbrev s_need_inside : Stmt := topS 84
abbrev s_found_source : Stmt := topS 85
abbrev s_source_answer : Stmt := topS 87
abbrev s_found_answer : Stmt := topS 88
abbrev s_next_name : Stmt := topS 89
abbrev s_stop_word : Stmt := topS 90
abbrev s_walked : Stmt := topS 91
abbrev s_chase : Stmt := topS 92
abbrev s_chase_end : Stmt := topS 93
abbrev s_Zone (i : Nat) : Stmt := inClass (topS 99) i
variable {P : Program} {w : World} {K : PySem.W.Frag} {mg : Str → Option Value} {base : Heap}

/-! ### what a zone holds -/
abbrev ZL := List (Nm × Int × Vl)
def rowOf (e : Nm × Int × Vl) : Row := match e.2.2 with
  | .rows s => .text e.1 e.2.1 s
  | .to m => .ali e.1 e.2.1 m
def zrows (l : ZL) : List Row := .start :: .serv :: l.map rowOf
theorem rowOf_nm (e : Nm × Int × Vl) : (rowOf e).nm = e.1 := by obtain ⟨n, a, v⟩ := e; cases v <;> rfl
theorem rowOf_ag (e : Nm × Int × Vl) : (rowOf e).ag = e.2.1 := by obtain ⟨n, a, v⟩ := e; cases v <;> rfl
def zNames (l : ZL) : List Nm := l.map (·.1)
structure OkZ (l : ZL) : Prop where
  lz : l.length ≤ 6
  nd : (zNames l).Nodup
  nm : ∀ n ∈ zNames l, OkN n ∧ n ≠ [] ∧ n.length ≤ 10
  ok : ∀ e ∈ l, 0 ≤ e.2.1 ∧ e.2.1 < 2147483648 ∧ OkV (zNames l) e.2.2
def kk (r : Row) : NestedKey := .tup [nk r.nm, .text r.kd]
def setsOf (rs : List Row) : List (NestedKey × Dt) := rs.map fun r => (kk r, eGr r)
def suff (n : Nm) : List Nm := (List.range (n.length + 1)).map fun i => n.drop i
def thereOf (rs : List Row) : List (NestedKey × Dt) := (rs.flatMap fun r => suff r.nm).foldl (fun acc n => dput acc (nk n) (.bl true)) []
def zonD (rs : List Row) : List (Str × Dt) := [("_apex", eN []), ("_kept", eRs rs), ("_sets", .dic (setsOf rs)), ("_cuts", .dic []), ("_trees", .dic []), ("_there", .dic (thereOf rs)), ("_serial", .int 1), ("_absent", .int 5)]
def zonE (l : ZL) : Dt := .zon (zonD (srt (zrows l)))
/-! look-ups -/
theorem lk_dput (kvs : List (NestedKey × Dt)) (k k' : NestedKey) (d : Dt) : (lk (dput kvs k d) k').isSome = (decide (k = k') || (lk kvs k').isSome) := by
  unfold dput
  cases h : (lk kvs k).isSome with
  | true =>
    rw [if_pos rfl]
    have e : ∀ l : List (NestedKey × Dt), (lk (l.map fun p => if p.1 = k then (p.1, d) else p) k').isSome = (lk l k').isSome := by
      intro l
      induction l with
      | nil => rfl
      | cons p l ih =>
        rw [List.map_cons]
        show (if (if p.1 = k then (p.1, d) else p).1 = k' then some (if p.1 = k then (p.1, d) else p).2 else lk (l.map _) k').isSome = (if p.1 = k' then some p.2 else lk l k').isSome
        by_cases h1 : p.1 = k
        · simp only [h1, if_true]
          by_cases h2 : k = k'
          · simp [h2]
          · simp only [h2, if_false]; exact ih
        · simp only [h1, if_false]
          by_cases h2 : p.1 = k'
          · simp [h2]
          · simp only [h2, if_false]; exact ih
    rw [e]
    by_cases hk : k = k'
    · subst hk; rw [h]; simp
    · simp [hk]
  | false =>
    rw [if_neg Bool.false_ne_true]
    clear h
    induction kvs with
    | nil =>
      show (if k = k' then some d else none).isSome = _
      by_cases hk : k = k'
      · simp [hk]
      · simp only [hk, if_false, decide_false]; rfl
    | cons p l ih =>
      show (if p.1 = k' then some p.2 else lk (l ++ [(k, d)]) k').isSome = (decide (k = k') || (if p.1 = k' then some p.2 else lk l k').isSome)
      by_cases h2 : p.1 = k'
      · simp [h2]
      · simp only [h2, if_false]; exact ih
theorem lk_fold (ns : List Nm) (n : Nm) : ∀ acc : List (NestedKey × Dt), (n ∈ ns ∨ (lk acc (nk n)).isSome = true) → (lk (ns.foldl (fun acc n => dput acc (nk n) (.bl true)) acc) (nk n)).isSome = true := by
  induction ns with
  | nil => intro acc h; rcases h with h | h
           · cases h
           · exact h
  | cons m ns ih =>
    intro acc h
    refine ih _ ?_
    rcases h with h | h
    · rcases List.mem_cons.mp h with z | z
      · right; rw [lk_dput, z]; simp
      · exact .inl z
    · right; rw [lk_dput, h]; simp
theorem there_in {rs : List Row} {r : Row} (h : r ∈ rs) : (lk (thereOf rs) (nk r.nm)).isSome = true := by
  refine lk_fold _ _ _ (.inl (List.mem_flatMap.mpr ⟨r, h, List.mem_map.mpr ⟨0, by simp, rfl⟩⟩))
theorem kk_inj {r r' : Row} (h : kk r = kk r') : r.k2 = r'.k2 := by
  unfold kk at h
  injection h with h
  injection h with h1 h
  injection h with h2 h
  injection h2 with h2
  unfold Row.k2
  rw [nk_inj h1, h2]
theorem lk_sets {rs : List Row} (nd : (rs.map Row.k2).Nodup) {r : Row} (h : r ∈ rs) : lk (setsOf rs) (kk r) = some (eGr r) := by
  induction rs with
  | nil => cases h
  | cons r0 rs ih =>
    show (if kk r0 = kk r then some (eGr r0) else lk (setsOf rs) (kk r)) = _
    rw [List.map_cons, List.nodup_cons] at nd
    rcases List.mem_cons.mp h with z | z
    · subst z; rw [if_pos rfl]
    · have ne : ¬ kk r0 = kk r := fun q => nd.1 (by rw [kk_inj q]; exact List.mem_map.mpr ⟨r, z, rfl⟩)
      rw [if_neg ne]
      exact ih nd.2 z
theorem lk_sets_none {rs : List Row} {n : Nm} {k : Str} (h : ∀ r ∈ rs, ¬ (r.nm = n ∧ r.kd = k)) : lk (setsOf rs) (.tup [nk n, .text k]) = none := by
  induction rs with
  | nil => rfl
  | cons r0 rs ih =>
    show (if kk r0 = .tup [nk n, .text k] then some (eGr r0) else lk (setsOf rs) _) = _
    have ne : ¬ kk r0 = .tup [nk n, .text k] := fun q => h r0 (.head _) (by
      unfold kk at q
      injection q with q
      injection q with h1 q
      injection q with h2 q
      injection h2 with h2
      exact ⟨nk_inj h1, h2⟩)
    rw [if_neg ne]
    exact ih fun r hr => h r (.tail _ hr)

/-! ### the class -/
structure ZC (K : PySem.W.Frag) : Prop where
  cls : Cls K (He.ga K "Zone")
  apex : NoAttr K (He.ga K "Zone") "_apex"
  kept : NoAttr K (He.ga K "Zone") "_kept"
  sets : NoAttr K (He.ga K "Zone") "_sets"
  cuts : NoAttr K (He.ga K "Zone") "_cuts"
  trees : NoAttr K (He.ga K "Zone") "_trees"
  there : NoAttr K (He.ga K "Zone") "_there"
  serial : NoAttr K (He.ga K "Zone") "_serial"
  absent : NoAttr K (He.ga K "Zone") "_absent"
/-- a method of the class, told by the head -/
structure Mn (K : PySem.W.Frag) (m : Str) (s : Stmt) : Prop where
  ex : ∃ fa fd q, Meth K (He.ga K "Zone") m fa ∧ Fun K m q s fa fd
theorem metOk {k n : Nat} {m : Str} {s : Stmt} {rel : List Dt → Dt → Prop} (C : ZC K) (N ps : List Str) (F : Mn K m s) (S : FnScope N ps (defScope s)) (hn : ps.length = n)
    (hb : ∀ q kV doc pm an cdv ct us, us.length = ps.length → bindArgs (PySem.W.fnOf m q (defArgs s) (defBody s) (defScope s) .none kV doc pm an cdv ct) ⟨us, []⟩ = pure (ps.zip us))
    (h : ∀ q fa cdv A outer s' H E, Room k (A.deeper (envOfC q (defScope s) s'.heap.objs.size fa cdv)) → ∀ ds d, ds.length = n → rel ds d → SD (cxOf CX0 P w K mg base N q (defScope s) fa cdv A outer s' H E).nox (defBody s) (ρ0 N ds) (Fin d)) :
    MetOk P w K mg base m (k + 1) n (spD P w K n rel) := by
  obtain ⟨fa, fd, q, hm, F⟩ := F.ex
  refine ⟨fa, fd, ps, hn, C.cls, hm, F.binds (hb q), F.ok S (fun vs H Q E sp => ?_) fun cdv A outer s H vs Q E hr sp => ?_⟩
  · obtain ⟨Hd, ds, d, _, r, hl, _⟩ := sp
    rw [r.length, hl, hn]
  · obtain ⟨Hd, ds, d, sb, r, hl, hrel, k'⟩ := sp
    refine ⟨_, pss_c, h q fa cdv A outer s H E hr ds d hl hrel none H Hd Hd H _ _ (.begin sb r) ⟨?_, ?_, ?_, ?_⟩⟩
    · rintro σ' Hd' H' ρ' e er rfl
      exact k' _ _ _ er.fr er.gd er.sb er.sep .non
    · exact fun σ' Hd' H' ρ' e er q => False.elim q
    · exact fun σ' Hd' H' ρ' e er q => False.elim q
    · rintro v σ' Hd' H' ρ' d' e er rv rfl
      exact k' _ _ _ er.fr er.gd er.sb er.sep rv
abbrev rKS : List Dt → Dt → Prop := fun ds d => ∃ rs n k, ds = [.zon (zonD rs), eN n, .str k] ∧ d = (lk (setsOf rs) (.tup [nk n, .text k])).getD .non
theorem sc_kept_set : FnScope ["self", "name", "kind"] ["self", "name", "kind"] (defScope (s_Zone 17)) := ⟨rfl, rfl, rfl, by decide, rfl, by decide, by decide⟩
theorem depth_kk (n : Nm) (k : Str) : (NestedKey.tup [nk n, .text k]).depth ≤ 8 := by
  have h : ∀ n : Nm, NestedKey.depthAll (n.map .text) = 0 := by
    intro n
    induction n with
    | nil => rfl
    | cons x n ih => simp [NestedKey.depthAll, NestedKey.depth, ih]
  show max (NestedKey.depthAll (n.map .text) + 1) (max 0 0) + 1 ≤ 8
  rw [h]
  decide
theorem kept_set_ok (C : ZC K) (F : Mn K "kept_set" (s_Zone 17)) : MetOk P w K mg base "kept_set" 1 3 (spD P w K 3 rKS) :=
  metOk C ["self", "name", "kind"] ["self", "name", "kind"] F sc_kept_set rfl (fun _ _ _ _ _ _ _ us h => by
    match us, h with
    | [_, _, _], _ => rfl) (by
    rintro q fa cdv A outer s' H E hr ds d hl ⟨rs, n, k, rfl, rfl⟩
    exact .ret (.get hr (.fld C.cls C.sets (.var (i := 0) rfl) rfl) (.is (.tup (.cons (.var (i := 1) rfl) (.one (.var (i := 2) rfl)))) (by show Dt.tup [eN n, .str k] = Dt.tup [nkD (nk n), .str k]; rw [nkD_nk])) (depth_kk n k)) rfl)
abbrev rKN : List Dt → Dt → Prop := fun ds d => ∃ rs n, ds = [.zon (zonD rs), eN n] ∧ (lk (thereOf rs) (nk n)).isSome = true ∧ d = eN n
theorem sc_kept_nearest : FnScope ["self", "name"] ["self", "name"] (defScope (s_Zone 18)) := ⟨rfl, rfl, rfl, by decide, rfl, by decide, by decide⟩
theorem kept_nearest_ok (C : ZC K) (F : Mn K "kept_nearest" (s_Zone 18)) : MetOk P w K mg base "kept_nearest" 1 2 (spD P w K 2 rKN) :=
  metOk C ["self", "name"] ["self", "name"] F sc_kept_nearest rfl (fun _ _ _ _ _ _ _ us h => by
    match us, h with
    | [_, _], _ => rfl) (by
    rintro q fa cdv A outer s' H E hr ds d hl ⟨rs, n, rfl, hin, rfl⟩
    refine .while (fun m ρ => ρ = [.dat (.zon (zonD rs)), .dat (eN n)]) 0 rfl fun m ρ hI => ?_
    subst hI
    refine ⟨false, [.dat (.zon (zonD rs)), .dat (eN n)], .is (.cmp (.ninK hr (EV.key (.var (i := 1) rfl)) (.fld C.cls C.there (.var (i := 0) rfl) rfl) (depth_nk n))) (by rw [show NestedKey.tup (n.map .text) = nk n from rfl, hin]; rfl), (fun h => by cases h), fun _ => .ret (.var (i := 1) rfl) rfl⟩)
abbrev rHO : List Dt → Dt → Prop := fun ds d => ∃ rs n, ds = [.zon (zonD rs), eN n] ∧ n.length ≤ 1000 ∧ d = .non
theorem sc_handed_on : FnScope ["self", "name", "at"] ["self", "name"] (defScope (s_Zone 20)) := ⟨rfl, rfl, rfl, by decide, rfl, by decide, by decide⟩
theorem handed_on_ok (B : Bs mg) (C : ZC K) (F : Mn K "handed_on" (s_Zone 20)) : MetOk P w K mg base "handed_on" 1 2 (spD P w K 2 rHO) :=
  metOk C ["self", "name", "at"] ["self", "name"] F sc_handed_on rfl (fun _ _ _ _ _ _ _ us h => by
    match us, h with
    | [_, _], _ => rfl) (by
    rintro q fa cdv A outer s' H E hr ds d hl ⟨rs, n, rfl, hz, rfl⟩
    refine .for rfl (.range B.range (.add (.lenT B.len (.var (i := 1) rfl)) .int) (by omega) (by rw [List.length_map]; omega)) (fun i ρ => ∃ e2, ρ = [.dat (.zon (zonD rs)), .dat (eN n), e2] ∧ isOwn e2 = false) ⟨.un, rfl, rfl⟩ (fun i d ρ hi' hI => ?_) (fun ρ hI => ?_)
    · obtain ⟨e2, rfl, _⟩ := hI
      unfold intsTo at hi'
      obtain ⟨k, _, rfl⟩ := List.mem_map.mp (List.mem_of_getElem? hi')
      refine ⟨_, _, .name (i := 2) sc_handed_on.nd, ?_⟩
      refine .skip (k := false) (ρ1 := [.dat (.zon (zonD rs)), .dat (eN n), .dat (.int (k : Nat))]) (.is (.cmp (.inK (ks := (n.drop k).map .text) hr (EV.key (n := n.drop k) (.is (.tFrom (n := k) (.var (i := 1) rfl) (.var (i := 2) rfl)) (by show Dt.tup _ = Dt.tup _; rw [← List.map_drop]))) (.fld C.cls C.cuts (.var (i := 0) rfl) rfl) (depth_nk _))) rfl) rfl ?_
      refine .skip (k := false) (ρ1 := [.dat (.zon (zonD rs)), .dat (eN n), .dat (.int (k : Nat))]) (.is (.w (.and (.cmp (.gt (.var (i := 2) rfl) .int)) fun _ => .and1 (.cmp (.inK (ks := (n.drop k).map .text) hr (EV.key (n := n.drop k) (.is (.tFrom (n := k) (.var (i := 1) rfl) (.var (i := 2) rfl)) (by show Dt.tup _ = Dt.tup _; rw [← List.map_drop]))) (.fld C.cls C.trees (.var (i := 0) rfl) rfl) (depth_nk _))))) (by simp [lk])) rfl ?_
      exact .nil ⟨_, rfl, rfl⟩
    · obtain ⟨e2, rfl, _⟩ := hI
      exact .ret .non rfl)
end Rw
namespace Rw
open PySem PySem.Spec PyProof.Rows L2
variable {P : Program} {w : World} {K : PySem.W.Frag} {mg : Str → Option Value} {base : Heap}
theorem nodup_sub_len {α : Type} [DecidableEq α] : ∀ {a b : List α}, a.Nodup → (∀ x ∈ a, x ∈ b) → a.length ≤ b.length
  | [], b, _, _ => Nat.zero_le _
  | x :: a, b, nd, h => by
    rw [List.nodup_cons] at nd
    have hx := h x (.head _)
    have ih := nodup_sub_len (a := a) (b := b.erase x) nd.2 fun y hy => by
      have hne : y ≠ x := fun z => nd.1 (z ▸ hy)
      exact (List.mem_erase_of_ne hne).mpr (h y (.tail _ hy))
    rw [List.length_erase_of_mem hx] at ih
    have := List.length_pos_of_mem hx
    rw [List.length_cons]
    omega

/-! ### rows of a zone -/
theorem zrows_ok {l : ZL} (h : OkZ l) : OkRows (zrows l) := by
  have hlz := h.lz
  refine ⟨fun r hr => ?_, ?_, by unfold zrows; simp; omega⟩
  · unfold zrows at hr
    rcases List.mem_cons.mp hr with z | hr
    · subst z; exact ⟨(fun l hl => nomatch hl), by decide, by decide, by decide, trivial⟩
    · rcases List.mem_cons.mp hr with z | hr
      · subst z; exact ⟨(fun l hl => nomatch hl), by decide, by decide, by decide, trivial⟩
      · obtain ⟨e, he, rfl⟩ := List.mem_map.mp hr
        have hn := h.nm e.1 (List.mem_map.mpr ⟨e, he, rfl⟩)
        have ho := h.ok e he
        refine ⟨by rw [rowOf_nm]; exact hn.1, by rw [rowOf_nm]; exact Nat.le_trans hn.2.2 (by decide), by rw [rowOf_ag]; exact ho.1, by rw [rowOf_ag]; exact ho.2.1, ?_⟩
        obtain ⟨n, a, v⟩ := e
        cases v with
        | rows s => exact ho.2.2
        | to m =>
          have hm := h.nm m ho.2.2
          exact ⟨hm.1, Nat.le_trans hm.2.2 (by decide)⟩
  · unfold zrows
    rw [List.map_cons, List.map_cons, List.nodup_cons, List.nodup_cons]
    have hne : ∀ e ∈ l, (rowOf e).k2.1 ≠ [] := fun e he => by
      show (rowOf e).nm.reverse ≠ []
      rw [rowOf_nm]
      intro z
      exact (h.nm e.1 (List.mem_map.mpr ⟨e, he, rfl⟩)).2.1 (List.reverse_eq_nil_iff.mp z)
    refine ⟨fun z => ?_, fun z => ?_, ?_⟩
    · rcases List.mem_cons.mp z with z | z
      · exact absurd (congrArg Prod.snd z) (by show ¬ ("start" : Str) = "server"; decide +kernel)
      · obtain ⟨r, hr, e1⟩ := List.mem_map.mp z
        obtain ⟨e, he, rfl⟩ := List.mem_map.mp hr
        exact hne e he (congrArg Prod.fst e1)
    · obtain ⟨r, hr, e1⟩ := List.mem_map.mp z
      obtain ⟨e, he, rfl⟩ := List.mem_map.mp hr
      exact hne e he (congrArg Prod.fst e1)
    · rw [List.map_map]
      have nd := h.nd
      unfold zNames at nd
      clear hne h hlz
      induction l with
      | nil => exact List.nodup_nil
      | cons e l ih =>
        rw [List.map_cons, List.nodup_cons] at nd ⊢
        refine ⟨fun z => nd.1 ?_, ih nd.2⟩
        obtain ⟨e', he', q⟩ := List.mem_map.mp z
        have q1 : (rowOf e').nm.reverse = (rowOf e).nm.reverse := congrArg Prod.fst q
        rw [rowOf_nm, rowOf_nm] at q1
        have q2 : e'.1 = e.1 := List.reverse_inj.mp q1
        exact List.mem_map.mpr ⟨e', he', q2⟩
theorem zmem {l : ZL} {e : Nm × Int × Vl} (h : e ∈ l) : rowOf e ∈ srt (zrows l) := (srt_perm _).mem_iff.mpr (.tail _ (.tail _ (List.mem_map.mpr ⟨e, h, rfl⟩)))
theorem z_there {l : ZL} {n : Nm} (h : n ∈ zNames l) : (lk (thereOf (srt (zrows l))) (nk n)).isSome = true := by
  obtain ⟨e, he, rfl⟩ := List.mem_map.mp h
  have := there_in (zmem he)
  rwa [rowOf_nm] at this
theorem z_set {l : ZL} (h : OkZ l) {e : Nm × Int × Vl} (he : e ∈ l) : lk (setsOf (srt (zrows l))) (.tup [nk e.1, .text (rowOf e).kd]) = some (eGr (rowOf e)) := by
  have := lk_sets (zrows_ok h).srt.nd (zmem he)
  unfold kk at this
  rwa [rowOf_nm] at this
theorem z_none {l : ZL} (h : OkZ l) {e : Nm × Int × Vl} (he : e ∈ l) {k : Str} (hk : (rowOf e).kd ≠ k) : lk (setsOf (srt (zrows l))) (.tup [nk e.1, .text k]) = none := by
  refine lk_sets_none fun r hr ⟨h1, h2⟩ => ?_
  have hn := h.nm e.1 (List.mem_map.mpr ⟨e, he, rfl⟩)
  have hr' := (srt_perm _).mem_iff.mp hr
  unfold zrows at hr'
  rcases List.mem_cons.mp hr' with z | hr'
  · subst z; exact hn.2.1 h1.symm
  · rcases List.mem_cons.mp hr' with z | hr'
    · subst z; exact hn.2.1 h1.symm
    · obtain ⟨e', he', rfl⟩ := List.mem_map.mp hr'
      rw [rowOf_nm] at h1
      have nd := h.nd
      unfold zNames at nd
      obtain ⟨i, hi⟩ := List.getElem?_of_mem he
      obtain ⟨j, hj⟩ := List.getElem?_of_mem he'
      have a1 : (l.map (·.1))[i]? = some e.1 := by rw [List.getElem?_map, hi]; rfl
      have a2 : (l.map (·.1))[j]? = some e.1 := by rw [List.getElem?_map, hj, ← h1]; rfl
      have := (List.getElem?_inj (List.getElem?_eq_some_iff.mp a1).1 nd).mp (a1.trans a2.symm)
      subst this
      rw [hi] at hj
      cases hj
      exact hk h2
def ansOf (e : Nm × Int × Vl) : Dt := match e.2.2 with
  | .rows s => .tup [.str "found", .int e.2.1, .tup [.str s]]
  | .to m => .tup [.str "alias", .int e.2.1, eN m]

/-! ### answers -/
abbrev rNI : List Dt → Dt → Prop := fun ds d => ∃ rs n, ds = [.zon (zonD rs), eN n] ∧ OkN n ∧ n.length ≤ 1000 ∧ d = .non
theorem sc_need_inside : FnScope ["zone", "name"] ["zone", "name"] (defScope s_need_inside) := ⟨rfl, rfl, rfl, by decide, rfl, by decide, by decide⟩
theorem need_inside_ok (DP : PropOk K P w mg base "apex" "_apex" 1) (DA : DefOk P w K mg base "need_asked" 4 1 (spD P w K 1 rNName)) (DU : DefOk P w K mg base "stands_under" 1 2 (spD P w K 2 rRoot)) (F : Fn K mg "need_inside" s_need_inside) : DefOk P w K mg base "need_inside" 5 2 (spD P w K 2 rNI) :=
  defOk ["zone", "name"] ["zone", "name"] F sc_need_inside rfl (fun _ _ _ _ _ _ us h => by
    match us, h with
    | [_, _], _ => rfl) (by
    rintro fa cdv A outer s' H E hr ds d hl ⟨rs, n, rfl, okn, hz, rfl⟩
    refine .expr (.call DA hr (.one (.var (i := 1) rfl)) ⟨n, rfl, okn, hz, rfl⟩) ?_
    exact .skip (.not (.val (.call DU (hr.mono (by decide)) (.cons (.var (i := 1) rfl) (.one (.prop DP (hr.mono (by decide)) (.var (i := 0) rfl) rfl))) ⟨n, rfl, okn, rfl⟩))) rfl (.nil rfl))
abbrev rFS : List Dt → Dt → Prop := fun ds d => ∃ rs n, ds = [.zon (zonD rs), eN n] ∧ OkN n ∧ n.length ≤ 1000 ∧ (lk (thereOf rs) (nk n)).isSome = true ∧ d = .tup [.str "own", eN n]
theorem sc_found_source : FnScope ["zone", "name", "handed", "nearest"] ["zone", "name"] (defScope s_found_source) := ⟨rfl, rfl, rfl, by decide, rfl, by decide, by decide⟩
theorem found_source_ok (DH : MetOk P w K mg base "handed_on" 1 2 (spD P w K 2 rHO)) (DN : MetOk P w K mg base "kept_nearest" 1 2 (spD P w K 2 rKN)) (F : Fn K mg "found_source" s_found_source) : DefOk P w K mg base "found_source" 2 2 (spD P w K 2 rFS) :=
  defOk ["zone", "name", "handed", "nearest"] ["zone", "name"] F sc_found_source rfl (fun _ _ _ _ _ _ us h => by
    match us, h with
    | [_, _], _ => rfl) (by
    rintro fa cdv A outer s' H E hr ds d hl ⟨rs, n, rfl, okn, hz, hin, rfl⟩
    refine .asg (i := 2) (.meth DH hr (.var (i := 0) rfl) (.one (.var (i := 1) rfl)) ⟨rs, n, rfl, hz, rfl⟩ rfl) ?_ sc_found_source.nd
    refine .skip (.cmp (.notN (.var (i := 2) rfl))) rfl ?_
    refine .asg (i := 3) (.meth DN hr (.var (i := 0) rfl) (.one (.var (i := 1) rfl)) ⟨rs, n, rfl, hin, rfl⟩ rfl) ?_ sc_found_source.nd
    refine .take (.cmp (.eqD hr (.var (i := 3) rfl) (.var (i := 1) rfl) (plain_of _ (nobl_eN okn)) (plain_of _ (nobl_eN okn)) (by rw [dep_eN]; decide) (by rw [dep_eN]; decide))) (eqd_self (nobl_eN okn)) ?_
    exact .ret (.tup (.cons .str (.one (.var (i := 1) rfl)))) rfl)
abbrev rSA : List Dt → Dt → Prop := fun ds d => ∃ l e, ds = [zonE l, .tup [.str "own", eN e.1], .str "text"] ∧ OkZ l ∧ e ∈ l ∧ d = ansOf e
theorem sc_source_answer : FnScope ["zone", "decided", "kind", "word", "decider", "told"] ["zone", "decided", "kind"] (defScope s_source_answer) := ⟨rfl, rfl, rfl, by decide, rfl, by decide, by decide⟩
theorem source_answer_ok (DK : MetOk P w K mg base "kept_set" 1 3 (spD P w K 3 rKS)) (F : Fn K mg "source_answer" s_source_answer) : DefOk P w K mg base "source_answer" 2 3 (spD P w K 3 rSA) :=
  defOk ["zone", "decided", "kind", "word", "decider", "told"] ["zone", "decided", "kind"] F sc_source_answer rfl (fun _ _ _ _ _ _ us h => by
    match us, h with
    | [_, _, _], _ => rfl) (by
    rintro fa cdv A outer s' H E hr ds d hl ⟨l, e, rfl, okz, he, rfl⟩
    refine .unpack (.var (i := 1) rfl) (.tup rfl (.cons (.name (i := 3) sc_source_answer.nd) (.cons (.name (i := 4) sc_source_answer.nd) .nil)) rfl) ?_
    refine .skip (.cmp (.eqS (s := "own") (.var (i := 3) rfl) .str)) (by decide +kernel) ?_
    refine .skip (.cmp (.eqS (s := "own") (.var (i := 3) rfl) .str)) (by decide +kernel) ?_
    refine .skip (.cmp (.eqS (s := "own") (.var (i := 3) rfl) .str)) (by decide +kernel) ?_
    obtain ⟨n, a, v⟩ := e
    cases v with
    | rows x =>
      have h1 := z_set okz he
      refine .asg (i := 5) (.meth (d := eGr (.text n a x)) DK hr (.var (i := 0) rfl) (.cons (.var (i := 4) rfl) (.one (.var (i := 2) rfl))) ⟨srt (zrows l), n, "text", rfl, ?_⟩ rfl) ?_ sc_source_answer.nd
      · rw [show ((.tup [nk n, .text "text"]) : NestedKey) = .tup [nk n, .text (rowOf (n, a, Vl.rows x)).kd] from rfl, h1]
        rfl
      refine .take (.cmp (.notN (.var (i := 5) rfl))) rfl ?_
      exact .ret (.tup (.cons .str (.cons (.ixT (d := .int a) (.var (i := 5) rfl) .int rfl) (.one (.ixT (d := .tup [.str x]) (.var (i := 5) rfl) .int rfl))))) rfl
    | to m =>
      have h1 := z_none okz he (k := "text") (by show ¬ ("alias" : Str) = "text"; decide +kernel)
      have h2 := z_set okz he
      refine .asg (i := 5) (.meth (d := .non) DK hr (.var (i := 0) rfl) (.cons (.var (i := 4) rfl) (.one (.var (i := 2) rfl))) ⟨srt (zrows l), n, "text", rfl, ?_⟩ rfl) ?_ sc_source_answer.nd
      · rw [h1]; rfl
      refine .skip (.cmp (.notN (.var (i := 5) rfl))) rfl ?_
      refine .asg (i := 5) (.meth (d := eGr (.ali n a m)) DK hr (.var (i := 0) rfl) (.cons (.var (i := 4) rfl) (.one .str)) ⟨srt (zrows l), n, "alias", rfl, ?_⟩ rfl) ?_ sc_source_answer.nd
      · rw [show ((.tup [nk n, .text "alias"]) : NestedKey) = .tup [nk n, .text (rowOf (n, a, Vl.to m)).kd] from rfl, h2]
        rfl
      refine .take (.cmp (.notN (.var (i := 5) rfl))) rfl ?_
      exact .ret (.tup (.cons .str (.cons (.ixT (d := .int a) (.var (i := 5) rfl) .int rfl) (.one (.ixT (d := eN m) (.ixT (d := .tup [eN m]) (.var (i := 5) rfl) .int rfl) .int rfl))))) rfl)
abbrev rFA : List Dt → Dt → Prop := fun ds d => ∃ l e, ds = [zonE l, eN e.1, .str "text"] ∧ OkZ l ∧ e ∈ l ∧ d = ansOf e
theorem sc_found_answer : FnScope ["zone", "name", "kind", "told"] ["zone", "name", "kind"] (defScope s_found_answer) := ⟨rfl, rfl, rfl, by decide, rfl, by decide, by decide⟩
theorem ans_head (e : Nm × Int × Vl) : ∃ k r, ansOf e = .tup (.str k :: r) ∧ k ≠ "tree" := by
  obtain ⟨n, a, v⟩ := e
  cases v with
  | rows x => exact ⟨"found", _, rfl, by decide +kernel⟩
  | to m => exact ⟨"alias", _, rfl, by decide +kernel⟩
theorem found_answer_ok (DS : DefOk P w K mg base "source_answer" 2 3 (spD P w K 3 rSA)) (DF : DefOk P w K mg base "found_source" 2 2 (spD P w K 2 rFS)) (F : Fn K mg "found_answer" s_found_answer) : DefOk P w K mg base "found_answer" 3 3 (spD P w K 3 rFA) :=
  defOk ["zone", "name", "kind", "told"] ["zone", "name", "kind"] F sc_found_answer rfl (fun _ _ _ _ _ _ us h => by
    match us, h with
    | [_, _, _], _ => rfl) (by
    rintro fa cdv A outer s' H E hr ds d hl ⟨l, e, rfl, okz, he, rfl⟩
    have hm : e.1 ∈ zNames l := List.mem_map.mpr ⟨e, he, rfl⟩
    have hn := okz.nm e.1 hm
    refine .asg (i := 3) (.call DS hr (.cons (.var (i := 0) rfl) (.cons (.call DF hr (.cons (.var (i := 0) rfl) (.one (.var (i := 1) rfl))) ⟨srt (zrows l), e.1, rfl, hn.1, Nat.le_trans hn.2.2 (by decide), z_there hm, rfl⟩) (.one (.var (i := 2) rfl)))) ⟨l, e, rfl, okz, he, rfl⟩) ?_ sc_found_answer.nd
    obtain ⟨k, r, hk, hne⟩ := ans_head e
    rw [hk]
    refine .take (.cmp (.neS (s := k) (.ixT (.var (i := 3) rfl) .int (atI_nat (n := 0) rfl)) .str)) (by simp [hne]) ?_
    exact .ret (.var (i := 3) rfl) rfl)
def nxOf (e : Nm × Int × Vl) : Option Nm := match e.2.2 with
  | .rows _ => none
  | .to m => some m
abbrev rNN : List Dt → Dt → Prop := fun ds d => ∃ e, ds = [ansOf e] ∧ d = oN (nxOf e)
theorem sc_next_name : FnScope ["told"] ["told"] (defScope s_next_name) := ⟨rfl, rfl, rfl, by decide, rfl, by decide, by decide⟩
theorem next_name_ok (F : Fn K mg "next_name" s_next_name) : DefOk P w K mg base "next_name" 1 1 (spD P w K 1 rNN) :=
  defOk ["told"] ["told"] F sc_next_name rfl (fun _ _ _ _ _ _ us h => by
    match us, h with
    | [_], _ => rfl) (by
    rintro fa cdv A outer s' H E hr ds d hl ⟨e, rfl, rfl⟩
    obtain ⟨n, a, v⟩ := e
    cases v with
    | rows x =>
      refine .skip (.cmp (.eqS (s := "found") (.ixT (.var (i := 0) rfl) .int rfl) .str)) (by decide +kernel) ?_
      exact .ret (.ifE (k := false) (.is (.cmp (.eqS (s := "found") (.ixT (.var (i := 0) rfl) .int rfl) .str)) (by decide +kernel)) (fun h => by cases h) fun _ => .non) rfl
    | to m =>
      refine .take (.cmp (.eqS (s := "alias") (.ixT (.var (i := 0) rfl) .int rfl) .str)) (by decide +kernel) ?_
      exact .ret (.ixT (d := eN m) (.var (i := 0) rfl) .int rfl) rfl)
end Rw
namespace Rw
open PySem PySem.Spec PyProof.Rows L2
variable {P : Program} {w : World} {K : PySem.W.Frag} {mg : Str → Option Value} {base : Heap}
abbrev ZE := Nm × Int × Vl
def eCh (c : List ZE) : Dt := .lst (c.map fun e => .tup [eN e.1, ansOf e])
abbrev rSW : List Dt → Dt → Prop := fun ds d => ∃ rs c n, ds = [.zon (zonD rs), eCh c, eN n] ∧ OkN n ∧ n.length ≤ 10 ∧ c.length ≤ 6 ∧ (∀ e ∈ c, OkN e.1) ∧ d = if n ∈ c.map (·.1) then .str "ring" else .non
theorem sc_stop_word : FnScope ["zone", "chain", "name", "row"] ["zone", "chain", "name"] (defScope s_stop_word) := ⟨rfl, rfl, rfl, by decide, rfl, by decide, by decide⟩
theorem sum_le {n : Nm} (ok : OkN n) : (n.map fun l => (l.length : Int) + 1).sum ≤ 21 * n.length := by
  induction n with
  | nil => simp
  | cons x n ih =>
    have h1 := (ok x (.head _)).hi
    have h2 := ih fun y hy => ok y (.tail _ hy)
    rw [List.map_cons, List.sum_cons, List.length_cons]
    omega
theorem deps_eNs : ∀ c : List Nm, deps (c.map eN) ≤ 1
  | [] => Nat.zero_le _
  | n :: c => by
    have h1 := dep_eN n
    have h2 := deps_eNs c
    show max (dep (eN n)) (deps (c.map eN)) ≤ 1
    omega
theorem stop_word_ok (B : Bs mg) (hL : GInt mg "LARGEST" 255) (hM : GInt mg "MOST_NAMES" 100) (DP : PropOk K P w mg base "apex" "_apex" 1) (DU : DefOk P w K mg base "stands_under" 1 2 (spD P w K 2 rRoot)) (DS : DefOk P w K mg base "size_of" 1 1 (spD P w K 1 rSize)) (F : Fn K mg "stop_word" s_stop_word) :
    DefOk P w K mg base "stop_word" 3 3 (spD P w K 3 rSW) :=
  defOk ["zone", "chain", "name", "row"] ["zone", "chain", "name"] F sc_stop_word rfl (fun _ _ _ _ _ _ us h => by
    match us, h with
    | [_, _, _], _ => rfl) (by
    rintro fa cdv A outer s' H E hr ds d hl ⟨rs, c, n, rfl, okn, hz, hc, okc, rfl⟩
    have hr1 := hr.mono (show 1 ≤ 2 by decide)
    refine .skip (.not (.val (.call DU hr1 (.cons (.var (i := 2) rfl) (.one (.prop DP hr (.var (i := 0) rfl) rfl))) ⟨n, rfl, okn, rfl⟩))) rfl ?_
    refine .skip (.w (.or (.cmp (.gt (.call DS hr1 (.one (.var (i := 2) rfl)) ⟨n, rfl, okn, by omega, _, rfl, rfl⟩) (.gInt hL))) fun _ => .or1 (.cmp (.eqI (.lenL B.len (.var (i := 1) rfl)) (.gInt hM))))) ?_ ?_
    · have h1 := sum_le okn
      rw [List.length_map]
      have e1 : decide ((255 : Int) < 1 + (n.map fun l => (l.length : Int) + 1).sum) = false := decide_eq_false (by omega)
      have e2 : decide (((c.length : Nat) : Int) = 100) = false := decide_eq_false (by omega)
      rw [e1, e2]
      rfl
    refine .ret (.ifE (k := decide (n ∈ c.map (·.1))) (ρ1 := [.dat (.zon (zonD rs)), .dat (eCh c), .dat (eN n), .un]) (ρ2 := [.dat (.zon (zonD rs)), .dat (eCh c), .dat (eN n), .un]) (.is (.cmp (.inD (ys := (c.map (·.1)).map eN) hr (.var (i := 2) rfl) (.is (.lcF [("row", 3)] [3] (fun d => match d with | .tup (x :: _) => some x | _ => none) rfl sc_stop_word.nd (.list (.var (i := 1) rfl)) (by rw [List.length_map, sizeLine_eq]; omega) fun d hd => ?_) ?_) (plain_of _ (nobl_eN okn)) ?_ (by rw [dep_eN]; decide) ?_)) ?_) (fun h => ?_) fun h => ?_) rfl
    · obtain ⟨e, he, rfl⟩ := List.mem_map.mp hd
      exact .map (fun _ _ _ _ _ => .name sc_stop_word.nd) (Agree.wiped.set (by decide)) rfl fun _ _ _ _ _ => .ixT (d := eN e.1) (.var (i := 3) rfl) .int rfl
    · rw [List.filterMap_map, List.map_map]
      exact congrArg Dt.lst (filterMap_some (fun e : ZE => eN e.1) _)
    · rw [plains_all, List.map_map, List.all_map, List.all_eq_true]
      exact fun e he => plain_of _ (nobl_eN (okc e he))
    · have := deps_eNs (c.map (·.1))
      show deps _ + 1 ≤ 64
      omega
    · refine (ind_map (fun a b => eN_inj) (nobl_eN okn) fun m hm => ?_).trans (decide_eq_decide.mpr Iff.rfl)
      obtain ⟨e, he, rfl⟩ := List.mem_map.mp hm
      exact nobl_eN (okc e he)
    · rw [if_pos (of_decide_eq_true h)]; exact .str
    · rw [if_neg (of_decide_eq_false h)]; exact .non)
def zent (l : ZL) (n : Nm) : Option ZE := l.find? fun e => decide (e.1 = n)
def walkZ (l : ZL) : Nat → ZE → List ZE → List ZE × Str × Nm
  | 0, e, c => (c, "ring", e.1)
  | k + 1, e, c => match nxOf e with
    | none => (c ++ [e], "told", e.1)
    | some m => if m ∈ (c ++ [e]).map (·.1) then (c ++ [e], "ring", m) else match zent l m with
      | some e' => walkZ l k e' (c ++ [e])
      | none => (c, "", m)
def eWk (r : List ZE × Str × Nm) : Dt := .tup [eCh r.1, .tup [.str r.2.1, eN r.2.2]]
theorem zent_some {l : ZL} {n : Nm} (h : n ∈ zNames l) : ∃ e, zent l n = some e ∧ e ∈ l ∧ e.1 = n := by
  unfold zent
  cases q : l.find? fun e => decide (e.1 = n) with
  | some e => exact ⟨e, rfl, List.mem_of_find?_eq_some q, by have := List.find?_some q; simpa using this⟩
  | none =>
    obtain ⟨e, he, z⟩ := List.mem_map.mp h
    have := List.find?_eq_none.mp q e he
    simp [z] at this
abbrev rWk (f : List ZE × Str × Nm → Dt) : List Dt → Dt → Prop := fun ds d => ∃ l e, ds = [zonE l, eN e.1, .str "text"] ∧ OkZ l ∧ e ∈ l ∧ d = f (walkZ l l.length e [])
abbrev nWk : List Str := ["zone", "name", "kind", "chain", "told", "after", "word"]
theorem sc_walked : FnScope nWk ["zone", "name", "kind"] (defScope s_walked) := ⟨rfl, rfl, rfl, by decide, rfl, by decide, by decide⟩
theorem walked_ok (DI : DefOk P w K mg base "need_inside" 5 2 (spD P w K 2 rNI)) (DK : DefOk P w K mg base "need_kind" 2 1 (spD P w K 1 rNKind)) (DA : DefOk P w K mg base "found_answer" 3 3 (spD P w K 3 rFA)) (DN : DefOk P w K mg base "next_name" 1 1 (spD P w K 1 rNN)) (DW : DefOk P w K mg base "stop_word" 3 3 (spD P w K 3 rSW)) (F : Fn K mg "walked" s_walked) :
    DefOk P w K mg base "walked" 6 3 (spD P w K 3 (rWk eWk)) :=
  defOk nWk ["zone", "name", "kind"] F sc_walked rfl (fun _ _ _ _ _ _ us h => by
    match us, h with
    | [_, _, _], _ => rfl) (by
    rintro fa cdv A outer s' H E hr ds d hl ⟨l, e0, rfl, okz, he0, rfl⟩
    have hm0 : e0.1 ∈ zNames l := List.mem_map.mpr ⟨e0, he0, rfl⟩
    have hn0 := okz.nm _ hm0
    refine .expr (.call DI hr (.cons (.var (i := 0) rfl) (.one (.var (i := 1) rfl))) ⟨srt (zrows l), e0.1, rfl, hn0.1, Nat.le_trans hn0.2.2 (by decide), rfl⟩) ?_
    refine .expr (.call DK (hr.mono (by decide)) (.one (.var (i := 2) rfl)) ⟨"text", rfl, by decide +kernel, rfl⟩) ?_
    refine .newL (i := 3) ?_ sc_walked.nd
    refine .while (fun m ρ => ∃ e c, e ∈ l ∧ (∀ x ∈ c, x ∈ l) ∧ (c.map (·.1)).Nodup ∧ e.1 ∉ c.map (·.1) ∧ m + c.length = l.length ∧ walkZ l m e c = walkZ l l.length e0 [] ∧ ∃ e4 e5 e6, ρ = [.dat (zonE l), .dat (eN e.1), .dat (.str "text"), .ol (c.map fun e => .tup [eN e.1, ansOf e]), e4, e5, e6] ∧ isOwn e4 = false ∧ isOwn e5 = false ∧ isOwn e6 = false) l.length ⟨e0, [], he0, fun x hx => (by cases hx), List.nodup_nil, fun z => (by cases z), by simp, rfl, .un, .un, .un, rfl, rfl, rfl, rfl⟩ fun m ρ hI => ?_
    obtain ⟨e, c, he, hcl, hnd, hnot, hlen, hw, e4, e5, e6, rfl, _, _, _⟩ := hI
    have hm : e.1 ∈ zNames l := List.mem_map.mpr ⟨e, he, rfl⟩
    have hn := okz.nm _ hm
    have hnd' : ((c ++ [e]).map (·.1)).Nodup := by
      rw [List.map_append, List.nodup_append]
      exact ⟨hnd, List.nodup_cons.mpr ⟨by simp, List.nodup_nil⟩, fun a ha b hb => by
        have : b = e.1 := by simpa using hb
        subst this
        rintro rfl
        exact hnot ha⟩
    have hcl' : ∀ x ∈ c ++ [e], x ∈ l := fun x hx => by
      rcases List.mem_append.mp hx with z | z
      · exact hcl x z
      · rw [List.mem_singleton.mp z]; exact he
    have hpig : c.length + 1 ≤ l.length := by
      have := nodup_sub_len (b := zNames l) hnd' fun x hx => by
        obtain ⟨y, hy, rfl⟩ := List.mem_map.mp hx
        exact List.mem_map.mpr ⟨y, hcl' y hy, rfl⟩
      rw [List.length_map, List.length_append] at this
      unfold zNames at this
      rw [List.length_map] at this
      simpa using this
    obtain ⟨m', rfl⟩ : ∃ m', m = m' + 1 := ⟨m - 1, by omega⟩
    have hz6 := okz.lz
    refine ⟨true, [.dat (zonE l), .dat (eN e.1), .dat (.str "text"), .ol (c.map fun e => .tup [eN e.1, ansOf e]), e4, e5, e6], .val .bl, fun _ => ?_, fun h => (by cases h)⟩
    refine .asg (i := 4) (.call DA (hr.mono (by decide)) (.cons (.var (i := 0) rfl) (.cons (.var (i := 1) rfl) (.one (.var (i := 2) rfl)))) ⟨l, e, rfl, okz, he, rfl⟩) ?_ sc_walked.nd
    refine .app (i := 3) rfl (.tup (.cons (.var (i := 1) rfl) (.one (.var (i := 4) rfl)))) rfl (by rw [List.length_map, sizeLine_eq]; omega) ?_
    have ec : (c.map fun e => Dt.tup [eN e.1, ansOf e]) ++ [.tup [eN e.1, ansOf e]] = (c ++ [e]).map fun e => Dt.tup [eN e.1, ansOf e] := by rw [List.map_append]; rfl
    rw [ec]
    refine .asg (i := 5) (.call DN (hr.mono (by decide)) (.one (.var (i := 4) rfl)) ⟨e, rfl, rfl⟩) ?_ sc_walked.nd
    cases hx : nxOf e with
    | none =>
      refine .take (.cmp (.isN (.var (i := 5) rfl))) rfl ?_
      refine .ret (.tup (.cons (.own (i := 3) rfl) (.one (.tup (.cons .str (.one (.var (i := 1) rfl))))))) ?_
      show Dt.tup _ = _
      rw [← hw]
      unfold walkZ
      rw [hx]
      rfl
    | some k =>
      have hk : k ∈ zNames l := by
        have := (okz.ok e he).2.2
        obtain ⟨n, a, v⟩ := e
        cases v with
        | rows x => cases hx
        | to q => cases hx; exact this
      have hkn := okz.nm k hk
      refine .skip (.cmp (.isN (.var (i := 5) rfl))) rfl ?_
      refine .asg (i := 6) (d := if k ∈ (c ++ [e]).map (·.1) then .str "ring" else .non) (.lend (n := 3) rfl (.call DW (hr.mono (by decide)) (.cons (.var (i := 0) rfl) (.cons (.var (i := 3) rfl) (.one (.var (i := 5) rfl)))) ⟨srt (zrows l), c ++ [e], k, rfl, hkn.1, hkn.2.2, by rw [List.length_append]; simp; omega, fun x hx' => (okz.nm _ (List.mem_map.mpr ⟨x, hcl' x hx', rfl⟩)).1, rfl⟩) (by split <;> rfl)) ?_ sc_walked.nd
      by_cases hin : k ∈ (c ++ [e]).map (·.1)
      · rw [if_pos hin]
        refine .take (.cmp (.notN (.var (i := 6) rfl))) rfl ?_
        refine .ret (.tup (.cons (.own (i := 3) rfl) (.one (.tup (.cons (.var (i := 6) rfl) (.one (.var (i := 5) rfl))))))) ?_
        show Dt.tup _ = _
        rw [← hw]
        unfold walkZ
        rw [hx]
        simp only [hin, if_true]
        rfl
      · rw [if_neg hin]
        obtain ⟨e', q1, q2, q3⟩ := zent_some hk
        refine .skip (.cmp (.notN (.var (i := 6) rfl))) rfl ?_
        refine .asg (i := 1) (.var (i := 5) rfl) (.nil ⟨m', by omega, e', c ++ [e], q2, hcl', hnd', by rw [q3]; exact hin, by rw [List.length_append]; simp; omega, ?_, .dat (ansOf e), .dat (eN k), .dat .non, ?_, rfl, rfl, rfl⟩) sc_walked.nd
        · rw [← hw]
          conv => rhs; unfold walkZ
          rw [hx]
          simp only [hin, if_false, q1]
        · rw [q3]; rfl)
theorem sc_chase : FnScope ["zone", "name", "kind"] ["zone", "name", "kind"] (defScope s_chase) := ⟨rfl, rfl, rfl, by decide, rfl, by decide, by decide⟩
theorem sc_chase_end : FnScope ["zone", "name", "kind"] ["zone", "name", "kind"] (defScope s_chase_end) := ⟨rfl, rfl, rfl, by decide, rfl, by decide, by decide⟩
theorem chase_ok (DW : DefOk P w K mg base "walked" 6 3 (spD P w K 3 (rWk eWk))) (F : Fn K mg "chase" s_chase) : DefOk P w K mg base "chase" 7 3 (spD P w K 3 (rWk fun r => eCh r.1)) :=
  defOk ["zone", "name", "kind"] ["zone", "name", "kind"] F sc_chase rfl (fun _ _ _ _ _ _ us h => by
    match us, h with
    | [_, _, _], _ => rfl) (by
    rintro fa cdv A outer s' H E hr ds d hl ⟨l, e, rfl, okz, he, rfl⟩
    exact .ret (.ixT (d := eCh (walkZ l l.length e []).1) (.call DW hr (.cons (.var (i := 0) rfl) (.cons (.var (i := 1) rfl) (.one (.var (i := 2) rfl)))) ⟨l, e, rfl, okz, he, rfl⟩) .int rfl) rfl)
theorem chase_end_ok (DW : DefOk P w K mg base "walked" 6 3 (spD P w K 3 (rWk eWk))) (F : Fn K mg "chase_end" s_chase_end) : DefOk P w K mg base "chase_end" 7 3 (spD P w K 3 (rWk fun r => .tup [.str r.2.1, eN r.2.2])) :=
  defOk ["zone", "name", "kind"] ["zone", "name", "kind"] F sc_chase_end rfl (fun _ _ _ _ _ _ us h => by
    match us, h with
    | [_, _, _], _ => rfl) (by
    rintro fa cdv A outer s' H E hr ds d hl ⟨l, e, rfl, okz, he, rfl⟩
    exact .ret (.ixT (d := .tup [.str (walkZ l l.length e []).2.1, eN (walkZ l l.length e []).2.2]) (.call DW hr (.cons (.var (i := 0) rfl) (.cons (.var (i := 1) rfl) (.one (.var (i := 2) rfl)))) ⟨l, e, rfl, okz, he, rfl⟩) .int rfl) rfl)
end Rw
namespace Rw
open PySem PySem.Spec PyProof.Rows L2

/-! ### a table of rows: a dict of one's own whose values are lists of one's own -/
section
variable {P : Program} {w : World} {K : PySem.W.Frag} {pp : Option Addr} {F F' G Hd H : Hp} {σ : L2.St} {ρ : List En} {D : Addr} {o o' : HO}
def KeysR (P : Program) (w : World) (K : PySem.W.Frag) (Hd : Hp) (xs : List (NestedKey × Addr × V)) : Prop := ∀ p ∈ xs, Rep P w K Hd (.ref p.2.1) (nkD p.1) ∧ p.1.depth ≤ 8
theorem ER.reholdG (er : ER P w K pp F' G Hd H σ ρ) (hF : F' D = some o) (hHd : Hd D = none) : ER P w K pp (upd F' D o') G Hd (upd H D o') σ ρ := by
  have e1 : upd (fun x => if x = D then none else F' x) D o = F' := by
    funext x
    by_cases h : x = D
    · subst h; rw [upd_same, hF]
    · rw [upd_ne h]; exact if_neg h
  have e2 : upd (fun x => if x = D then none else F' x) D o' = upd F' D o' := by
    funext x
    by_cases h : x = D
    · subst h; rw [upd_same, upd_same]
    · rw [upd_ne h, upd_ne h]; exact if_neg h
  rw [← e1] at er
  have := er.rehold (o' := o') (if_pos rfl) hHd
  rwa [e2] at this
/-- all that was held apart becomes data -/
theorem ER.giveAll (er : ER P w K pp F' G Hd H σ ρ) (hF : Ex F F') (hG : ∀ a, F a = none → F' a ≠ none → G a = none) (hO : ∀ (j : Nat) (e : En), ρ[j]? = some e → isOwn e = false) :
    Ex Hd (fun a => if F a = none ∧ F' a ≠ none then F' a else Hd a) ∧ ER P w K pp F G (fun a => if F a = none ∧ F' a ≠ none then F' a else Hd a) H σ ρ := by
  have ed : Ex Hd (fun a => if F a = none ∧ F' a ≠ none then F' a else Hd a) := fun a o h => by
    show (if F a = none ∧ F' a ≠ none then F' a else Hd a) = some o
    by_cases z : F a = none ∧ F' a ≠ none
    · rw [er.sep a z.2 (hG a z.1 z.2)] at h; cases h
    · rw [if_neg z]; exact h
  refine ⟨ed, er.pt, hF.trans er.fr, er.gd.trans ed, fun a o h => ?_, fun a h1 h2 => ?_, er.len, fun i e h => ?_, fun i j e e' a h1 h2 o1 _ _ _ => by rw [hO i e h1] at o1; cases o1⟩
  · have h' : (if F a = none ∧ F' a ≠ none then F' a else Hd a) = some o := h
    by_cases z : F a = none ∧ F' a ≠ none
    · rw [if_pos z] at h'; exact .inl (er.fr a o h')
    · rw [if_neg z] at h'; exact er.sb a o h'
  · show (if F a = none ∧ F' a ≠ none then F' a else Hd a) = none
    rw [if_neg (fun z => h1 z.1)]
    refine er.sep a (fun z => ?_) h2
    cases q : F a with
    | none => exact h1 q
    | some o => rw [hF a o q] at z; cases z
  · obtain ⟨x, h1, h2⟩ := er.sl i e h
    refine ⟨x, h1, ?_⟩
    have ho := hO i e h
    cases e with
    | un => trivial
    | dat d => obtain ⟨v, e1, r⟩ := h2; exact ⟨v, e1, r.mono ed⟩
    | ol ds => cases ho
    | od ds => cases ho
    | ob oo => cases ho
end
section
variable {X : Cx} {pins : List (Addr × Obj)} {σ : L2.St} {Hd H : Hp} {s : Shared} {a b : Addr} {xs : DX} {ks : List NestedKey}
theorem are_keysK (I : Inv X pins σ H s) (sb : Sub Hd H) : ∀ {xs : List (NestedKey × Addr × V)} {us : List (NestedKey × Addr × Value)}, Paired RelX xs us → KeysR X.prog X.w X.K Hd xs → ∀ y ∈ us, (nestedKind X.prog X.w).is s.heap y.1 y.2.1
  | _, _, .nil, _, y, hy => nomatch hy
  | x :: xs, z :: us, .cons r t, h, y, hy => by
    obtain ⟨e1, e2, e3⟩ := r
    rcases List.mem_cons.mp hy with e | hy
    · subst e
      have h1 := h x (.head _)
      rw [← e1, ← e2]
      exact ⟨key_is I sb _ _ _ h1.1 rfl, h1.2⟩
    · exact are_keysK I sb t (fun p hp => h p (.tail _ hp)) y hy
theorem dict_atK (I : Inv X pins σ H s) (sb : Sub Hd H) (h : Rd H a (.ext (DObj X.prog X.w a xs))) (r : KeysR X.prog X.w X.K Hd xs.1) :
    ∃ us, (a == sysModules) = false ∧ us.length ≤ sizeLine ∧ Paired RelX xs.1 us ∧ s.heap.DictOfH (nestedKind X.prog X.w) a us := by
  obtain ⟨⟨h1, h2, h3, us, p, o, es, ho, hc, hd, he⟩, _⟩ := h.ok I.hok
  exact ⟨us, h1, by rw [← Paired.length p]; exact h2, p, o, es, xs.2, ho, hc, hd, he, are_keysK I sb p r, by rw [paired_keys p]; exact h3⟩
def xat (xs : List (NestedKey × Addr × V)) (k : NestedKey) : Option V := (xs.find? fun x => decide (x.1 = k)).map (·.2.2)
theorem xat_rel {k : NestedKey} : ∀ {xs : List (NestedKey × Addr × V)} {us : List (NestedKey × Addr × Value)}, Paired RelX xs us → (∀ v, xat xs k = some v → ∃ p, atKey us k = some p ∧ RelV v p.2) ∧ (xat xs k = none → atKey us k = none)
  | _, _, .nil => ⟨fun v h => (by cases h), fun _ => rfl⟩
  | x :: xs, y :: us, .cons r t => by
    obtain ⟨e1, e2, e3⟩ := r
    have ih := xat_rel (k := k) t
    unfold xat at *
    rw [List.find?_cons, atKey_cons, ← e1]
    by_cases h : x.1 = k
    · rw [if_pos h]
      simp only [h, decide_true]
      exact ⟨fun v hv => ⟨y.2, rfl, by cases hv; exact e3⟩, fun z => (by cases z)⟩
    · rw [if_neg h]
      simp only [h, decide_false]
      exact ih
/-- d.setdefault(k, v) -/
def rSetd (X : Cx) : V → List V → Hp → VK → Prop := fun x zs H Q => ∃ Hd a b ks dv xs, x = .ref a ∧ zs = [.ref b, dv] ∧ H a = some (.ext (DObj X.prog X.w a xs)) ∧ Sub Hd H ∧ KeysR X.prog X.w X.K Hd xs.1 ∧ xs.1.length < sizeLine ∧ XRep X Hd (.ref b) (nkD (.tup ks)) ∧ (NestedKey.tup ks).depth ≤ 8 ∧
  (match xat xs.1 (.tup ks) with
    | some v => Q v H
    | none => ∀ ep, Q dv (upd H a (.ext (DObj X.prog X.w a (xs.1 ++ [(.tup ks, b, dv)], ep)))))
theorem mt_setd {r : Nat} (hr : Room r X.A) : MtR X "dict.setdefault" (rSetd X) := by
  intro pins s σ H x zs v us Q I rx rz h
  obtain ⟨Hd, a, b, ks, dv, xs, rfl, rfl, hH, sb, hk, hl, rk, hd, q⟩ := h
  cases rx
  obtain ⟨u1, u2, rfl, r1, r2⟩ := vals2 rz
  cases r1
  obtain ⟨us', q1, q2, q3, q4⟩ := dict_atK I sb (.inl hH) hk
  have hki := key_is I sb _ _ _ rk (show RelV (V.ref b) (Value.ref b) from rfl)
  have hx := xat_rel (k := .tup ks) q3
  refine call_setdefault_heap (knd := nestedKind X.prog X.w) (k := .tup ks) (room8 hr) ⟨hki, hd⟩ q1 q4 (fun p hp => ?_) (fun hn h' dd sb' => ?_) q2
  · cases z : xat xs.1 (.tup ks) with
    | none => rw [hx.2 z] at hp; cases hp
    | some v =>
      rw [z] at q
      obtain ⟨p', hp', rv⟩ := hx.1 v z
      rw [hp] at hp'
      cases hp'
      exact ⟨v, H, I.tok _, rv, q⟩
  · cases z : xat xs.1 (.tup ks) with
    | some v => obtain ⟨p', hp', _⟩ := hx.1 v z; rw [hn] at hp'; cases hp'
    | none =>
      rw [z] at q
      have e1 : storedH us' (.tup ks) b u2 = us' ++ [(.tup ks, b, u2)] := storedH_new hn b u2
      rw [e1] at dd
      obtain ⟨ep, dd'⟩ := dobj_of (l := xs.1 ++ [(.tup ks, b, dv)]) (Paired.snoc ⟨rfl, rfl, r2⟩ q3) (by rw [List.length_append]; simp; omega) q1 dd
      obtain ⟨o, es, ep', ho, _⟩ := dd
      exact ⟨dv, _, d_write I (by rw [hH]; exact True.intro) sb' ⟨o, ho⟩ (dobj_ok dd'), r2, q ep⟩
end
end Rw
namespace Rw
open PySem PySem.Spec PyProof.Rows L2
abbrev s_kinds_by_name : Stmt := topS 95
section
variable {X : Cx} {o e : Expr} {es : List Expr} {to : TE} {t : TA} {apos cpos : Pos} {r : Nat}
theorem pe_setd (hr : Room r X.A) (ho : PE X o to) (ha : PA X (e :: es) t)
    (hbase : attributeBase o "setdefault" X.env (eval o X.env) = eval o X.env := by rfl)
    (hfew : ((backTo cpos (starEach (e :: es) X.env)).all (fun x => !x.1) && (backToKw cpos (keywordEach [] X.env)).all (fun x => x.1.isSome)
      && decide ((e :: es).length + ([] : List Keyword).length + (if ([] : List Keyword).isEmpty then 0 else 1) < 30)) = true := by rfl)
    (hline : (apos.endLine == cpos.line) = true := by rfl) (hs : starEach (e :: es) X.env = (false, eval e X.env) :: starEach es X.env := by rfl) (hplain : (backTo cpos (starEach es X.env)).any (·.1) = false := by rfl) :
    PE X (.Call (.Attribute o "setdefault" apos) (e :: es) [] cpos) (fun σ H Q => to σ H fun x H1 => (∃ a xs, x = .ref a ∧ DXat X.prog X.w a xs H1) ∧ t σ H1 fun vs H2 => rSetd X x vs H2 Q) := by
  refine ⟨fun pins s σ H Q I h => ?_⟩
  refine wpAny_Call_method_late hbase hfew hline rfl (thn (ho.run pins s σ H _ I h) fun v s1 ⟨x, H1, I1, r1, ⟨a, xs, ex, hx⟩, q1⟩ => ?_)
  subst ex
  cases r1
  obtain ⟨us1, us2, q2, _, _, hraw, _⟩ := dict_raw I1 hx
  obtain ⟨ob, hob, hcb, _⟩ := id hraw
  refine ⟨"dict", "dict.setdefault", PySem.F.plainAttrs_dict, PySem.F.slot_dict_setdefault, PySem.F.type_dict_setdefault, hraw.typeIs, fun b hb => by cases hb; exact ⟨ob, hob, hcb.2.1⟩, ?_⟩
  have hA := ha.run cpos pins s1 σ H1 _ I1 q1
  rw [hs] at hA ⊢
  refine Calls.callWith_builtin (by show (false || (backTo cpos (starEach es X.env)).any (·.1)) = false; rw [hplain] <;> rfl) (Calls.evalArgs_plain ?_)
  exact thn hA fun us s2 ⟨vs, H2, I2, r2, q2⟩ => mt_setd hr pins s2 σ H2 (.ref a) vs (.ref a) us Q I2 rfl r2 q2
end

/-! ### kinds by name -/
abbrev KT' := List (Nm × List Str)
def kstep (t : KT') (r : Row) : KT' := if r.nm ∈ t.map (·.1) then t.map (fun p => if p.1 = r.nm then (p.1, p.2 ++ [r.kd]) else p) else t ++ [(r.nm, [r.kd])]
def kbn (rs : List Row) : KT' := rs.foldl kstep []
theorem kbn_snoc (rs : List Row) (r : Row) : kbn (rs ++ [r]) = kstep (kbn rs) r := by unfold kbn; rw [List.foldl_append]; rfl
def eKT (t : KT') : Dt := .dic (t.map fun p => (nk p.1, .lst (p.2.map .str)))
inductive RowsR (P : Program) (w : World) (K : PySem.W.Frag) (F F' Hd : Hp) : List (NestedKey × Addr × V) → KT' → List Addr → Prop
  | nil : RowsR P w K F F' Hd [] [] []
  | cons {n : Nm} {b c : Addr} {ks : List Str} {xs : List (NestedKey × Addr × V)} {t : KT'} {cs : List Addr} : Rep P w K Hd (.ref b) (eN n) → F c = none → F' c = some (.lst (ks.map V.str)) → RowsR P w K F F' Hd xs t cs → RowsR P w K F F' Hd ((nk n, b, .ref c) :: xs) ((n, ks) :: t) (c :: cs)
section
variable {P : Program} {w : World} {K : PySem.W.Frag} {F F' F2 Hd Hd2 : Hp}
theorem RowsR.mono (e : Ex Hd Hd2) : ∀ {xs : List (NestedKey × Addr × V)} {t : KT'} {cs : List Addr}, RowsR P w K F F' Hd xs t cs → (∀ c ∈ cs, F2 c = F' c) → RowsR P w K F F2 Hd2 xs t cs
  | _, _, _, .nil, _ => .nil
  | _, _, _, .cons h1 h2 h3 t, h => .cons (h1.mono e) h2 (by rw [h _ (.head _)]; exact h3) (RowsR.mono e t fun c hc => h c (.tail _ hc))
theorem RowsR.keys : ∀ {xs : List (NestedKey × Addr × V)} {t : KT'} {cs : List Addr}, RowsR P w K F F' Hd xs t cs → KeysR P w K Hd xs
  | _, _, _, .nil, p, hp => nomatch hp
  | _, _, _, .cons h1 h2 h3 t, p, hp => by
    rcases List.mem_cons.mp hp with z | hp
    · subst z; exact ⟨by rw [nkD_nk]; exact h1, depth_nk _⟩
    · exact RowsR.keys t p hp
theorem RowsR.len : ∀ {xs : List (NestedKey × Addr × V)} {t : KT'} {cs : List Addr}, RowsR P w K F F' Hd xs t cs → xs.length = t.length
  | _, _, _, .nil => rfl
  | _, _, _, .cons _ _ _ t => congrArg (· + 1) (RowsR.len t)
theorem RowsR.free : ∀ {xs : List (NestedKey × Addr × V)} {t : KT'} {cs : List Addr}, RowsR P w K F F' Hd xs t cs → ∀ c ∈ cs, F c = none ∧ ∃ ys, F' c = some (.lst ys)
  | _, _, _, .nil, c, hc => nomatch hc
  | _, _, _, .cons h1 h2 h3 t, c, hc => by
    rcases List.mem_cons.mp hc with z | hc
    · subst z; exact ⟨h2, _, h3⟩
    · exact RowsR.free t c hc
/-- a row's place -/
theorem RowsR.at {n : Nm} : ∀ {xs : List (NestedKey × Addr × V)} {t : KT'} {cs : List Addr}, RowsR P w K F F' Hd xs t cs → (n ∈ t.map (·.1) → ∃ c ks, c ∈ cs ∧ xat xs (nk n) = some (.ref c) ∧ F' c = some (.lst (ks.map V.str)) ∧
      (∀ k, cs.Nodup → (t.map (·.1)).Nodup → RowsR P w K F (upd F' c (.lst ((ks ++ [k]).map V.str))) Hd xs (t.map fun p => if p.1 = n then (p.1, p.2 ++ [k]) else p) cs)) ∧ (n ∉ t.map (·.1) → xat xs (nk n) = none)
  | _, _, _, .nil => ⟨fun h => (by cases h), fun _ => rfl⟩
  | _, _, _, .cons (n := n0) (b := b) (c := c) (ks := ks) (xs := xs) (t := t) (cs := cs) h1 h2 h3 tl => by
    have ih := RowsR.at (n := n) tl
    unfold xat at *
    rw [List.map_cons, List.find?_cons]
    by_cases h : n0 = n
    · subst h
      simp only [decide_true]
      refine ⟨fun _ => ⟨c, ks, .head _, rfl, h3, fun k nd nd2 => ?_⟩, fun z => absurd (.head _) z⟩
      rw [List.nodup_cons] at nd
      rw [List.nodup_cons] at nd2
      have e1 : (t.map fun p => if p.1 = n0 then (p.1, p.2 ++ [k]) else p) = t := by
        have : ∀ p ∈ t, (if p.1 = n0 then (p.1, p.2 ++ [k]) else p) = p := fun p hp => if_neg fun z => nd2.1 (List.mem_map.mpr ⟨p, hp, z⟩)
        rw [List.map_congr_left this]
        simp
      rw [List.map_cons, if_pos rfl, e1]
      exact .cons h1 h2 upd_same (tl.mono (Ex.refl _) fun c' hc' => upd_ne fun z => nd.1 (z ▸ hc'))
    · have h' : ¬ nk n0 = nk n := fun z => h (nk_inj z)
      simp only [h', decide_false]
      refine ⟨fun hm => ?_, fun hm => ih.2 fun z => hm (.tail _ z)⟩
      rcases List.mem_cons.mp hm with z | hm
      · exact absurd z.symm h
      · obtain ⟨c', ks', g1, g2, g3, g4⟩ := ih.1 hm
        refine ⟨c', ks', .tail _ g1, g2, g3, fun k nd nd2 => ?_⟩
        rw [List.nodup_cons] at nd
        rw [List.nodup_cons] at nd2
        rw [List.map_cons, if_neg h]
        exact .cons h1 h2 (by rw [upd_ne (fun z => nd.1 (by rw [z]; exact g1))]; exact h3) (g4 k nd.2 nd2.2)
theorem RowsR.snoc {n : Nm} {b c : Addr} {ks : List Str} (h1 : Rep P w K Hd (.ref b) (eN n)) (h2 : F c = none) (h3 : F' c = some (.lst (ks.map V.str))) : ∀ {xs : List (NestedKey × Addr × V)} {t : KT'} {cs : List Addr}, RowsR P w K F F' Hd xs t cs → RowsR P w K F F' Hd (xs ++ [(nk n, b, .ref c)]) (t ++ [(n, ks)]) (cs ++ [c])
  | _, _, _, .nil => .cons h1 h2 h3 .nil
  | _, _, _, .cons g1 g2 g3 t => .cons g1 g2 g3 (RowsR.snoc h1 h2 h3 t)
theorem RowsR.rep (hFG : ∀ c o, F c = none → F' c = some o → Hd2 c = some o) (e : Ex Hd Hd2) : ∀ {xs : List (NestedKey × Addr × V)} {t : KT'} {cs : List Addr}, RowsR P w K F F' Hd xs t cs → RepD P w K Hd2 xs (t.map fun p => (nk p.1, .lst (p.2.map .str)))
  | _, _, _, .nil => .nil
  | _, _, _, .cons h1 h2 h3 t => .cons (by rw [nkD_nk]; exact h1.mono e) (depth_nk _) (.lst (hFG _ _ h2 h3) (RepL.of_strs _)) (RowsR.rep hFG e t)
end
theorem kstep_names (t : KT') (r : Row) : (kstep t r).map (·.1) = if r.nm ∈ t.map (·.1) then t.map (·.1) else t.map (·.1) ++ [r.nm] := by
  unfold kstep
  split
  · rw [List.map_map]
    refine List.map_congr_left fun p _ => ?_
    simp only [Function.comp]
    split <;> rfl
  · rw [List.map_append]; rfl
theorem kbn_nodup (rs : List Row) : ((kbn rs).map (·.1)).Nodup := by
  refine rev_ind (P := fun rs => ((kbn rs).map (·.1)).Nodup) List.nodup_nil (fun rs r ih => ?_) rs
  rw [kbn_snoc, kstep_names]
  split
  · exact ih
  · next h =>
    rw [List.nodup_append]
    exact ⟨ih, List.nodup_cons.mpr ⟨by simp, List.nodup_nil⟩, fun a ha b hb => by rw [List.mem_singleton.mp hb]; rintro rfl; exact h ha⟩
theorem kbn_len (rs : List Row) : (kbn rs).length ≤ rs.length := by
  refine rev_ind (P := fun rs => (kbn rs).length ≤ rs.length) (Nat.le_refl _) (fun rs r ih => ?_) rs
  rw [kbn_snoc]
  unfold kstep
  split
  · simp; omega
  · simp; omega
theorem kbn_klen (rs : List Row) : ∀ p ∈ kbn rs, p.2.length ≤ rs.length := by
  refine rev_ind (P := fun rs => ∀ p ∈ kbn rs, p.2.length ≤ rs.length) (fun p hp => nomatch hp) (fun rs r ih p hp => ?_) rs
  rw [kbn_snoc] at hp
  unfold kstep at hp
  rw [List.length_append, List.length_singleton]
  split at hp
  · obtain ⟨q, hq, rfl⟩ := List.mem_map.mp hp
    have := ih q hq
    split
    · rw [List.length_append]; simp; omega
    · omega
  · rcases List.mem_append.mp hp with z | z
    · have := ih p z; omega
    · rw [List.mem_singleton.mp z]; simp
end Rw
namespace Rw
open PySem PySem.Spec PyProof.Rows L2
section
variable {P : Program} {w : World} {K : PySem.W.Frag} {pp : Option Addr} {F F' G Hd H : Hp} {σ : L2.St} {ρ : List En} {D : Addr} {o o' : HO}
theorem ER.putUn {i : Nat} {x : Option V} (er : ER P w K pp F G Hd H σ ρ) (hi : i ≠ 0) : ER P w K pp F G Hd H (σ.set i x) (ρ.set i .un) where
  pt := fun a h => by rw [List.getElem?_set_ne hi]; exact er.pt a h
  fr := er.fr
  gd := er.gd
  sb := er.sb
  sep := er.sep
  len := by rw [List.length_set, List.length_set]; exact er.len
  sl := fun j e h => by
    by_cases hj : i = j
    · subst hj
      have hl : i < (ρ.set i .un).length := (List.getElem?_eq_some_iff.mp h).1
      rw [List.length_set] at hl
      rw [List.getElem?_set_self hl] at h
      cases h
      exact ⟨x, by rw [List.getElem?_set_self (by rw [er.len]; exact hl)], trivial⟩
    · rw [List.getElem?_set_ne hj] at h ⊢
      exact er.sl j e h
  ow := fun a b e e' y h1 h2 o1 o2 s1 s2 => by
    by_cases ha : i = a
    · subst ha
      have hl : i < (ρ.set i .un).length := (List.getElem?_eq_some_iff.mp h1).1
      rw [List.length_set] at hl
      rw [List.getElem?_set_self hl] at h1
      cases h1; cases o1
    · by_cases hb : i = b
      · subst hb
        have hl : i < (ρ.set i .un).length := (List.getElem?_eq_some_iff.mp h2).1
        rw [List.length_set] at hl
        rw [List.getElem?_set_self hl] at h2
        cases h2; cases o2
      · rw [List.getElem?_set_ne ha] at h1 s1
        rw [List.getElem?_set_ne hb] at h2 s2
        exact er.ow a b e e' y h1 h2 o1 o2 s1 s2
/-- what a slot holds is known -/
theorem ER.know {i : Nat} {v : V} {d : Dt} (er : ER P w K pp F G Hd H σ ρ) (h : σ[i]? = some (some v)) (r : Rep P w K Hd v d) : ER P w K pp F G Hd H σ (ρ.set i (.dat d)) where
  pt := er.pt
  fr := er.fr
  gd := er.gd
  sb := er.sb
  sep := er.sep
  len := by rw [List.length_set]; exact er.len
  sl := fun j e q => by
    by_cases hj : i = j
    · subst hj
      have hl : i < (ρ.set i (.dat d)).length := (List.getElem?_eq_some_iff.mp q).1
      rw [List.length_set] at hl
      rw [List.getElem?_set_self hl] at q
      cases q
      exact ⟨some v, h, v, rfl, r⟩
    · rw [List.getElem?_set_ne hj] at q
      exact er.sl j e q
  ow := fun a b e e' y h1 h2 o1 o2 s1 s2 => by
    by_cases ha : i = a
    · subst ha
      have hl : i < (ρ.set i (.dat d)).length := (List.getElem?_eq_some_iff.mp h1).1
      rw [List.length_set] at hl
      rw [List.getElem?_set_self hl] at h1
      cases h1; cases o1
    · by_cases hb : i = b
      · subst hb
        have hl : i < (ρ.set i (.dat d)).length := (List.getElem?_eq_some_iff.mp h2).1
        rw [List.length_set] at hl
        rw [List.getElem?_set_self hl] at h2
        cases h2; cases o2
      · rw [List.getElem?_set_ne ha] at h1
        rw [List.getElem?_set_ne hb] at h2
        exact er.ow a b e e' y h1 h2 o1 o2 s1 s2
end
theorem noOwnL {ρ : List En} (h : ρ.all (fun e => !isOwn e) = true) : ∀ (j : Nat) (e : En), ρ[j]? = some e → isOwn e = false := fun j e he => by
  have := List.all_eq_true.mp h e (List.mem_of_getElem? he)
  simpa using this
theorem Ex.upd_out {F F2 : Hp} {c : Addr} {o : HO} (h : Ex F F2) (hc : F c = none) : Ex F (upd F2 c o) := fun x u e => by
  rw [upd_ne (ne_of_none e hc)]
  exact h x u e
theorem newOnly_upd {F F2 G : Hp} {c : Addr} {o : HO} (h : ∀ x, F x = none → F2 x ≠ none → G x = none) (hc : G c = none) : ∀ x, F x = none → upd F2 c o x ≠ none → G x = none := fun x h1 h2 => by
  by_cases e : x = c
  · rw [e]; exact hc
  · rw [upd_ne e] at h2; exact h x h1 h2
variable {P : Program} {w : World} {K : PySem.W.Frag} {mg : Str → Option Value} {base : Heap}
abbrev rKBN : List Dt → Dt → Prop := fun ds d => ∃ rs, ds = [eRs rs] ∧ OkRows rs ∧ d = eKT (kbn (srt rs))
theorem sc_kinds_by_name : FnScope ["records", "table", "record", "row"] ["records"] (defScope s_kinds_by_name) := ⟨rfl, rfl, rfl, by decide, rfl, by decide, by decide⟩
theorem kinds_by_name_ok (DO : DefOk P w K mg base "ordered_records" 6 1 (spD P w K 1 rOrd)) (F : Fn K mg "kinds_by_name" s_kinds_by_name) : DefOk P w K mg base "kinds_by_name" 7 1 (spD P w K 1 rKBN) :=
  defOk ["records", "table", "record", "row"] ["records"] F sc_kinds_by_name rfl (fun _ _ _ _ _ _ us h => by
    match us, h with
    | [_], _ => rfl) (by
    rintro fa cdv A outer s' H0 E hr ds d hl ⟨rs, rfl, ok, rfl⟩
    have okS := ok.srt
    have hlz := okS.lz
    refine SD.of (pss_cons (ps_set (i := 1) sc_kinds_by_name.nd rfl (.inl rfl) pe_dnewX (by rfl) (.inl rfl)) (pss_cons (ps_for PassesOwn.never rfl pi_c pg_c (pss_cons (ps_set (i := 3) sc_kinds_by_name.nd rfl (.inl rfl) (pe_setd hr (pe_var (i := 1) rfl (.inl rfl)) (pa_cons pe_c (pa_cons (pe_lst pa_nil) pa_nil (by rfl)) (by rfl))) (by rfl) (.inl rfl))
      (pss_cons (ps_expr (pe_bm PySem.F.plainAttrs_list PySem.F.slot_list_append PySem.F.type_list_append mt_append (pe_var (i := 3) rfl (.inl rfl)) (pa_cons pe_c pa_nil (by rfl))) (by rfl)) pss_nil))) pss_c)) fun pp F G Hd H σ D er k => ?_
    intro a ep ha
    have hHda : Hd a = none := er.fresh ha
    have hFa : F a = none := er.fr.back ha
    have hGa : G a = none := er.gd.back hHda
    have er0 : ER P w K pp (upd F a (.ext (DObj P w a ([], ep)))) G Hd (upd H a (.ext (DObj P w a ([], ep)))) (σ.set 1 (some (.ref a))) [.dat (eRs rs), .un, .un, .un] :=
      ER.hold ((ER.grow er (Ex.new ha)).putUn (i := 1) (by decide)) hHda upd_same (fun j e h o => by rw [noOwnL (ρ := [.dat (eRs rs), .un, .un, .un]) rfl j e h] at o; cases o)
    have hs1 : (σ.set 1 (some (V.ref a)))[1]? = some (some (V.ref a)) := List.getElem?_set_self (by rw [er.len]; show 1 < 4; decide)
    refine EI.list (.call DO hr (.one (.var (i := 0) rfl)) ⟨rs, rfl, ok, rfl⟩) pp _ G Hd _ _ _ er0 fun J Hd1 H1 e1 er1 W => ?_
    generalize hL : srt rs = L at *
    refine ⟨fun i m σ H => m = L.length - i ∧ i ≤ L.length ∧ ∃ Hd' F' xs cs e2, isOwn e2 = false ∧ Ex Hd1 Hd' ∧ ER P w K pp F' G Hd' H σ [.dat (eRs rs), .un, e2, .un] ∧ Ex F F' ∧ (∀ x, F x = none → F' x ≠ none → G x = none) ∧ σ[1]? = some (some (V.ref a)) ∧ F' a = some (.ext (DObj P w a xs)) ∧ RowsR P w K F F' Hd' xs.1 (kbn (L.take i)) cs ∧ cs.Nodup ∧ a ∉ cs,
      ⟨L.length, by simp, Nat.zero_le _, Hd1, _, ([], ep), [], .un, rfl, Ex.refl _, er1, Ex.new hFa, newOnly_upd (fun x h1 h2 => absurd h1 h2) hGa, hs1, upd_same, .nil, List.nodup_nil, by simp⟩, ?_⟩
    rintro i m σ2 H2 ⟨rfl, hle, Hd2, F2, xs, cs, e2, ho, ed, er2, hF, hG, hsl, hFa2, rows, nd, hac⟩
    by_cases hlt : i < L.length
    · obtain ⟨r, q⟩ : ∃ r, L[i]? = some r := ⟨_, List.getElem?_eq_getElem hlt⟩
      have hget : (L.map eR)[i]? = some (eR r) := by rw [List.getElem?_map, q]; rfl
      obtain ⟨hgo, hy⟩ := W.1 i _ H2 Hd2 ed er2.sb hget
      refine .inr ⟨hgo, fun σ' H' => ∃ Hd' F' xs cs e2, isOwn e2 = false ∧ Ex Hd1 Hd' ∧ ER P w K pp F' G Hd' H' σ' [.dat (eRs rs), .un, e2, .un] ∧ Ex F F' ∧ (∀ x, F x = none → F' x ≠ none → G x = none) ∧ σ'[1]? = some (some (V.ref a)) ∧ F' a = some (.ext (DObj P w a xs)) ∧ RowsR P w K F F' Hd' xs.1 (kbn (L.take (i + 1))) cs ∧ cs.Nodup ∧ a ∉ cs,
        fun σ' H' q => ⟨L.length - (i + 1), by omega, rfl, hlt, q⟩, fun x H' y => ?_⟩
      obtain ⟨eH, rx⟩ := hy x H' y
      subst eH
      refine BT.name (i := 2) sc_kinds_by_name.nd rfl (by decide) (.inl rfl) (.inl rfl) pp F2 G Hd2 _ σ2 x _ er2 rx fun σ3 Hd3 H3 e3 er3 kp => ?_
      have hs3 : σ3[1]? = some (some (V.ref a)) := by rw [kp.2 1 (by decide)]; exact hsl
      refine ⟨.ref a, hs3, ⟨a, xs, rfl, .inl (er3.fr a _ hFa2)⟩, ?_⟩
      refine (EV.ixT (d := eN r.nm) (.var (i := 2) rfl) .int rfl) pp F2 G Hd3 H3 σ3 _ er3 fun v Hd4 H4 e4 er4 r4 => ?_
      refine ⟨Nat.zero_le _, fun p hp => ?_⟩
      obtain ⟨b, rfl⟩ : ∃ b, v = V.ref b := by cases r4; exact ⟨_, rfl⟩
      have hHa4 := er4.fr a _ hFa2
      have hpa : p ≠ a := fun z => by rw [z, hHa4] at hp; cases hp
      have hpd : Hd4 p = none := er4.fresh hp
      have hpF2 : F2 p = none := er4.fr.back hp
      have hpF : F p = none := hF.back hpF2
      have hpG : G p = none := er4.gd.back hpd
      have rows4 := rows.mono (F2 := F2) (e3.trans e4) fun c _ => rfl
      have ek : kbn (L.take (i + 1)) = kstep (kbn (L.take i)) r := by rw [List.take_add_one, q]; exact kbn_snoc _ _
      have hkl := kbn_len (L.take i)
      rw [List.length_take] at hkl
      have hkk := kbn_klen (L.take i)
      refine ⟨Hd4, a, b, r.nm.map .text, .ref p, xs, rfl, rfl, by rw [upd_ne hpa.symm]; exact hHa4, (er4.grow (Ex.new hp)).sb, rows4.keys, by rw [rows.len, sizeLine_eq]; omega, by rw [show nkD (.tup (r.nm.map .text)) = eN r.nm from nkD_nk _]; exact r4, depth_nk _, ?_⟩
      by_cases hin : r.nm ∈ (kbn (L.take i)).map (·.1)
      · obtain ⟨c, ks, hc, hx, hFc, hnew⟩ := rows4.at.1 hin
        rw [show (NestedKey.tup (r.nm.map .text)) = nk r.nm from rfl, hx]
        have hFc0 := (rows.free c hc).1
        have hGc : G c = none := hG c hFc0 (by rw [hFc]; exact Option.some_ne_none _)
        have hca : c ≠ a := fun z => hac (z ▸ hc)
        have er5 : ER P w K pp F2 G Hd4 (upd H4 p (.lst [])) (σ3.set 3 (some (V.ref c))) [.dat (eRs rs), .un, .dat (eR r), .un] := (er4.grow (Ex.new hp)).putUn (i := 3) (by decide)
        have hl3 : 3 < σ3.length := by rw [er3.len]; show 3 < 4; decide
        have hkc : ks.length ≤ 1000 := by
          have : ∀ {xs : List (NestedKey × Addr × V)} {t : KT'} {cs : List Addr}, RowsR P w K F F2 Hd4 xs t cs → c ∈ cs → ∃ p ∈ t, p.2 = ks := by
            intro xs t cs h
            induction h with
            | nil => intro z; cases z
            | cons h1 h2 h3 t ih =>
              intro z
              rcases List.mem_cons.mp z with z | z
              · subst z
                rw [hFc] at h3
                have e := HO.lst.inj (Option.some.inj h3)
                have inj : ∀ a b : List Str, a.map V.str = b.map V.str → a = b := by
                  intro a
                  induction a with
                  | nil => intro b h; cases b with
                    | nil => rfl
                    | cons _ _ => cases h
                  | cons x a ih => intro b h; cases b with
                    | nil => cases h
                    | cons y b => rw [List.map_cons, List.map_cons] at h; injection h with h1 h2; injection h1 with h1; rw [h1, ih b h2]
                exact ⟨_, .head _, (inj _ _ e).symm⟩
              · obtain ⟨p, hp, e⟩ := ih z
                exact ⟨p, .tail _ hp, e⟩
          obtain ⟨p', hp', e'⟩ := this rows4 hc
          have := hkk p' hp'
          rw [e', List.length_take] at this
          omega
        refine ⟨.ref c, List.getElem?_set_self hl3, .inl ⟨rfl, _, .of (by rw [upd_ne (fun z => by rw [z, hpF2] at hFc; cases hFc)]; exact er4.fr c _ hFc)⟩, ?_⟩
        refine (EV.ixT (d := .str r.kd) (.var (i := 2) rfl) .int rfl) pp F2 G Hd4 _ _ _ er5 fun v6 Hd6 H6 e6 er6 r6 => ?_
        cases r6
        have hHd6 : Hd6 c = none := er6.sep c (by rw [hFc]; exact Option.some_ne_none _) hGc
        refine ⟨c, ks.map V.str, .str r.kd, rfl, rfl, er6.fr c _ hFc, by rw [List.length_map, sizeLine_eq]; omega, ?_⟩
        have el : ks.map V.str ++ [V.str r.kd] = (ks ++ [r.kd]).map V.str := by rw [List.map_append]; rfl
        rw [el]
        refine ⟨Hd6, upd F2 c (.lst ((ks ++ [r.kd]).map V.str)), xs, cs, .dat (eR r), rfl, ((ed.trans e3).trans e4).trans e6, er6.reholdG hFc hHd6, hF.upd_out hFc0, newOnly_upd hG hGc, ?_, by rw [upd_ne hca.symm]; exact hFa2, ?_, nd, hac⟩
        · rw [List.getElem?_set_ne (by decide)]; exact hs3
        · rw [ek]
          unfold kstep
          rw [if_pos hin]
          exact (hnew r.kd nd (kbn_nodup _)).mono e6 fun c _ => rfl
      · rw [show (NestedKey.tup (r.nm.map .text)) = nk r.nm from rfl, rows4.at.2 hin]
        intro ep2
        have er5a : ER P w K pp (upd F2 p (.lst [])) G Hd4 (upd H4 p (.lst [])) σ3 [.dat (eRs rs), .un, .dat (eR r), .un] :=
          ER.hold (er4.grow (Ex.new hp)) hpd upd_same (fun j e h o => by rw [noOwnL (ρ := [.dat (eRs rs), .un, .dat (eR r), .un]) rfl j e h] at o; cases o)
        have hF3a : upd F2 p (.lst []) a = some (.ext (DObj P w a xs)) := by rw [upd_ne hpa.symm]; exact hFa2
        have hHd4a : Hd4 a = none := er4.sep a (by rw [hFa2]; exact Option.some_ne_none _) hGa
        have er5b := er5a.reholdG (o' := .ext (DObj P w a (xs.1 ++ [(nk r.nm, b, V.ref p)], ep2))) hF3a hHd4a
        have er5 : ER P w K pp (upd (upd F2 p (.lst [])) a (.ext (DObj P w a (xs.1 ++ [(nk r.nm, b, V.ref p)], ep2)))) G Hd4 (upd (upd H4 p (.lst [])) a (.ext (DObj P w a (xs.1 ++ [(nk r.nm, b, V.ref p)], ep2)))) (σ3.set 3 (some (V.ref p))) [.dat (eRs rs), .un, .dat (eR r), .un] := er5b.putUn (i := 3) (by decide)
        have hl3 : 3 < σ3.length := by rw [er3.len]; show 3 < 4; decide
        have hF4p : upd (upd F2 p (.lst [])) a (.ext (DObj P w a (xs.1 ++ [(nk r.nm, b, V.ref p)], ep2))) p = some (.lst []) := by rw [upd_ne hpa]; exact upd_same
        refine ⟨.ref p, List.getElem?_set_self hl3, .inl ⟨rfl, _, .of (by rw [upd_ne hpa]; exact upd_same)⟩, ?_⟩
        refine (EV.ixT (d := .str r.kd) (.var (i := 2) rfl) .int rfl) pp _ G Hd4 _ _ _ er5 fun v6 Hd6 H6 e6 er6 r6 => ?_
        cases r6
        have hHd6 : Hd6 p = none := er6.sep p (by rw [hF4p]; exact Option.some_ne_none _) hpG
        refine ⟨p, [], .str r.kd, rfl, rfl, er6.fr p _ hF4p, by decide, ?_⟩
        refine ⟨Hd6, upd (upd (upd F2 p (.lst [])) a (.ext (DObj P w a (xs.1 ++ [(nk r.nm, b, V.ref p)], ep2)))) p (.lst [V.str r.kd]), (xs.1 ++ [(nk r.nm, b, V.ref p)], ep2), cs ++ [p], .dat (eR r), rfl, ((ed.trans e3).trans e4).trans e6, er6.reholdG (o' := .lst [V.str r.kd]) hF4p hHd6, ((hF.upd_out hpF).upd_out hFa).upd_out hpF, newOnly_upd (newOnly_upd (newOnly_upd hG hpG) hGa) hpG, ?_, by rw [upd_ne hpa.symm]; exact upd_same, ?_, ?_, ?_⟩
        · rw [List.getElem?_set_ne (by decide)]; exact hs3
        · rw [ek]
          unfold kstep
          rw [if_neg hin]
          refine RowsR.snoc (ks := [r.kd]) (r4.mono e6) hpF upd_same (rows4.mono e6 fun c hc => ?_)
          obtain ⟨_, ys, hys⟩ := rows.free c hc
          have h1 : c ≠ p := fun z => by rw [z, hpF2] at hys; cases hys
          have h2 : c ≠ a := fun z => hac (z ▸ hc)
          rw [upd_ne h1, upd_ne h2, upd_ne h1]
        · rw [List.nodup_append]
          refine ⟨nd, List.nodup_cons.mpr ⟨by simp, List.nodup_nil⟩, fun c hc d hd => ?_⟩
          rw [List.mem_singleton.mp hd]
          rintro rfl
          obtain ⟨_, ys, hys⟩ := rows.free c hc
          rw [hpF2] at hys; cases hys
        · intro z
          rcases List.mem_append.mp z with z | z
          · exact hac z
          · exact hpa (List.mem_singleton.mp z).symm
    · have e : i = L.length := by omega
      subst e
      refine .inl ⟨W.2 _ H2 Hd2 ed er2.sb (by rw [List.length_map]; exact Nat.le_refl _), ?_⟩
      rw [List.take_length] at rows
      have hO : ∀ (j : Nat) (e : En), [En.dat (eRs rs), .un, e2, .un][j]? = some e → isOwn e = false := noOwnL (by show (true && (true && (!isOwn e2 && (true && true)))) = true; rw [ho]; rfl)
      obtain ⟨ed', er9⟩ := er2.giveAll hF hG hO
      have rep : Rep P w K (fun a => if F a = none ∧ F2 a ≠ none then F2 a else Hd2 a) (.ref a) (eKT (kbn L)) :=
        .dic (xs := xs) (by show (if F a = none ∧ F2 a ≠ none then F2 a else Hd2 a) = _; rw [if_pos ⟨hFa, by rw [hFa2]; exact Option.some_ne_none _⟩]; exact hFa2)
          (rows.rep (fun c o h1 h2 => by show (if F c = none ∧ F2 c ≠ none then F2 c else Hd2 c) = _; rw [if_pos ⟨h1, by rw [h2]; exact Option.some_ne_none _⟩]; exact h2) ed')
      exact SD.ret (P := Fin (eKT (kbn L))) (ρ := [.dat (eRs rs), .dat (eKT (kbn L)), e2, .un]) (.var (i := 1) rfl) rfl pp F G _ H2 σ2 D (er9.know (i := 1) hsl rep) (k.up ((e1.trans ed).trans ed')))
end Rw
namespace Rw
open PySem PySem.Spec PyProof.Rows L2
open PySem.W (dataLe dataLt alike alikeAll AllAlike Sortable keyToks)
abbrev s_ones_above : Stmt := topS 96
abbrev s_faults_at : Stmt := topS 97
abbrev s_found_faults : Stmt := topS 98

/-! ### the table of a zone's rows -/
theorem kbn_mem (rs : List Row) : ∀ p, p ∈ kbn rs → p.1 ∈ rs.map Row.nm ∧ p.2 = (rs.filter fun r => decide (r.nm = p.1)).map Row.kd := by
  refine rev_ind (P := fun rs => ∀ p, p ∈ kbn rs → p.1 ∈ rs.map Row.nm ∧ p.2 = (rs.filter fun r => decide (r.nm = p.1)).map Row.kd) (fun p hp => nomatch hp) (fun rs r ih p hp => ?_) rs
  rw [kbn_snoc] at hp
  have hall : ∀ n, n ∈ (kbn rs).map (·.1) ↔ n ∈ rs.map Row.nm := by
    clear hp ih p r
    refine rev_ind (P := fun rs => ∀ n, n ∈ (kbn rs).map (·.1) ↔ n ∈ rs.map Row.nm) (fun n => Iff.rfl) (fun rs r ih n => ?_) rs
    rw [kbn_snoc, kstep_names, List.map_append, List.mem_append]
    by_cases h : r.nm ∈ (kbn rs).map (·.1)
    · rw [if_pos h, ih]
      constructor
      · exact .inl
      · rintro (z | z)
        · exact z
        · rw [List.mem_singleton.mp z]; exact (ih _).mp h
    · rw [if_neg h, List.mem_append, ih]
      rfl
  unfold kstep at hp
  rw [List.map_append, List.filter_append, List.map_append]
  by_cases h : r.nm ∈ (kbn rs).map (·.1)
  · rw [if_pos h] at hp
    obtain ⟨q, hq, rfl⟩ := List.mem_map.mp hp
    obtain ⟨h1, h2⟩ := ih q hq
    by_cases hqn : q.1 = r.nm
    · rw [if_pos hqn]
      refine ⟨List.mem_append_left _ h1, ?_⟩
      rw [h2]
      show _ ++ [r.kd] = _ ++ List.map Row.kd (List.filter (fun r => decide (r.nm = q.1)) [r])
      rw [List.filter_cons, if_pos (by simp [hqn])]
      rfl
    · rw [if_neg hqn]
      refine ⟨List.mem_append_left _ h1, ?_⟩
      rw [List.filter_cons, if_neg (by simp; exact fun z => hqn z.symm), List.filter_nil, List.map_nil, List.append_nil]
      exact h2
  · rw [if_neg h] at hp
    rcases List.mem_append.mp hp with z | z
    · obtain ⟨h1, h2⟩ := ih p z
      refine ⟨List.mem_append_left _ h1, ?_⟩
      have hne : ¬ r.nm = p.1 := fun e => h (List.mem_map.mpr ⟨p, z, e.symm⟩)
      rw [List.filter_cons, if_neg (by simp [hne]), List.filter_nil, List.map_nil, List.append_nil]
      exact h2
    · rw [List.mem_singleton.mp z]
      refine ⟨List.mem_append_right _ (.head _), ?_⟩
      have hno : rs.filter (fun x => decide (x.nm = r.nm)) = [] := by
        rw [List.filter_eq_nil_iff]
        intro x hx e
        exact h ((hall _).mpr (List.mem_map.mpr ⟨x, hx, of_decide_eq_true e⟩))
      show [r.kd] = List.map Row.kd (rs.filter fun x => decide (x.nm = r.nm)) ++ _
      rw [hno, List.filter_cons, if_pos (by simp)]
      rfl
theorem kbn_names (rs : List Row) : ∀ n, n ∈ (kbn rs).map (·.1) ↔ n ∈ rs.map Row.nm := by
  refine rev_ind (P := fun rs => ∀ n, n ∈ (kbn rs).map (·.1) ↔ n ∈ rs.map Row.nm) (fun n => Iff.rfl) (fun rs r ih n => ?_) rs
  rw [kbn_snoc, kstep_names, List.map_append, List.mem_append]
  by_cases h : r.nm ∈ (kbn rs).map (·.1)
  · rw [if_pos h, ih]
    constructor
    · exact .inl
    · rintro (z | z)
      · exact z
      · rw [List.mem_singleton.mp z]; exact (ih _).mp h
  · rw [if_neg h, List.mem_append, ih]
    rfl
theorem kbn_head (r : Row) (rs : List Row) : ∃ ks t, kbn (r :: rs) = (r.nm, ks) :: t := by
  refine rev_ind (P := fun rs => ∃ ks t, kbn (r :: rs) = (r.nm, ks) :: t) ⟨[r.kd], [], rfl⟩ (fun rs r' ih => ?_) rs
  obtain ⟨ks, t, e⟩ := ih
  rw [show r :: (rs ++ [r']) = (r :: rs) ++ [r'] from rfl, kbn_snoc, e]
  unfold kstep
  split
  · rw [List.map_cons]
    split <;> exact ⟨_, _, rfl⟩
  · exact ⟨ks, t ++ [(r'.nm, [r'.kd])], rfl⟩
/-- what a table of a zone looks like -/
structure OkT (t : KT') : Prop where
  nd : (t.map (·.1)).Nodup
  hd : ∃ ks r, t = ([], ks) :: r
  root : ∀ p ∈ t, p.1 = [] → p.2.Perm (["start", "server"] : List Str)
  rest : ∀ p ∈ t, p.1 ≠ [] → p.2 = (["text"] : List Str) ∨ p.2 = (["alias"] : List Str)
  nm : ∀ p ∈ t, OkN p.1 ∧ p.1.length ≤ 10
  lz : t.length ≤ 10
theorem filter_one {l : ZL} (nd : (zNames l).Nodup) {e : ZE} (he : e ∈ l) : (l.map rowOf).filter (fun r => decide (r.nm = e.1)) = [rowOf e] := by
  induction l with
  | nil => cases he
  | cons x l ih =>
    unfold zNames at nd
    rw [List.map_cons, List.nodup_cons] at nd
    rw [List.map_cons, List.filter_cons, rowOf_nm]
    rcases List.mem_cons.mp he with z | z
    · subst z
      rw [if_pos (by simp)]
      have : (l.map rowOf).filter (fun r => decide (r.nm = e.1)) = [] := by
        rw [List.filter_eq_nil_iff]
        intro r hr q
        obtain ⟨y, hy, rfl⟩ := List.mem_map.mp hr
        rw [rowOf_nm] at q
        exact nd.1 (List.mem_map.mpr ⟨y, hy, of_decide_eq_true q⟩)
      rw [this]
    · have hne : ¬ x.1 = e.1 := fun q => nd.1 (List.mem_map.mpr ⟨e, z, q.symm⟩)
      rw [if_neg (by simp [hne])]
      exact ih nd.2 z
theorem toks_root (p : Nm × Str) (k : Str) (h : p.1 ≠ []) : dataLt (rcP ([], k)) (rcP p) = true := by
  obtain ⟨n, k2⟩ := p
  cases n with
  | nil => exact absurd rfl h
  | cons x n =>
    show PyProof.Rows.lexLt itemOrd (keyToks (rcP ([], k))) (keyToks (rcP (x :: n, k2))) = true
    have e1 : keyToks (rcP ([], k)) = .inl 1 :: .inl 0 :: (PySem.W.keyToksAll [PyData.str k]) := by
      simp [rcP, nmP, keyToks, PySem.W.keyToksAll]
    have e2 : ∃ r, keyToks (rcP (x :: n, k2)) = .inl 1 :: .inl 1 :: r := by
      simp [rcP, nmP, keyToks, PySem.W.keyToksAll]
    obtain ⟨r, e2⟩ := e2
    rw [e1, e2, lex_self (O := itemOrd), lex_diff (O := itemOrd) (by simp)]
    simp [PyProof.Rows.lexLt, itemLt]
theorem zt_ok {l : ZL} (h : OkZ l) {rs : List Row} (hp : rs.Perm (zrows l)) : OkT (kbn (srt rs)) := by
  have hp2 : (srt rs).Perm (zrows l) := (srt_perm rs).trans hp
  have okz := zrows_ok h
  have hne : ∀ e ∈ l, e.1 ≠ [] := fun e he => (h.nm e.1 (List.mem_map.mpr ⟨e, he, rfl⟩)).2.1
  have hkind : ∀ p ∈ kbn (srt rs), p.2.Perm (((zrows l).filter fun r => decide (r.nm = p.1)).map Row.kd) ∧ p.1 ∈ (zrows l).map Row.nm := fun p hp' => by
    obtain ⟨h1, h2⟩ := kbn_mem _ p hp'
    rw [h2]
    exact ⟨(hp2.filter _).map _, (hp2.map Row.nm).mem_iff.mp h1⟩
  refine ⟨kbn_nodup _, ?_, fun p hp' e => ?_, fun p hp' e => ?_, fun p hp' => ?_, ?_⟩
  · cases q : srt rs with
    | nil =>
      have := hp2.length_eq
      rw [q] at this
      unfold zrows at this
      simp at this
    | cons r0 rest =>
      have hr0 : r0.nm = [] := by
        by_cases z : r0.nm = []
        · exact z
        · have hserv : Row.serv ∈ srt rs := hp2.mem_iff.mpr (.tail _ (.head _))
          rw [q] at hserv
          rcases List.mem_cons.mp hserv with w | w
          · rw [← w] at z; exact absurd rfl z
          · have tot := PySem.W.sortLe_total (PyProof.Rows.listOrd itemOrd) false fun r : Row => keyToks (rcP r.k2)
            have hpw : (srt rs).Pairwise fun a b => dataLe false (fun r : Row => rcP r.k2) a b = true := List.pairwise_mergeSort (le := dataLe false fun r : Row => rcP r.k2) tot.trans (fun a b => by
              rcases tot.total a b with y | y
              · exact Bool.or_eq_true_iff.mpr (.inl y)
              · exact Bool.or_eq_true_iff.mpr (.inr y)) rs
            rw [q] at hpw
            have hle := (List.pairwise_cons.mp hpw).1 Row.serv w
            have hlt := toks_root r0.k2 "server" (fun y => z (by
              have : r0.nm.reverse = [] := y
              exact List.reverse_eq_nil_iff.mp this))
            have hle' : (!dataLt (rcP ([], "server")) (rcP r0.k2)) = true := hle
            rw [hlt] at hle'
            cases hle'
      obtain ⟨ks, t, e⟩ := kbn_head r0 rest
      rw [hr0] at e
      exact ⟨ks, t, e⟩
  · obtain ⟨h1, _⟩ := hkind p hp'
    rw [e] at h1
    have ef : (zrows l).filter (fun r => decide (r.nm = [])) = [.start, .serv] := by
      unfold zrows
      have : (l.map rowOf).filter (fun r => decide (r.nm = [])) = [] := by
        rw [List.filter_eq_nil_iff]
        intro r hr q
        obtain ⟨y, hy, rfl⟩ := List.mem_map.mp hr
        rw [rowOf_nm] at q
        exact hne y hy (of_decide_eq_true q)
      rw [List.filter_cons, if_pos (by decide), List.filter_cons, if_pos (by decide), this]
    rw [ef] at h1
    exact h1
  · obtain ⟨h1, h2⟩ := hkind p hp'
    obtain ⟨r, hr, hrn⟩ := List.mem_map.mp h2
    unfold zrows at hr
    rcases List.mem_cons.mp hr with z | hr
    · subst z; exact absurd hrn.symm e
    · rcases List.mem_cons.mp hr with z | hr
      · subst z; exact absurd hrn.symm e
      · obtain ⟨y, hy, rfl⟩ := List.mem_map.mp hr
        rw [rowOf_nm] at hrn
        have ef : (zrows l).filter (fun r => decide (r.nm = p.1)) = [rowOf y] := by
          unfold zrows
          have ne1 : ¬ decide (Row.start.nm = p.1) = true := by
            intro q; exact e (of_decide_eq_true q).symm
          have ne2 : ¬ decide (Row.serv.nm = p.1) = true := by
            intro q; exact e (of_decide_eq_true q).symm
          rw [List.filter_cons, if_neg ne1, List.filter_cons, if_neg ne2, ← hrn]
          exact filter_one h.nd hy
        rw [ef] at h1
        have h3 : p.2 = [(rowOf y).kd] := List.perm_singleton.mp h1
        rw [h3]
        obtain ⟨n, a, v⟩ := y
        cases v with
        | rows s => exact .inl rfl
        | to m => exact .inr rfl
  · obtain ⟨_, h2⟩ := hkind p hp'
    obtain ⟨r, hr, hrn⟩ := List.mem_map.mp h2
    unfold zrows at hr
    rcases List.mem_cons.mp hr with z | hr
    · subst z; rw [← hrn]; exact ⟨fun x hx => (by cases hx), by decide⟩
    · rcases List.mem_cons.mp hr with z | hr
      · subst z; rw [← hrn]; exact ⟨fun x hx => (by cases hx), by decide⟩
      · obtain ⟨y, hy, rfl⟩ := List.mem_map.mp hr
        rw [rowOf_nm] at hrn
        have := h.nm y.1 (List.mem_map.mpr ⟨y, hy, rfl⟩)
        rw [← hrn]
        exact ⟨this.1, this.2.2⟩
  · have h1 := kbn_len (srt rs)
    have h2 := hp2.length_eq
    have h3 := h.lz
    unfold zrows at h2
    simp at h2
    omega
end Rw
namespace Rw
open PySem PySem.Spec PyProof.Rows L2
open PySem.W (dataLe)
section
variable {X : Cx} {ρ ρ1 : List En} {e : Expr} {pos p : Pos} {P : Ou → Prop} {rest : List Stmt} {xs ds0 : List Dt}
/-- x.extend(e), x a list of one's own -/
theorem SD.ext {i : Nat} {x : Str} {px pa : Pos} {ds : List Dt} (hi0 : ρ[i]? = some (.ol ds0)) (h : EV X e ρ (.lst xs) ρ1) (hi : ρ1[i]? = some (.ol ds)) (hz : ds.length + xs.length ≤ sizeLine) (hk : SD X rest (ρ1.set i (.ol (ds ++ xs))) P) (hN : X.N[i]? = some x := by rfl)
    (hv : Vis X.env.scope x := by first | exact Or.inl rfl | exact Or.inr (Or.inl rfl) | exact Or.inr (Or.inr rfl)) (hd : (x == ("__debug__" : Str)) = false := by decide) (hcd : (x == ("__classdict__" : Str)) = false := by decide)
    (hbase : attributeBase (.Name x px) "extend" X.env (eval (.Name x px) X.env) = eval (.Name x px) X.env := by rfl)
    (hfew : ((backTo p (starEach [e] X.env)).all (fun x => !x.1) && (backToKw p (keywordEach [] X.env)).all (fun x => x.1.isSome)
      && decide (([e] : List Expr).length + ([] : List Keyword).length + (if ([] : List Keyword).isEmpty then 0 else 1) < 30)) = true := by rfl)
    (hline : (pa.endLine == p.line) = true := by rfl) (hse : starEach (e :: []) X.env = (false, eval e X.env) :: starEach [] X.env := by rfl) (hplain : (backTo p (starEach [] X.env)).any (·.1) = false := by rfl)
    (hs : swapsWith (.Call (.Attribute (.Name x px) "extend" pa) [e] [] p) none pos.line X.env = pure false := by rfl) : SD X (.Expr (.Call (.Attribute (.Name x px) "extend" pa) [e] [] p) pos :: rest) ρ P := by
  have h1 := pe_bm PySem.F.plainAttrs_list PySem.F.slot_list_extend PySem.F.type_list_extend (mt_extend (X := X)) (pe_var (pos := px) hN hv hd hcd) (pa_cons pe_c pa_nil hse) hbase hfew hline hse hplain
  refine .st (ps_expr h1 hs) fun pp F G Hd H σ D er k => ?_
  obtain ⟨y0, q0, a, xs0, rfl, _, _, hH0, _⟩ := er.sl i _ hi0
  refine ⟨.ref a, q0, .inl ⟨rfl, _, .of hH0⟩, h pp F G Hd H σ _ er fun v Hd1 H1 e1 er1 r1 => ?_⟩
  obtain ⟨y, q1, a', xs, ey, hF, hHd, hH, r⟩ := er1.sl i _ hi
  subst ey
  rw [q0] at q1
  cases q1
  cases r1 with
  | lst hb lb =>
    refine ⟨a, _, xs, _, rfl, rfl, hH, er1.sb.exact hb rfl, by rw [r.length, lb.length]; exact hz, k.nx _ Hd1 _ _ e1 (er1.mut (en := .ol _) hi rfl q0 ⟨a, _, rfl, hF, hHd, upd_same, r.append lb⟩ rfl) hk⟩
end
variable {P : Program} {w : World} {K : PySem.W.Frag} {mg : Str → Option Value} {base : Heap}
abbrev rOA : List Dt → Dt → Prop := fun ds d => ∃ n x, ds = [eN n, x] ∧ (x = .lst [] ∨ x = .dic []) ∧ d = .bl false
theorem sc_ones_above : FnScope ["name", "names", "other"] ["name", "names"] (defScope s_ones_above) := ⟨rfl, rfl, rfl, by decide, rfl, by decide, by decide⟩
theorem ones_above_ok (B : Bs mg) (F : Fn K mg "ones_above" s_ones_above) : DefOk P w K mg base "ones_above" 1 2 (spD P w K 2 rOA) :=
  defOk ["name", "names", "other"] ["name", "names"] F sc_ones_above rfl (fun _ _ _ _ _ _ us h => by
    match us, h with
    | [_, _], _ => rfl) (by
    rintro fa cdv A outer s' H E hr ds d hl ⟨n, x, rfl, hx, rfl⟩
    rcases hx with rfl | rfl
    · exact .ret (.any (bs := []) rfl B.any (.is (.lcF [("other", 2)] [2] (fun _ => none) rfl sc_ones_above.nd (.list (.var (i := 1) rfl)) (by decide) fun d hd => (by cases hd)) rfl)) rfl
    · exact .ret (.any (bs := []) rfl B.any (.is (.lcF [("other", 2)] [2] (fun _ => none) rfl sc_ones_above.nd (.keys (kvs := []) (.var (i := 1) rfl)) (by decide) fun d hd => (by cases hd)) rfl)) rfl)
abbrev rFaA : List Dt → Dt → Prop := fun ds d => ∃ n ks, ds = [eN [], eN n, .lst (ks.map .str)] ∧ OkN n ∧ ((n = [] ∧ ks.Perm (["start", "server"] : List Str)) ∨ (n ≠ [] ∧ (ks = (["text"] : List Str) ∨ ks = (["alias"] : List Str)))) ∧ d = .lst []
theorem sc_faults_at : FnScope ["apex", "name", "kinds", "words", "kind"] ["apex", "name", "kinds"] (defScope s_faults_at) := ⟨rfl, rfl, rfl, by decide, rfl, by decide, by decide⟩
theorem faults_at_ok (B : Bs mg) (F : Fn K mg "faults_at" s_faults_at) : DefOk P w K mg base "faults_at" 1 3 (spD P w K 3 rFaA) :=
  defOk ["apex", "name", "kinds", "words", "kind"] ["apex", "name", "kinds"] F sc_faults_at rfl (fun _ _ _ _ _ _ us h => by
    match us, h with
    | [_, _, _], _ => rfl) (by
    rintro fa cdv A outer s' H E hr ds d hl ⟨n, ks, rfl, okn, hk, rfl⟩
    have nb : ∀ m : Nm, OkN m → plain (eN m) = true := fun m h => plain_of _ (nobl_eN h)
    have ok0 : OkN [] := fun x hx => (by cases hx)
    have dp : ∀ m : Nm, dep (eN m) ≤ 64 := fun m => by rw [dep_eN]; decide
    -- the facts of the kinds
    have hroot : n = [] → ks.Perm (["start", "server"] : List Str) := fun z => by
      rcases hk with ⟨_, h⟩ | ⟨h, _⟩
      · exact h
      · exact absurd z h
    have hrest : n ≠ [] → ks = (["text"] : List Str) ∨ ks = (["alias"] : List Str) := fun z => by
      rcases hk with ⟨h, _⟩ | ⟨_, h⟩
      · exact absurd h z
      · exact h
    have cAl : decide ((1 : Int) < (ks.count ("alias" : Str) : Nat)) = false ∧ (ks.contains ("alias" : Str) && decide (((ks.count ("alias" : Str) : Nat) : Int) < (ks.length : Nat))) = false := by
      by_cases z : n = []
      · have h := hroot z
        rw [h.count_eq, h.length_eq, h.contains_eq]
        exact ⟨by decide +kernel, by decide +kernel⟩
      · rcases hrest z with h | h <;> subst h <;> exact ⟨by decide +kernel, by decide +kernel⟩
    have cSv : n = [] → ks.contains ("server" : Str) = true ∧ ks.contains ("start" : Str) = true := fun z => by
      have h := hroot z
      rw [h.contains_eq, h.contains_eq]
      exact ⟨by decide +kernel, by decide +kernel⟩
    have cSv0 : n ≠ [] → ks.contains ("server" : Str) = false := fun z => by
      rcases hrest z with h | h <;> subst h <;> decide +kernel
    have cSt : decide ((if decide (n = []) = true then (1 : Int) else 0) < (ks.count ("start" : Str) : Nat)) = false := by
      by_cases z : n = []
      · have h := hroot z
        rw [h.count_eq, decide_eq_true z]
        decide +kernel
      · rw [decide_eq_false z]
        rcases hrest z with h | h <;> subst h <;> decide +kernel
    have cTr : decide ((1 : Int) < (ks.count ("tree" : Str) : Nat)) = false := by
      by_cases z : n = []
      · have h := hroot z
        rw [h.count_eq]
        decide +kernel
      · rcases hrest z with h | h <;> subst h <;> decide +kernel
    have hst : eqd (eN (n.take 1)) (eN (["*"] : List Str)) = false := eqd_ne (nobl_eN (okn.take 1)) (by decide +kernel) fun z => (okn.take 1 "*" (by rw [eN_inj z]; exact .head _)).star rfl
    refine .newL (i := 3) ?_ sc_faults_at.nd
    refine .skip (k := false) (ρ1 := [.dat (eN []), .dat (eN n), .dat (.lst (ks.map .str)), .ol [], .un]) (.is (.w (.or (.cmp (.gt (.count hr (.var (i := 2) rfl) .str) .int)) fun _ => .or1 (.w (.and (.cmp (.inL .str (.var (i := 2) rfl))) fun _ => .and1 (.cmp (.gt (.lenL B.len (.var (i := 2) rfl)) (.count hr (.var (i := 2) rfl) .str))))))) (by rw [List.length_map, cAl.1, cAl.2]; rfl)) rfl ?_
    refine .skip (k := false) (ρ1 := [.dat (eN []), .dat (eN n), .dat (.lst (ks.map .str)), .ol [], .un]) ?_ rfl ?_
    · refine .is (.w (.and (k := !decide (n = [])) (.is (.cmp (.neD hr (.var (i := 1) rfl) (.var (i := 0) rfl) (nb n okn) (nb [] ok0) (dp _) (dp _))) (by rw [eqd_eN okn ok0])) fun h => .and (k' := false) (.is (b1 := ks.contains ("server" : Str)) (b2 := false) (.cmp (.inL .str (.var (i := 2) rfl))) (cSv0 (by simpa using h))) fun h => (by cases h))) (by simp)
    refine .skip (k := false) (ρ1 := [.dat (eN []), .dat (eN n), .dat (.lst (ks.map .str)), .ol [], .un]) ?_ rfl ?_
    · refine .is (.w (.and (k := decide (n = [])) (k' := false) (.is (.cmp (.eqD hr (.var (i := 1) rfl) (.var (i := 0) rfl) (nb n okn) (nb [] ok0) (dp _) (dp _))) (eqd_eN okn ok0)) fun h => .and1 (.is (.cmp (.ninL .str (.var (i := 2) rfl))) (by rw [(cSv (of_decide_eq_true h)).1]; rfl)))) (by simp)
    refine .skip (k := false) (ρ1 := [.dat (eN []), .dat (eN n), .dat (.lst (ks.map .str)), .ol [], .un]) ?_ rfl ?_
    · refine .is (.w (.and (k := decide (n = [])) (k' := false) (.is (.cmp (.eqD hr (.var (i := 1) rfl) (.var (i := 0) rfl) (nb n okn) (nb [] ok0) (dp _) (dp _))) (eqd_eN okn ok0)) fun h => .and1 (.is (.cmp (.ninL .str (.var (i := 2) rfl))) (by rw [(cSv (of_decide_eq_true h)).2]; rfl)))) (by simp)
    refine .skip (.cmp (.gt (.count hr (.var (i := 2) rfl) .str) (.ofBool B.int (.is (.cmp (.eqD hr (.var (i := 1) rfl) (.var (i := 0) rfl) (nb n okn) (nb [] ok0) (dp _) (dp _))) (by rw [eqd_eN okn ok0]))))) cSt ?_
    refine .skip (.cmp (.gt (.count hr (.var (i := 2) rfl) .str) .int)) cTr ?_
    refine .skip (k := false) (ρ1 := [.dat (eN []), .dat (eN n), .dat (.lst (ks.map .str)), .ol [], .un]) ?_ rfl ?_
    · refine .is (.w (.and (k' := false) (.cmp (.eqD (x := eN (n.take 1)) (y := eN (["*"] : List Str)) hr (.is (.tTo (n := 1) (.var (i := 1) rfl) .int) (by show Dt.tup _ = Dt.tup _; rw [List.map_take])) (.tup (.one .str)) (nb _ (okn.take 1)) (by decide +kernel) (dp _) (dp _))) fun h => (by rw [hst] at h; cases h))) (by simp)
    exact .ret (.own (i := 3) rfl) rfl)
end Rw
namespace Rw
open PySem PySem.Spec PyProof.Rows L2
open PySem.W (dataLe)
variable {P : Program} {w : World} {K : PySem.W.Frag} {mg : Str → Option Value} {base : Heap}
def eKk (t : KT') : List (NestedKey × Dt) := t.map fun p => (nk p.1, .lst (p.2.map .str))
theorem lk_KT : ∀ {t : KT'}, (t.map (·.1)).Nodup → ∀ {p : Nm × List Str}, p ∈ t → lk (eKk t) (nk p.1) = some (.lst (p.2.map .str))
  | [], _, p, h => nomatch h
  | q :: t, nd, p, h => by
    rw [List.map_cons, List.nodup_cons] at nd
    show (if nk q.1 = nk p.1 then some (.lst (q.2.map .str)) else lk (eKk t) (nk p.1)) = _
    rcases List.mem_cons.mp h with z | z
    · subst z; rw [if_pos rfl]
    · rw [if_neg (fun y => nd.1 (by rw [nk_inj y]; exact List.mem_map.mpr ⟨p, z, rfl⟩))]
      exact lk_KT nd.2 z
theorem filterMap_nil {α β : Type} (l : List α) : l.filterMap (fun _ => (none : Option β)) = [] := by
  induction l with
  | nil => rfl
  | cons a l ih => rw [List.filterMap_cons]; exact ih
def revD : Dt → Dt
  | .tup xs => .tup xs.reverse
  | x => x
theorem revD_eN (n : Nm) : revD (eN n) = eN n.reverse := by show Dt.tup _ = Dt.tup _; rw [List.map_reverse]
abbrev rFF : List Dt → Dt → Prop := fun ds d => ∃ rs, ds = [eN [], eRs rs] ∧ OkRows rs ∧ OkT (kbn (srt rs)) ∧ d = .lst []
abbrev nFF : List Str := ["apex", "records", "table", "cuts", "trees", "faults", "name", "words", "kind", "word"]
theorem sc_found_faults : FnScope nFF ["apex", "records"] (defScope s_found_faults) := ⟨rfl, rfl, rfl, by decide, rfl, by decide, by decide⟩
theorem sak_names {X : Cx} {t : KT'} (ok : OkT t) : SAK X (t.map fun p => eN p.1) revD fun d => py (revD d) := by
  obtain ⟨ks, r, e⟩ := ok.hd
  have okn : ∀ p ∈ r, OkN p.1 := fun p hp => (ok.nm p (by rw [e]; exact .tail _ hp)).1
  rw [e]
  refine SAK.names (ns := r.map fun p => p.1.reverse) _ ?_ ?_ ?_
  · rw [List.map_map, List.map_cons, List.map_cons, List.map_map]
    refine List.cons_eq_cons.mpr ⟨rfl, List.map_congr_left fun p _ => ?_⟩
    exact revD_eN p.1
  · rw [List.map_map, List.map_cons, List.map_cons, List.map_map]
    refine List.cons_eq_cons.mpr ⟨rfl, List.map_congr_left fun p _ => ?_⟩
    show py (revD (eN p.1)) = nmP p.1.reverse
    rw [revD_eN]
    exact py_nm _
  · rw [plains_all, List.map_cons, List.map_map, List.all_cons, List.all_map, Bool.and_eq_true]
    refine ⟨rfl, List.all_eq_true.mpr fun p hp => ?_⟩
    exact plain_of _ (nobl_eN (n := p.1.reverse) fun l hl => okn p hp l (List.mem_reverse.mp hl))
theorem found_faults_ok (B : Bs mg) (DK : DefOk P w K mg base "kinds_by_name" 7 1 (spD P w K 1 rKBN)) (DN : DefOk P w K mg base "name_key" 1 1 (spD P w K 1 rKey)) (DF : DefOk P w K mg base "faults_at" 1 3 (spD P w K 3 rFaA)) (DO : DefOk P w K mg base "ones_above" 1 2 (spD P w K 2 rOA)) (F : Fn K mg "found_faults" s_found_faults) :
    DefOk P w K mg base "found_faults" 8 2 (spD P w K 2 rFF) :=
  defOk nFF ["apex", "records"] F sc_found_faults rfl (fun _ _ _ _ _ _ us h => by
    match us, h with
    | [_, _], _ => rfl) (by
    rintro fa cdv A outer s' H E hr ds d hl ⟨rs, rfl, ok, okt, rfl⟩
    have hr1 := hr.mono (show 1 ≤ 7 by decide)
    have nb : ∀ m : Nm, OkN m → plain (eN m) = true := fun m h => plain_of _ (nobl_eN h)
    have ok0 : OkN [] := fun x hx => (by cases hx)
    have dp : ∀ m : Nm, dep (eN m) ≤ 64 := fun m => by rw [dep_eN]; decide
    refine .asg (i := 2) (.call DK hr (.one (.var (i := 1) rfl)) ⟨rs, rfl, ok, rfl⟩) ?_ sc_found_faults.nd
    generalize hT : kbn (srt rs) = t at okt ⊢
    have hzt := okt.lz
    obtain ⟨ks0, t0, e0⟩ := okt.hd
    have hroot : (([] : Nm), ks0) ∈ t := by rw [e0]; exact .head _
    have hlk : ∀ p ∈ t, lk (eKk t) (nk p.1) = some (.lst (p.2.map .str)) := fun p hp => lk_KT okt.nd hp
    have hsv : ∀ p ∈ t, (!decide (p.1 = []) && p.2.contains ("server" : Str)) = false := fun p hp => by
      by_cases z : p.1 = []
      · simp [z]
      · rcases okt.rest p hp z with h | h <;> rw [h] <;> simp [z] <;> decide +kernel
    have htr : ∀ p ∈ t, p.2.contains ("tree" : Str) = false := fun p hp => by
      by_cases z : p.1 = []
      · rw [(okt.root p hp z).contains_eq]; decide +kernel
      · rcases okt.rest p hp z with h | h <;> rw [h] <;> decide +kernel
    have hzk : ((eKk t).map fun q => nkD q.1).length < sizeLine := by unfold eKk; rw [List.length_map, List.length_map, sizeLine_eq]; omega
    have hit : ∀ d ∈ (eKk t).map (fun q => nkD q.1), ∃ p ∈ t, d = eN p.1 := fun d hd => by
      obtain ⟨q, hq, rfl⟩ := List.mem_map.mp hd
      unfold eKk at hq
      obtain ⟨p, hp, rfl⟩ := List.mem_map.mp hq
      exact ⟨p, hp, nkD_nk p.1⟩
    refine .skip (.cmp (.ninK (kvs := eKk t) hr (EV.key (n := []) (.var (i := 0) rfl)) (.var (i := 2) rfl) (depth_nk _))) (by rw [show (NestedKey.tup (([] : Nm).map .text)) = nk [] from rfl, hlk _ hroot]; rfl) ?_
    refine .lcF (i := 3) [("name", 6)] [6] (fun _ => none) rfl sc_found_faults.nd (.keys (kvs := eKk t) (.var (i := 2) rfl)) hzk (fun d hd => ?_) ?_
    · obtain ⟨p, hp, rfl⟩ := hit d hd
      have okp := (okt.nm p hp).1
      exact .if (b := false) (fun _ _ _ _ _ => .name sc_found_faults.nd) (Agree.wiped.set (by decide)) (fun _ _ _ _ _ => .is (.w (.and (k := !decide (p.1 = [])) (.is (.cmp (.neD hr (.var (i := 6) rfl) (.var (i := 0) rfl) (nb _ okp) (nb [] ok0) (dp _) (dp _))) (by rw [eqd_eN okp ok0])) fun _ => .and1 (.cmp (.inL (ss := p.2) .str (.ixK (kvs := eKk t) hr (.var (i := 2) rfl) (EV.key (.var (i := 6) rfl)) (depth_nk p.1) (hlk p hp)))))) (hsv p hp)) (fun _ => rfl) fun h => (by cases h)
    rw [filterMap_nil]
    refine .lcF (i := 4) [("name", 6)] [6] (fun _ => none) rfl sc_found_faults.nd (.keys (kvs := eKk t) (.var (i := 2) rfl)) hzk (fun d hd => ?_) ?_
    · obtain ⟨p, hp, rfl⟩ := hit d hd
      exact .if (b := false) (fun _ _ _ _ _ => .name sc_found_faults.nd) (Agree.wiped.set (by decide)) (fun _ _ _ _ _ => .is (.cmp (.inL (ss := p.2) .str (.ixK (kvs := eKk t) hr (.var (i := 2) rfl) (EV.key (.var (i := 6) rfl)) (depth_nk p.1) (hlk p hp)))) (htr p hp)) (fun _ => rfl) fun h => (by cases h)
    rw [filterMap_nil]
    refine .newL (i := 5) ?_ sc_found_faults.nd
    have hds : (eKk t).map (fun q => nkD q.1) = t.map fun p => eN p.1 := by
      unfold eKk
      rw [List.map_map]
      exact List.map_congr_left fun p _ => nkD_nk p.1
    refine .for rfl (.list (.sortKD rfl DN (hr.mono (by decide)) B.sorted (.var (i := 2) rfl) hds revD (fun d hd => ?_) (fun d => py (revD d)) (sak_names okt))) (fun i ρ => ∃ e6 e7, ρ = [.dat (eN []), .dat (eRs rs), .dat (eKT t), .dat (.lst []), .dat (.lst []), .ol [], e6, e7, .un, .un] ∧ isOwn e6 = false ∧ isOwn e7 = false) ⟨.un, .un, rfl, rfl, rfl⟩ (fun i d ρ hi' hI => ?_) (fun ρ hI => ?_)
    · obtain ⟨p, _, rfl⟩ := List.mem_map.mp hd
      exact ⟨p.1, rfl, revD_eN p.1⟩
    · obtain ⟨e6, e7, rfl, _⟩ := hI
      have hm := (List.mergeSort_perm _ _).mem_iff.mp (List.mem_of_getElem? hi')
      obtain ⟨p, hp, rfl⟩ := List.mem_map.mp hm
      have okp := (okt.nm p hp).1
      refine ⟨_, _, .name (i := 6) sc_found_faults.nd, ?_⟩
      refine .asg (i := 7) (.call DF hr1 (.cons (.var (i := 0) rfl) (.cons (.var (i := 6) rfl) (.one (.ixK (kvs := eKk t) hr (.var (i := 2) rfl) (EV.key (.var (i := 6) rfl)) (depth_nk p.1) (hlk p hp))))) ⟨p.1, p.2, rfl, okp, ?_, rfl⟩) ?_ sc_found_faults.nd
      · by_cases z : p.1 = []
        · exact .inl ⟨z, okt.root p hp z⟩
        · exact .inr ⟨z, okt.rest p hp z⟩
      refine .skip (k := false) (ρ1 := [.dat (eN []), .dat (eRs rs), .dat (eKT t), .dat (.lst []), .dat (.lst []), .ol [], .dat (eN p.1), .dat (.lst []), .un, .un]) (.is (.w (.and (k' := false) (.val (.call DO hr1 (.cons (.var (i := 6) rfl) (.one (.var (i := 3) rfl))) ⟨p.1, _, rfl, .inl rfl, rfl⟩)) fun h => (by cases h))) rfl) rfl ?_
      refine .skip (.val (.call DO hr1 (.cons (.var (i := 6) rfl) (.one (.var (i := 4) rfl))) ⟨p.1, _, rfl, .inl rfl, rfl⟩)) rfl ?_
      refine .ext (i := 5) (xs := []) rfl (.is (.lcF [("word", 9)] [9] (fun _ => none) rfl sc_found_faults.nd (.list (.sortedS (ss := []) (d := .lst []) B.sorted (.var (i := 7) rfl) (by decide) (fun ns hp' _ => by rw [List.perm_nil.mp hp']; rfl))) (by decide) fun d hd => (by cases hd)) rfl) rfl (by decide) (.nil ⟨.dat (eN p.1), .dat (.lst []), rfl, rfl, rfl⟩)
    · obtain ⟨e6, e7, rfl, _⟩ := hI
      exact .ret (.own (i := 5) rfl) rfl)
end Rw
namespace Rw
open PySem PySem.Spec PyProof.Rows L2
variable {P : Program} {w : World} {K : PySem.W.Frag} {mg : Str → Option Value} {base : Heap}
theorem ER.putUn0 {P : Program} {w : World} {K : PySem.W.Frag} {F G Hd H : Hp} {σ : L2.St} {ρ : List En} {i : Nat} {x : Option V} (er : ER P w K none F G Hd H σ ρ) : ER P w K none F G Hd H (σ.set i x) (ρ.set i .un) where
  pt := fun a h => by cases h
  fr := er.fr
  gd := er.gd
  sb := er.sb
  sep := er.sep
  len := by rw [List.length_set, List.length_set]; exact er.len
  sl := fun j e h => by
    by_cases hj : i = j
    · subst hj
      have hl : i < (ρ.set i .un).length := (List.getElem?_eq_some_iff.mp h).1
      rw [List.length_set] at hl
      rw [List.getElem?_set_self hl] at h
      cases h
      exact ⟨x, by rw [List.getElem?_set_self (by rw [er.len]; exact hl)], trivial⟩
    · rw [List.getElem?_set_ne hj] at h ⊢
      exact er.sl j e h
  ow := fun a b e e' y h1 h2 o1 o2 s1 s2 => by
    by_cases ha : i = a
    · subst ha
      have hl : i < (ρ.set i .un).length := (List.getElem?_eq_some_iff.mp h1).1
      rw [List.length_set] at hl
      rw [List.getElem?_set_self hl] at h1
      cases h1; cases o1
    · by_cases hb : i = b
      · subst hb
        have hl : i < (ρ.set i .un).length := (List.getElem?_eq_some_iff.mp h2).1
        rw [List.length_set] at hl
        rw [List.getElem?_set_self hl] at h2
        cases h2; cases o2
      · rw [List.getElem?_set_ne ha] at h1 s1
        rw [List.getElem?_set_ne hb] at h2 s2
        exact er.ow a b e e' y h1 h2 o1 o2 s1 s2
/-- the names of ns are put there -/
def kst (kvs : List (NestedKey × Dt)) (ns : List Nm) : List (NestedKey × Dt) := ns.foldl (fun acc n => dput acc (nk n) (.bl true)) kvs
theorem kst_len (ns : List Nm) : ∀ kvs, (kst kvs ns).length ≤ kvs.length + ns.length := by
  induction ns with
  | nil => intro kvs; exact Nat.le_refl _
  | cons n ns ih =>
    intro kvs
    have h1 := ih (dput kvs (nk n) (.bl true))
    have h2 := dput_length kvs (nk n) (.bl true)
    show (kst (dput kvs (nk n) (.bl true)) ns).length ≤ _
    rw [List.length_cons]
    omega
theorem kst_snoc (kvs : List (NestedKey × Dt)) (ns : List Nm) (n : Nm) : kst kvs (ns ++ [n]) = dput (kst kvs ns) (nk n) (.bl true) := by unfold kst; rw [List.foldl_append]; rfl
/-- what _keep_name does -/
def spK (P : Program) (w : World) (K : PySem.W.Frag) : Sp := fun vs H Q _ => ∃ Hd x nv n dx fs va b xs kvs, vs = [.ref x, nv] ∧ Sub Hd H ∧ Rep P w K Hd nv (eN n) ∧ n.length ≤ 1000 ∧ H x = some (.ins (He.ga K "Zone") dx fs) ∧ fs.lookup ("_apex" : Str) = some va ∧ Rep P w K Hd va (eN []) ∧ fs.lookup ("_there" : Str) = some (V.ref b) ∧
  H b = some (.ext (DObj P w b xs)) ∧ Hd b = none ∧ RepD P w K Hd xs.1 kvs ∧ kvs.length ≤ 1000 ∧
  ∀ H' Hd' xs', (∀ a o, a ≠ b → H a = some o → H' a = some o) → Ex Hd Hd' → Sub Hd' H' → (∀ a, H a ≠ none → Hd a = none → Hd' a = none) → H' b = some (.ext (DObj P w b xs')) → RepD P w K Hd' xs'.1 (kst kvs (suff n)) → Q .non H'
structure KeepOk (P : Program) (w : World) (K : PySem.W.Frag) (mg : Str → Option Value) (base : Heap) : Prop where
  ex : ∃ fa fd ps, ps.length = 2 ∧ Meth K (He.ga K "Zone") "_keep_name" fa ∧ Binds K fd ps [] ∧ FnOk P w K mg base CX0 2 fa fd ps (spK P w K)
theorem sc_keep_name : FnScope ["self", "name", "at"] ["self", "name"] (defScope (s_Zone 1)) := ⟨rfl, rfl, rfl, by decide, rfl, by decide, by decide⟩
theorem keep_name_ok (B : Bs mg) (C : ZC K) (F : Mn K "_keep_name" (s_Zone 1)) : KeepOk P w K mg base := by
  obtain ⟨fa, fd, q, hm, F⟩ := F.ex
  refine ⟨fa, fd, ["self", "name"], rfl, hm, F.binds (fun kV doc pm an cdv ct us h => by
    match us, h with
    | [_, _], _ => rfl), F.ok sc_keep_name (fun vs H Q E sp => ?_) fun cdv A outer s H vs Q E hr sp => ?_⟩
  · obtain ⟨Hd, x, nv, n, dx, fs, va, b, xs, kvs, rfl, _⟩ := sp
    rfl
  · obtain ⟨Hd, x, nv, n, dx, fs, va, b, xs, kvs, rfl, sb, rn, hn, hx, la, ra, lb, hb, hHd, rd, hz, k⟩ := sp
    refine ⟨_, pss_cons (ps_for PassesOwn.never rfl (pi_range1 rfl B.range (pa_cons (pe_op op_add (pe_op op_sub pe_c (pe_callB call_len_seq rfl B.len (by decide +kernel) (pa_cons (pe_fld (pe_var (i := 0) rfl (.inl rfl)) rfl) pa_nil (by rfl)) (by decide) (by decide) (by rfl) (by rfl))) pe_int) pa_nil (by rfl)) (by rfl)) pg_c (pss_cons (ps_asg pe_bl (pg_sub (pe_fld (pe_var (i := 0) rfl (.inl rfl)) rfl) pe_c (set_X hr)) (by rfl) (by rfl) (by rfl)) pss_nil)) pss_nil, ?_⟩
    have er0 : ER P w K none H Hd Hd H (L2.start ["self", "name", "at"] [.ref x, nv]) [.un, .dat (eN n), .un] :=
      (ER.begin (N := ["self", "name", "at"]) (vs := [V.non, nv]) (ds := [.non, eN n]) sb (.cons .non (.cons rn .nil))).putUn0 (i := 0) (x := some (.ref x))
    generalize hσ : L2.start ["self", "name", "at"] [.ref x, nv] = σ0 at er0 ⊢
    have hs0 : σ0[0]? = some (some (V.ref x)) := by rw [← hσ]; rfl
    show cE _ _ _ _ _
    refine (EV.lenT B.len (.var (i := 1) rfl)) none H Hd Hd H σ0 _ er0 fun v1 Hd1 H1 e1 er1 r1 => ?_
    cases r1
    have hx1 := er1.fr x _ hx
    have hr1 := ra.mono e1
    cases hr1 with
    | @tup ca ys _ hca lca =>
    cases lca
    refine ⟨.ref x, hs0, x, _, dx, fs, .ref ca, rfl, hx1, C.cls, C.apex, la, ?_⟩
    refine ⟨ca, [], rfl, .inr (er1.sb.sqt hca), ?_⟩
    refine ⟨_, _, rfl, rfl, _, _, rfl, rfl, _, rfl, ?_, ?_, ?_⟩
    · rw [List.length_map]; show -(2 ^ 62) ≤ ((n.length : Int) - 0) + 1; omega
    · rw [List.length_map]; show ((n.length : Int) - 0) + 1 < 2 ^ 62; omega
    have en : ((((n.map Dt.str).length : Nat) : Int) - ((([] : List V).length : Nat) : Int) + 1).toNat = n.length + 1 := by rw [List.length_map]; show (((n.length : Int) - 0) + 1).toNat = _; omega
    rw [en]
    refine ⟨fun i m σ H' => m = n.length + 1 - i ∧ i ≤ n.length + 1 ∧ ∃ Hd' F' xs' e2, isOwn e2 = false ∧ Ex Hd1 Hd' ∧ ER P w K none F' Hd Hd' H' σ [.un, .dat (eN n), e2] ∧ (∀ a o, a ≠ b → H a = some o → F' a = some o) ∧ σ[0]? = some (some (V.ref x)) ∧ F' b = some (.ext (DObj P w b xs')) ∧ RepD P w K Hd' xs'.1 (kst kvs ((suff n).take i)),
      ⟨n.length + 1, by simp, Nat.zero_le _, Hd1, H, xs, .un, rfl, Ex.refl _, er1, fun a o _ h => h, hs0, hb, rd.mono e1⟩, ?_⟩
    rintro i m σ2 H2 ⟨rfl, hle, Hd2, F2, xs2, e2, ho, ed, er2, hF, hsl, hFb, rd2⟩
    have hsz : (suff n).length = n.length + 1 := by unfold suff; rw [List.length_map, List.length_range]
    by_cases hlt : i < n.length + 1
    · have q : (suff n)[i]? = some (n.drop i) := by unfold suff; rw [List.getElem?_map, List.getElem?_range hlt]; rfl
      refine .inr ⟨hlt, fun σ' H' => ∃ Hd' F' xs' e2, isOwn e2 = false ∧ Ex Hd1 Hd' ∧ ER P w K none F' Hd Hd' H' σ' [.un, .dat (eN n), e2] ∧ (∀ a o, a ≠ b → H a = some o → F' a = some o) ∧ σ'[0]? = some (some (V.ref x)) ∧ F' b = some (.ext (DObj P w b xs')) ∧ RepD P w K Hd' xs'.1 (kst kvs ((suff n).take (i + 1))),
        fun σ' H' q => ⟨n.length + 1 - (i + 1), by omega, rfl, hlt, q⟩, fun y H' hy => ?_⟩
      obtain ⟨eH, ex⟩ := hy
      subst eH
      subst ex
      refine (BT.name (d := .int (i : Nat)) (i := 2) sc_keep_name.nd rfl (by decide) (.inl rfl) (.inl rfl)) none F2 Hd Hd2 _ σ2 _ _ er2 (by rw [show ((0 : Int) + (i : Int)) = (i : Int) from Int.zero_add _]; exact .int _) fun σ3 Hd3 H3 e3 er3 kp => ?_
      have hs3 : σ3[0]? = some (some (V.ref x)) := by rw [kp.2 0 (by decide)]; exact hsl
      have hxb : x ≠ b := fun z => by rw [z, hb] at hx; cases hx
      have hx3 := er3.fr x _ (hF x _ hxb hx)
      refine ⟨.ref x, hs3, x, _, dx, fs, .ref b, rfl, hx3, C.cls, C.there, lb, ?_⟩
      refine (EV.is (EV.tFrom (n := i) (.var (i := 1) rfl) (.var (i := 2) rfl)) (show Dt.tup _ = eN (n.drop i) by show Dt.tup _ = Dt.tup _; rw [← List.map_drop])) none F2 Hd Hd3 H3 σ3 _ er3 fun v Hd4 H4 e4 er4 r4 => ?_
      obtain ⟨c, rfl⟩ : ∃ c, v = V.ref c := by cases r4; exact ⟨_, rfl⟩
      have hHb4 : H4 b = some (.ext (DObj P w b xs2)) := er4.fr b _ hFb
      have hHd4 : Hd4 b = none := er4.sep b (by rw [hFb]; exact Option.some_ne_none _) hHd
      have rd4 := (rd2.mono e3).mono e4
      have hk : nkD (.tup ((n.drop i).map .text)) = eN (n.drop i) := nkD_nk _
      have hlen := kst_len ((suff n).take i) kvs
      rw [List.length_take] at hlen
      refine ⟨Hd4, b, c, xs2, _, (n.drop i).map .text, rfl, rfl, hHb4, er4.sb, rd4, by rw [sizeLine_eq]; omega, by rw [hk]; exact r4, depth_nk _, fun ep => ?_⟩
      refine ⟨Hd4, upd F2 b (.ext (DObj P w b (xput xs2.1 (nk (n.drop i)) c (.bl true), ep))), (xput xs2.1 (nk (n.drop i)) c (.bl true), ep), .dat (.int (i : Nat)), rfl, (ed.trans e3).trans e4, er4.reholdG hFb hHd4, fun a o ne h => by rw [upd_ne ne]; exact hF a o ne h, hs3, upd_same, ?_⟩
      rw [List.take_add_one, q]
      show RepD P w K Hd4 _ (kst kvs ((suff n).take i ++ [n.drop i]))
      rw [kst_snoc]
      exact xput_rep rd4 (by rw [show nkD (nk (n.drop i)) = eN (n.drop i) from nkD_nk _]; exact r4) (depth_nk _) (.bl true)
    · have e : i = n.length + 1 := by omega
      subst e
      refine .inl ⟨Nat.le_refl _, ?_⟩
      rw [List.take_of_length_le (by rw [hsz]; exact Nat.le_refl _)] at rd2
      refine k H2 Hd2 xs2 (fun a o ne h => er2.fr a o (hF a o ne h)) (e1.trans ed) er2.sb (fun a h1 h2 => ?_) (er2.fr b _ hFb) rd2
      refine er2.sep a (fun z => ?_) h2
      by_cases hab : a = b
      · rw [hab, hFb] at z; cases z
      · obtain ⟨o, ho⟩ := Option.ne_none_iff_exists'.mp h1
        rw [hF a o hab ho] at z; cases z
end Rw
namespace Rw
open PySem PySem.Spec PyProof.Rows L2
section
variable {X : Cx}
theorem room7 {r : Nat} (hr : Room r X.A) : (nestedKind X.prog X.w).room X.A := by
  have := hr.un
  show X.A.units + 8 < cLine
  omega
/-- what a dict comprehension puts into its dict -/
theorem ev_dset {pins : List (Addr × Obj)} {σ : L2.St} {H : Hp} {s : Shared} {E : Value → Shared → Prop} {D : Addr} {y z : V} {ky vz : Value} {Nx : Hp → Prop} {r : Nat} (hr : Room r X.A) (I : Inv X pins σ H s) (ry : RelV y ky) (rz : RelV z vz) (h : rSetX X (.ref D) y z H Nx) :
    wpAny (model X.prog X.w) X.A (dictSet D ky vz) (fun _ s' => ∃ H', Inv X pins σ H' s' ∧ Nx H') E s := by
  obtain ⟨Hd, a, b, xs, kvs, ks, e1, rfl, hH, sb, rd, hz, rk, hd, q⟩ := h
  cases e1
  cases ry
  obtain ⟨us, q1, q2, q3, q4⟩ := dict_at I sb (.inl hH) rd
  have hki := key_is I sb _ _ _ rk (show RelV (V.ref b) (Value.ref b) from rfl)
  refine wpAny_dictSet_heap (hsz := q2) (knd := nestedKind X.prog X.w) (k := .tup ks) (room7 hr) ⟨hki, hd⟩ q4 fun h' dd sb' => ?_
  have hl : (xput xs.1 (.tup ks) b z).length ≤ xs.1.length + 1 := by
    unfold xput
    split
    · rw [List.length_map]; omega
    · rw [List.length_append]; exact Nat.le_refl _
  have hl2 := rd.length
  obtain ⟨ep, dd'⟩ := dobj_of (l := xput xs.1 (.tup ks) b z) (xput_rel q3 rz) (by omega) q1 dd
  obtain ⟨o, es, ep', ho, _⟩ := dd
  exact ⟨_, d_write I (by rw [hH]; exact True.intro) sb' ⟨o, ho⟩ (dobj_ok dd'), q ep⟩
/-- {k: v for .. in ..}, the keys tuples -/
def tDX (X : Cx) (wi : TI) (g : TG) (tk tv : TE) (vs : List Nat) : TE := fun σ H Q => wi σ H fun J H1 => ∀ D ep, H1 D = none → ∃ W : Nat → Nat → Hp → Prop, (∃ m, W 0 m (upd H1 D (.ext (DObj X.prog X.w D ([], ep))))) ∧ ∀ i m H, W i m H →
  (J.stop i H ∧ Q (.ref D) H) ∨ (J.go i H ∧ ∃ Nx : Hp → Prop, (∀ H', Nx H' → ∃ m', m' < m ∧ W (i + 1) m' H') ∧ ∀ x H', J.yld i H x H' → g x (wipe σ vs) H' fun σ2 H2 => wipe σ2 vs = wipe σ vs ∧ tk σ2 H2 fun y H4 => tv σ2 H4 fun z H5 => rSetX X (.ref D) y z H5 Nx)
theorem pe_dx {kx vx tg iter : Expr} {scope : Scope} {own : List (Str × Nat)} {pos : Pos} {wi : TI} {r : Nat} (hr : Room r X.A) (hc : X.calm = true) (hN : X.N.Nodup) (hi : PI X tg iter wi) (ok : BlkOk X.N X.env.scope scope own) (hs : ∀ x, foldedSetIterable iter X.env x = pure x) :
    PE X (.DictComp kx vx [⟨tg, iter, [], 0⟩] scope pos) (tDX X wi (bG X scope tg) (bE X scope kx) (bE X scope vx) (own.map (·.2))) := by
  constructor
  intro pins s σ H Q I h
  have hcl : ∀ y ∈ scope.names, y.2 = .free → ∃ c, X.env.cells.lookup y.1 = some c := by
    intro y hy e
    exact (ok.free y hy e).elim (fun k => I.ok.has _ (.inl k)) fun k => I.ok.has _ (.inr k)
  rw [arm_eval_DictComp]
  refine wpAny_comprehension_free (use := none) rfl hs (closure_ok hcl) ok.kind (fun y hy e => by rw [ok.uniq y hy, e]) (thn (hi.run pins s σ H _ I h) fun xv s1 hx => thn hx fun itv s2 h2 => ?_)
  obtain ⟨it, fp, tn, J, H2, rfl, I2, T, st2, f2, q⟩ := h2
  refine wpAny_newObj_type (newEnv_comp ?_)
  -- the dict's place
  obtain ⟨D, hD⟩ : ∃ D, D = s2.heap.objs.size := ⟨_, rfl⟩
  rw [← hD]
  have hDn : H2 D = none := I2.hok.fresh (by rw [hD]; exact Nat.le_refl _)
  obtain ⟨W, ⟨m0, w0⟩, turn⟩ := q D 0 hDn
  obtain ⟨s3, hs3⟩ : ∃ s3 : Shared, s3 = { s2 with heap := s2.heap.push { cls := .type "dict", data := .dict #[] } } := ⟨_, rfl⟩
  rw [← hs3]
  have hh3 : s3.heap = s2.heap.push { cls := .type "dict", data := .dict #[] } := by rw [hs3]
  have dnew : DObj X.prog X.w D ([], 0) s3.heap := by
    rw [hh3, hD]
    exact ⟨beq_eq_false_iff_ne.mpr (Ne.symm (Nat.ne_of_lt I2.big)), Nat.zero_le _, List.nodup_nil, [], .nil, _, #[], Heap.get?_push_size _ rfl, ⟨rfl, rfl, rfl⟩, rfl, rfl⟩
  obtain ⟨H3, hH3⟩ : ∃ H3, H3 = upd H2 D (.ext (DObj X.prog X.w D ([], 0))) := ⟨_, rfl⟩
  rw [← hH3] at w0
  have I3 : Inv X pins σ H3 s3 := by
    have z := I2.laid (a := D) (o := .ext (DObj X.prog X.w D ([], 0))) (t' := s2.toks) (fun b o e => Heap.get?_push_of_some { cls := .type "dict", data := .dict #[] } e) (by rw [hD]; exact Nat.le_refl _) (dobj_ok (hh3 ▸ dnew))
    rw [hH3, hs3]
    exact z
  have old : ∀ b ∈ fp, b < s2.heap.objs.size := fun b hb => Heap.lt_size (T.obj _ _ st2 b hb).choose_spec.1
  have fp3 : ∀ b ∈ fp, FpOk X pins H3 b ∧ b < s3.heap.objs.size := fun b hb => by
    have l := old b hb
    have nb : H3 b = none := by rw [hH3, upd_ne (by rw [hD]; exact Nat.ne_of_lt l)]; exact (f2 b hb).1
    refine ⟨⟨nb, (f2 b hb).2⟩, ?_⟩
    rw [hh3, Heap.size_push]
    exact Nat.lt_succ_of_lt l
  have st3 : tn 0 s3.heap := T.keep _ _ _ st2 fun b _ o e => by rw [hh3]; exact Heap.get?_push_of_some _ e
  have I4 := block_start I3 ok hN fp3
  show codeAny _ _ (.compStart (.DictComp kx vx [⟨tg, iter, [], 0⟩] scope pos) 0 (.ref it) (.ref D) (compEnvC scope (cellsFrom (s3.heap.objs.size + 1) scope.names (cloFrom X.env.cells scope.names [])) s3.heap.objs.size X.env)) (compPost (model X.prog X.w) X.A X.xe none (EP X pins σ Q) (.ref D) s3.heap.objs.size) { s3 with heap := pushCells (s3.heap.push { cls := .type "dict", data := .dict #[] }) scope.names }
  obtain ⟨ce, hce⟩ : ∃ ce, ce = compEnvC scope (cellsFrom (s3.heap.objs.size + 1) scope.names (cloFrom X.env.cells scope.names [])) s3.heap.objs.size X.env := ⟨_, rfl⟩
  have onG : ∀ v (σ' : L2.St) (H' : Hp) (Q' : L2.St → Hp → Prop), bG X scope tg v σ' H' Q' → cG (X.blk s3 H3 scope ce fp) tg v σ' H' Q' := by subst hce; exact fun v σ' H' Q' h => h s3 H3 _ _ fp
  have onK : ∀ (σ' : L2.St) (H' : Hp) (Q' : VK), bE X scope kx σ' H' Q' → cE (X.blk s3 H3 scope ce fp) kx σ' H' Q' := by subst hce; exact fun σ' H' Q' h => h s3 H3 _ _ fp
  have onV : ∀ (σ' : L2.St) (H' : Hp) (Q' : VK), bE X scope vx σ' H' Q' → cE (X.blk s3 H3 scope ce fp) vx σ' H' Q' := by subst hce; exact fun σ' H' Q' h => h s3 H3 _ _ fp
  have lc : ce.locals = s3.heap.objs.size := by rw [hce]; rfl
  obtain ⟨s4, hs4⟩ : ∃ s4 : Shared, s4 = { s3 with heap := pushCells (s3.heap.push { cls := .type "dict", data := .dict #[] }) scope.names } := ⟨_, rfl⟩
  rw [← hce, ← hs4] at I4 ⊢
  have st4 : tn 0 s4.heap := T.keep _ _ _ st3 fun b _ o e => by rw [hs4]; exact pushCells_keeps _ _ _ _ (Heap.get?_push_of_some _ e)
  have free3 : ∀ b ∈ fp, H3 b = none := fun b hb => (fp3 b hb).1.1
  have foot : ∀ (σ' : L2.St) (H' : Hp) (s' : Shared), Inv (X.blk s3 H3 scope ce fp) [] σ' H' s' → (∀ b ∈ fp, H' b = none) → ∀ b ∈ fp, FpOk (X.blk s3 H3 scope ce fp) [] H' b := by
    intro σ' H' s' I' hn b hb
    have ex := I'.ok.exf b hb
    exact ⟨hn b hb, ex.1, I'.ok.exfs b hb, .inl hb, fun x c e => ex.2 x c e, fun p hp => absurd (show p ∈ ([] : List (Addr × Obj)) ++ [] from hp) (by simp)⟩
  have go : codeAny (model X.prog X.w) X.A (.compLoop (.DictComp kx vx [⟨tg, iter, [], 0⟩] scope pos) 0 (.ref it) (.ref D) ce) (compPost (model X.prog X.w) X.A X.xe none (EP X pins σ Q) (.ref D) s3.heap.objs.size) s4 := by
    refine compLoop_anyD (fun n s' => ∃ i H', Inv (X.blk s3 H3 scope ce fp) [] (wipe σ (own.map (·.2))) H' s' ∧ tn i s'.heap ∧ (∀ b ∈ fp, H' b = none) ∧ W i n H') ?_ m0 ⟨0, H3, I4, st4, free3, w0⟩
    rintro n s5 ⟨i, H5, I5, st5, n5, w5⟩
    rcases turn i n H5 w5 with ⟨hstop, hq⟩ | ⟨hgo, Nx, hNx, step⟩
    · refine thnF (T.done (X.blk s3 H3 scope ce fp) rfl rfl rfl hc i [] s5 _ H5 (fun _ _ => False) I5 (foot _ _ _ I5 n5) st5 hstop) fun r6 s6 ⟨e6, I6⟩ => ?_
      subst e6
      have I7 : Inv X pins σ H5 s6 := I3.call' (ch := fp) I6.os I6.base I6.hok I6.bare fun b hb => by
        have z := (fp3 b hb).1.2
        exact ⟨z.2.2.1, z.1, z.2.2.2.1, z.2.2.2.2⟩
      have nC : H5 s3.heap.objs.size = none := by rw [← lc]; exact I6.free
      obtain ⟨m, hm, _⟩ := I6.loc
      have hm' : s6.heap.Ns s3.heap.objs.size m := by rw [← lc]; exact hm
      refine ⟨m, hm', fun h'' sb => ?_⟩
      obtain ⟨f0, f1, f2, f3, f4, f5⟩ := I3.fpOk (Nat.le_refl _) nC
      exact ⟨.ref D, H5, I7.turned (t' := s6.toks) (fun b o hb e => (sb.2 b hb).trans e) f0 f1 f3 f4 f5, rfl, hq⟩
    · refine thnF (T.item (X.blk s3 H3 scope ce fp) rfl rfl rfl hc i [] s5 _ H5 (fun _ _ => False) I5 (foot _ _ _ I5 n5) st5 hgo) fun r6 s6 ⟨u, e6, h6⟩ => ?_
      subst e6
      refine thnF h6 fun _ s7 ⟨x, H7, I7, r7, y7, st7, n7⟩ => ?_
      have I8 := I7.pinned (foot _ _ _ I7 n7) (T.obj _ _ st7)
      refine thnF (onG _ _ _ _ (step x H7 y7) _ s7 u I8 r7) fun _ s8 ⟨σ8, H8, I9, hw8, q8⟩ => ?_
      refine wpAny_pure ?_
      show wpAny _ _ _ _ _ _
      refine thnF (onK _ _ _ q8 _ s8 I9) fun ky s9 ⟨y, H9, I10, r10, q10⟩ => ?_
      refine thnF (onV _ _ _ q10 _ s9 I10) fun vz s10 ⟨z, H10, I11, r11, q11⟩ => ?_
      refine thnF (ev_dset (X := X.blk s3 H3 scope ce fp) hr I11 r10 r11 q11) fun _ s11 ⟨H11, I12, nx⟩ => ?_
      obtain ⟨m', hm, w'⟩ := hNx H11 nx
      have stay : ∀ b ∈ fp, ∀ o, s7.heap.get? b = some o → s11.heap.get? b = some o ∧ H11 b = none := by
        intro b hb o e
        have z := I12.pin (b, o) (List.mem_append_right _ (List.mem_append_right _ (mem_pinsAt hb e)))
        exact ⟨z.1, z.2.1⟩
      have hl : (wipe σ (own.map (·.2))).length = σ8.length := by rw [← hw8, wipe_length]
      refine ⟨m', hm, i + 1, H11, (I12.unpinned (pins := [])).weak hl (fun j v e => ?_), T.keep _ _ _ st7 fun b hb o e => (stay b hb o e).1, fun b hb => ?_, w'⟩
      · rw [← hw8] at e
        exact (wipe_some e).1
      · obtain ⟨o, e, _⟩ := T.obj _ _ st7 b hb
        exact (stay b hb o e).2
  exact codeAny_compStart_dict go (T.self X.A 0 _ _ _ st4 go)
end
end Rw
namespace Rw
open PySem PySem.Spec PyProof.Rows L2
section
variable {P : Program} {w : World} {K : PySem.W.Frag} {pp : Option Addr} {F F' G Hd H : Hp} {σ : L2.St} {ρ : List En} {D : Addr} {o o' : HO}
/-- the first slot is the frame's own place -/
theorem ER.pin0 {x : Addr} (er : ER P w K none F G Hd H σ ρ) (h0 : 0 < ρ.length) (hF : F x = none) (hHd : Hd x = none) (hH : H x = some o) (hO : ∀ (j : Nat) (e : En), ρ[j]? = some e → isOwn e = false) : ER P w K (some x) F G Hd H (σ.set 0 (some (.ref x))) (ρ.set 0 (.ob o)) where
  pt := fun a h => by cases h; exact List.getElem?_set_self (by rw [er.len]; exact h0)
  fr := er.fr
  gd := er.gd
  sb := er.sb
  sep := er.sep
  len := by rw [List.length_set, List.length_set]; exact er.len
  sl := fun j e h => by
    by_cases hj : 0 = j
    · subst hj
      rw [List.getElem?_set_self h0] at h
      cases h
      exact ⟨_, List.getElem?_set_self (by rw [er.len]; exact h0), x, rfl, hF, hHd, hH⟩
    · rw [List.getElem?_set_ne hj] at h ⊢
      exact er.sl j e h
  ow := fun a b e e' y h1 h2 o1 o2 s1 s2 => by
    by_cases ha : 0 = a
    · by_cases hb : 0 = b
      · rw [← ha, ← hb]
      · rw [List.getElem?_set_ne hb] at h2
        rw [hO b e' h2] at o2; cases o2
    · rw [List.getElem?_set_ne ha] at h1
      rw [hO a e h1] at o1; cases o1
/-- the own place goes under the frame's keeping, and slot 0 is pinned -/
theorem ER.take0 {r : List En} (er : ER P w K pp F G Hd H σ (.ob o :: r)) (hO : ∀ (j : Nat) (e : En), r[j]? = some e → isOwn e = false) :
    ∃ x, (∀ a, pp = some a → a = x) ∧ F x = none ∧ Hd x = none ∧ H x = some o ∧ ER P w K (some x) (upd F x o) G Hd H σ (.un :: r) := by
  obtain ⟨y, hp, x, e1, hF, hHd, hH⟩ := er.sl 0 _ rfl
  subst e1
  refine ⟨x, fun a ha => ?_, hF, hHd, hH, fun a ha => by cases ha; exact hp, fun a u z => ?_, er.gd, er.sb, fun a q1 q2 => ?_, er.len, fun j e h => ?_, fun i j e e' y h1 h2 o1 o2 s1 s2 => ?_⟩
  · have z := er.pt a ha
    rw [hp] at z
    cases z
    rfl
  · by_cases ha : a = x
    · subst ha; rw [upd_same] at z; cases z; exact hH
    · rw [upd_ne ha] at z; exact er.fr a u z
  · by_cases ha : a = x
    · rw [ha]; exact hHd
    · rw [upd_ne ha] at q1; exact er.sep a q1 q2
  · cases j with
    | zero => cases h; exact ⟨_, hp, trivial⟩
    | succ j =>
      obtain ⟨y, h1, h2⟩ := er.sl (j + 1) e h
      refine ⟨y, h1, ?_⟩
      have ho := hO j e h
      cases e with
      | un => trivial
      | dat d => exact h2
      | ol ds => cases ho
      | od ds => cases ho
      | ob oo => cases ho
  · cases i with
    | zero => cases h1; cases o1
    | succ i => rw [hO i e h1] at o1; cases o1
theorem ER.unpin {x : Addr} (er : ER P w K (some x) F G Hd H σ ρ) (h : ∀ a, pp = some a → a = x) : ER P w K pp F G Hd H σ ρ :=
  ⟨fun a ha => by rw [h a ha]; exact er.pt x rfl, er.fr, er.gd, er.sb, er.sep, er.len, er.sl, er.ow⟩
end
variable {P : Program} {w : World} {K : PySem.W.Frag} {mg : Str → Option Value} {base : Heap}
abbrev nIN : List Str := ["self", "apex", "records", "kept", "record", "wrong", "name", "kind", "_", "begin", "row"]
theorem sc_init : FnScope nIN ["self", "apex", "records"] (defScope (s_Zone 0)) := ⟨rfl, rfl, rfl, by decide, rfl, by decide, by decide⟩
/-- what __init__ does: the new instance becomes a zone's datum -/
def spI (P : Program) (w : World) (K : PySem.W.Frag) : Sp := fun vs H Q _ => ∃ Hd x v1 v2 dx l, vs = [.ref x, v1, v2] ∧ Sub Hd H ∧ H x = some (.ins (He.ga K "Zone") dx []) ∧ Hd x = none ∧ Rep P w K Hd v1 (eN []) ∧ Rep P w K Hd v2 (eRs (zrows l)) ∧ OkZ l ∧
  ∀ H' Hd', (∀ a o, a ≠ x → H a = some o → H' a = some o) → Ex Hd Hd' → Sub Hd' H' → (∀ a, a ≠ x → H a ≠ none → Hd a = none → Hd' a = none) → Rep P w K Hd' (.ref x) (zonE l) → Q .non H'
structure InitOk (P : Program) (w : World) (K : PySem.W.Frag) (mg : Str → Option Value) (base : Heap) : Prop where
  ex : ∃ fa fd ps, ps.length = 3 ∧ mg "Zone" = some (.ref (He.ga K "Zone")) ∧ Mk K (He.ga K "Zone") fa ∧ Binds K fd ps [] ∧ FnOk P w K mg base CX0 9 fa fd ps (spI P w K)
def FinI (l : ZL) : Ou → Prop
  | .nx ρ => ρ[0]? = some (.dat (zonE l))
  | _ => False
theorem init_ok (hmg : mg "Zone" = some (.ref (He.ga K "Zone"))) (F : ∃ fa fd q, Mk K (He.ga K "Zone") fa ∧ Fun K "__init__" q (s_Zone 0) fa fd)
    (h : ∀ l, OkZ l → ∀ q fa cdv A outer s' H E dx, Room 8 (A.deeper (envOfC q (defScope (s_Zone 0)) s'.heap.objs.size fa cdv)) → SD (cxOf CX0 P w K mg base nIN q (defScope (s_Zone 0)) fa cdv A outer s' H E).nox (defBody (s_Zone 0)) [.ob (.ins (He.ga K "Zone") dx []), .dat (eN []), .dat (eRs (zrows l)), .un, .un, .un, .un, .un, .un, .un, .un] (FinI l)) : InitOk P w K mg base := by
  obtain ⟨fa, fd, q, M, F⟩ := F
  refine ⟨fa, fd, ["self", "apex", "records"], rfl, hmg, M, F.binds (fun kV doc pm an cdv ct us h => by
    match us, h with
    | [_, _, _], _ => rfl), F.ok sc_init (fun vs H Q E sp => ?_) fun cdv A outer s H vs Q E hr sp => ?_⟩
  · obtain ⟨Hd, x, v1, v2, dx, l, rfl, _⟩ := sp
    rfl
  · obtain ⟨Hd, x, v1, v2, dx, l, rfl, sb, hx, hHd, r1, r2, okz, k⟩ := sp
    have erA : ER P w K none H Hd Hd H (L2.start nIN [V.non, v1, v2]) (ρ0 nIN [.non, eN [], eRs (zrows l)]) := ER.begin sb (.cons .non (.cons r1 (.cons r2 .nil)))
    have hnone : ∀ (j : Nat) (e : En), (ρ0 nIN [.non, eN [], eRs (zrows l)])[j]? = some e → isOwn e = false := noOwnL rfl
    have erB : ER P w K none (fun a => if a = x then none else H a) Hd Hd H (L2.start nIN [V.non, v1, v2]) (ρ0 nIN [.non, eN [], eRs (zrows l)]) :=
      { pt := erA.pt
        fr := fun a u z => by
          have z' : (if a = x then none else H a) = some u := z
          by_cases e : a = x
          · rw [if_pos e] at z'; cases z'
          · rw [if_neg e] at z'; exact z'
        gd := erA.gd
        sb := erA.sb
        sep := fun a q1 q2 => q2
        len := erA.len
        sl := fun j e hj => by
          obtain ⟨y, h1, h2⟩ := erA.sl j e hj
          refine ⟨y, h1, ?_⟩
          have ho := hnone j e hj
          cases e with
          | un => trivial
          | dat d => exact h2
          | ol ds => cases ho
          | od ds => cases ho
          | ob oo => cases ho
        ow := fun i j e e' y h1 h2 o1 o2 s1 s2 => by rw [hnone i e h1] at o1; cases o1 }
    have erC := erB.pin0 (x := x) (by show 0 < 11; decide) (if_pos rfl) hHd hx hnone
    refine ⟨_, pss_c, h l okz q fa cdv A outer s H E dx hr (some x) _ Hd Hd H _ _ erC ⟨?_, fun σ' Hd' H' ρ' e er q => False.elim q, fun σ' Hd' H' ρ' e er q => False.elim q, fun v σ' Hd' H' ρ' d' e er rv q => False.elim q⟩⟩
    intro σ' Hd' H' ρ' e er (q : ρ'[0]? = some (.dat (zonE l)))
    obtain ⟨y, h1, v, rfl, rv⟩ := er.sl 0 _ q
    rw [er.pt x rfl] at h1
    cases h1
    exact k H' Hd' (fun a o ne ho => er.fr a o (by show (if a = x then none else H a) = some o; rw [if_neg ne]; exact ho)) er.gd er.sb (fun a ne h1 h2 => er.sep a (by show (if a = x then none else H a) ≠ none; rw [if_neg ne]; exact h1) h2) rv
end Rw
namespace Rw
open PySem PySem.Spec PyProof.Rows L2
section
variable {X : Cx} {ρ ρ' ρ1 ρ2 : List En} {items : List Dt} {kx vx tg iter : Expr} {pos spos : Pos} {js : List Nat} {scope : Scope} {own : List (Str × Nat)} {key : Dt → List NestedKey} {val : Dt → Dt}
def dxs (key : Dt → List NestedKey) (val : Dt → Dt) (items : List Dt) : List (NestedKey × Dt) := items.foldl (fun acc d => dput acc (.tup (key d)) (val d)) []
theorem dxs_snoc (items : List Dt) (d : Dt) : dxs key val (items ++ [d]) = dput (dxs key val items) (.tup (key d)) (val d) := by unfold dxs; rw [List.foldl_append]; rfl
theorem dxs_len (items : List Dt) : (dxs key val items).length ≤ items.length := by
  refine rev_ind (P := fun items => (dxs key val items).length ≤ items.length) (Nat.le_refl _) (fun xs x ih => ?_) items
  rw [dxs_snoc, List.length_append, List.length_singleton]
  have := dput_length (dxs key val xs) (.tup (key x)) (val x)
  omega
def DxTurn (X : Cx) (scope : Scope) (tg kx vx : Expr) (vs js : List Nat) (key : Dt → List NestedKey) (val : Dt → Dt) (ρ : List En) (d : Dt) : Prop :=
  ∃ ρ2, AllB X scope (fun Y => BT Y tg js d (wipeE ρ vs) ρ2) ∧ Agree vs ρ ρ2 ∧ AllB X scope (fun Y => EV Y kx ρ2 (nkD (.tup (key d))) ρ2) ∧ AllB X scope (fun Y => EV Y vx ρ2 (val d) ρ2) ∧ (NestedKey.tup (key d)).depth ≤ 8
theorem dx_read (hi : EI X tg iter ρ items ρ1) (hj : ∀ j ∈ js, j ∈ own.map (·.2)) (hv0 : 0 ∉ own.map (·.2)) (hz : items.length < sizeLine) (ho : NoOwnAt (own.map (·.2)) ρ1) (hs : ∀ d ∈ items, DxTurn X scope tg kx vx (own.map (·.2)) js key val ρ1 d) :
    ∀ pp F G Hd H σ Q, XR X pp F G Hd H σ ρ → KE X pp F G Hd σ (.dic (dxs key val items)) ρ1 Q → tDX X (cI X tg iter) (bG X scope tg) (bE X scope kx) (bE X scope vx) (own.map (·.2)) σ H Q := by
  intro pp F G Hd H σ Q er k
  refine hi pp F G Hd H σ _ er fun J Hd1 H1 e1 er1 W D ep hD => ?_
  have hFD : F D = none := er1.fr.back hD
  have hHdD : Hd1 D = none := er1.fresh hD
  have hGD : G D = none := er1.gd.back hHdD
  have er1' : XR X pp (upd F D (.ext (DObj X.prog X.w D ([], ep)))) G Hd1 (upd H1 D (.ext (DObj X.prog X.w D ([], ep)))) σ ρ1 := by
    refine (er1.grow (Ex.new hD)).hold hHdD upd_same fun j e g o z => ?_
    obtain ⟨x, z1, z2⟩ := er1.sl j e g
    rw [z] at z1
    cases z1
    cases e with
    | un => cases o
    | dat d => cases o
    | ol ds => obtain ⟨b, ys, e1, kF, kHd, kH, q⟩ := z2; cases e1; rw [hD] at kH; cases kH
    | od ds => obtain ⟨b, ys, e1, kF, kHd, kH, q⟩ := z2; cases e1; rw [hD] at kH; cases kH
    | ob oo => obtain ⟨b, e1, kF, kHd, kH⟩ := z2; cases e1; rw [hD] at kH; cases kH
  refine ⟨fun i m H => m = items.length - i ∧ i ≤ items.length ∧ ∃ Hd' xs, Ex Hd1 Hd' ∧ RepD X.prog X.w X.K Hd' xs.1 (dxs key val (items.take i)) ∧ XR X pp (upd F D (.ext (DObj X.prog X.w D xs))) G Hd' H σ ρ1,
    ⟨items.length, by simp, Nat.zero_le _, Hd1, ([], ep), Ex.refl _, .nil, er1'⟩, ?_⟩
  rintro i m H2 ⟨rfl, hle, Hd2, xs, e2, rd, er2⟩
  by_cases hlt : i < items.length
  · have hget : items[i]? = some items[i] := List.getElem?_eq_getElem hlt
    obtain ⟨hgo, hy⟩ := W.1 i _ H2 Hd2 e2 er2.sb hget
    obtain ⟨ρ2, hbt, ag, hk, hv, hd8⟩ := hs _ (List.mem_of_getElem? hget)
    refine .inr ⟨hgo, fun H' => ∃ Hd' xs, Ex Hd1 Hd' ∧ RepD X.prog X.w X.K Hd' xs.1 (dxs key val (items.take (i + 1))) ∧ XR X pp (upd F D (.ext (DObj X.prog X.w D xs))) G Hd' H' σ ρ1, fun H' q => ⟨items.length - (i + 1), by omega, rfl, hlt, q⟩, fun x H' y => ?_⟩
    obtain ⟨eH, rx⟩ := hy x H' y
    subst eH
    have erW := er2.wiped (vs := own.map (·.2)) hv0
    intro s0 H0 C0 cl0 fp0
    refine hbt s0 H0 C0 cl0 fp0 pp _ G Hd2 H' (wipe σ (own.map (·.2))) x _ erW rx fun σ3 Hd3 H3 e3 er3 kp => ?_
    have hw := wipe_keep kp hj
    refine ⟨hw, fun s4 H4 C4 cl4 fp4 => ?_⟩
    refine hk s4 H4 C4 cl4 fp4 pp _ G Hd3 H3 σ3 _ er3 fun yk Hd5 H5 e5 er5 r5 s6 H6 C6 cl6 fp6 => ?_
    refine hv s6 H6 C6 cl6 fp6 pp _ G Hd5 H5 σ3 _ er5 fun yv Hd7 H7 e7 er7 r7 => ?_
    have hD7 : H7 D = some (.ext (DObj X.prog X.w D xs)) := er7.fr D _ upd_same
    have hHd7 : Hd7 D = none := er7.sep D (by rw [upd_same]; exact Option.some_ne_none _) hGD
    have eAll : Ex Hd2 Hd7 := (e3.trans e5).trans e7
    have er8 := er2.unwipe er7 eAll hw (ag.bk ho)
    obtain ⟨b, rfl⟩ : ∃ b, yk = V.ref b := by cases r5; exact ⟨_, rfl⟩
    have hlen := dxs_len (key := key) (val := val) (items.take i)
    rw [List.length_take] at hlen
    have r5' := Rep.mono e7 r5
    refine ⟨Hd7, D, b, xs, _, key items[i], rfl, rfl, hD7, er7.sb, rd.mono eAll, by omega, r5', hd8, fun ep' => ⟨Hd7, (xput xs.1 (.tup (key items[i])) b yv, ep'), e2.trans eAll, ?_, er8.rehold hFD hHd7⟩⟩
    rw [List.take_add_one, hget]
    show RepD _ _ _ _ _ (dxs key val (items.take i ++ [items[i]]))
    rw [dxs_snoc]
    exact xput_rep (rd.mono eAll) r5' hd8 r7
  · have e : i = items.length := by omega
    subst e
    refine .inl ⟨W.2 _ H2 Hd2 e2 er2.sb (Nat.le_refl _), ?_⟩
    rw [List.take_length] at rd
    obtain ⟨ed, er9⟩ := er2.give hFD hGD
    exact k _ _ _ ((e1.trans e2).trans ed) er9 (.dic upd_same (rd.mono ed))
theorem EV.dx {r : Nat} (hr : Room r X.A) (own : List (Str × Nat)) (js : List Nat) (key : Dt → List NestedKey) (val : Dt → Dt) (hc : X.calm = true) (hN : X.N.Nodup) (hi : EI X tg iter ρ items ρ1) (hz : items.length < sizeLine) (hs : ∀ d ∈ items, DxTurn X scope tg kx vx (own.map (·.2)) js key val ρ1 d)
    (ok : BlkOk X.N X.env.scope scope own := by exact blkOk_by (by rfl)) (ho : NoOwnAt (own.map (·.2)) ρ1 := by exact noOwn_by (by rfl)) (hj : ∀ j ∈ js, j ∈ own.map (·.2) := by decide) (hv0 : 0 ∉ own.map (·.2) := by decide) (hf : ∀ x, foldedSetIterable iter X.env x = pure x := by intro _; rfl) :
    EV X (.DictComp kx vx [⟨tg, iter, [], 0⟩] scope pos) ρ (.dic (dxs key val items)) ρ1 :=
  .of (pe_dx hr hc hN pi_c ok hf) (dx_read hi hj hv0 hz ho hs)
end
end Rw
namespace Rw
open PySem PySem.Spec PyProof.Rows L2
variable {P : Program} {w : World} {K : PySem.W.Frag} {mg : Str → Option Value} {base : Heap}
theorem cS_of {X : Cx} {sts : List Stmt} {t : TS} {D : Ends} {σ : L2.St} {H : Hp} (h : PSs X sts t) (ht : t D σ H) : cS X sts D σ H := fun pins s I => h.run pins s σ H D I ht
theorem kst_there (rs : List Row) (r : Row) : thereOf (rs ++ [r]) = kst (thereOf rs) (suff r.nm) := by
  unfold thereOf kst
  rw [List.flatMap_append, List.foldl_append, List.flatMap_cons, List.flatMap_nil, List.append_nil]
section
variable {P : Program} {w : World} {K : PySem.W.Frag} {pp : Option Addr} {F F' G Hd H Hd' H' : Hp} {σ : L2.St} {ρ : List En} {b : Addr} {o o' : HO}
/-- behind a call that changed one held object -/
theorem ER.calledB (er : ER P w K pp F' G Hd H σ ρ) (hb : F' b = some o) (hHd : Hd b = none) (hO : ∀ (j : Nat) (e : En), ρ[j]? = some e → isOwn e = false) (eH : ∀ a u, a ≠ b → H a = some u → H' a = some u) (eHd : Ex Hd Hd') (sb : Sub Hd' H') (sp : ∀ a, H a ≠ none → Hd a = none → Hd' a = none) (hb' : H' b = some o') :
    ER P w K pp (upd F' b o') G Hd' H' σ ρ where
  pt := er.pt
  fr := fun a u z => by
    by_cases ha : a = b
    · subst ha; rw [upd_same] at z; cases z; exact hb'
    · rw [upd_ne ha] at z; exact eH a u ha (er.fr a u z)
  gd := er.gd.trans eHd
  sb := sb
  sep := fun a q1 q2 => by
    by_cases ha : a = b
    · subst ha; exact sp a (by rw [er.fr a _ hb]; exact Option.some_ne_none _) hHd
    · rw [upd_ne ha] at q1
      obtain ⟨u, hu⟩ := Option.ne_none_iff_exists'.mp q1
      exact sp a (by rw [er.fr a u hu]; exact Option.some_ne_none _) (er.sep a q1 q2)
  len := er.len
  sl := fun j e h => by
    obtain ⟨y, h1, h2⟩ := er.sl j e h
    refine ⟨y, h1, ?_⟩
    have ho := hO j e h
    cases e with
    | un => trivial
    | dat d => obtain ⟨v, e1, r⟩ := h2; exact ⟨v, e1, r.mono eHd⟩
    | ol ds => cases ho
    | od ds => cases ho
    | ob oo => cases ho
  ow := fun i j e e' y h1 h2 o1 _ _ _ => by rw [hO i e h1] at o1; cases o1
end
theorem there_len {rs : List Row} : (∀ r ∈ rs, r.nm.length ≤ 10) → (thereOf rs).length ≤ 11 * rs.length := by
  refine rev_ind (P := fun rs => (∀ r ∈ rs, r.nm.length ≤ 10) → (thereOf rs).length ≤ 11 * rs.length) (fun _ => Nat.le_refl _) (fun rs r ih h => ?_) rs
  rw [kst_there]
  have h1 := ih fun x hx => h x (List.mem_append_left _ hx)
  have h2 := kst_len (suff r.nm) (thereOf rs)
  have h3 := h r (List.mem_append_right _ (.head _))
  have h4 : (suff r.nm).length = r.nm.length + 1 := by unfold suff; rw [List.length_map, List.length_range]
  rw [List.length_append, List.length_singleton]
  omega
theorem z_len {l : ZL} (okz : OkZ l) : ∀ r ∈ zrows l, r.nm.length ≤ 10 := fun r hr => by
  unfold zrows at hr
  rcases List.mem_cons.mp hr with z | hr
  · subst z; decide
  · rcases List.mem_cons.mp hr with z | hr
    · subst z; decide
    · obtain ⟨e, he, rfl⟩ := List.mem_map.mp hr
      rw [rowOf_nm]
      exact (okz.nm e.1 (List.mem_map.mpr ⟨e, he, rfl⟩)).2.2
abbrev ρI (rs L : List Row) (e4 e6 e7 e8 e9 : En) : List En := [.un, .dat (eN []), .dat (eRs rs), .dat (eRs L), e4, .dat (.lst []), e6, e7, e8, e9, .un]
/-- the keys of a dict that is data -/
theorem walk_keys {P : Program} {w : World} {K : PySem.W.Frag} {Hd Hd' H : Hp} {a : Addr} {xs : DX} {kvs : List (NestedKey × Dt)} {i : Nat} (ha : Hd a = some (.ext (DObj P w a xs))) (r : RepD P w K Hd xs.1 kvs) (e : Ex Hd Hd') (sb : Sub Hd' H) :
    (∀ p, kvs[i]? = some p → (ItKx P w a xs).go i H ∧ ∀ x H', (ItKx P w a xs).yld i H x H' → H' = H ∧ Rep P w K Hd' x (nkD p.1)) ∧ (kvs.length ≤ i → (ItKx P w a xs).stop i H) := by
  refine ⟨fun p hi => ?_, fun hi => ⟨sb.rd (e _ _ ha), by rw [r.length]; exact hi⟩⟩
  obtain ⟨b, v, q1, q2, q3⟩ := r.get (k := p.1) (d := p.2) hi
  refine ⟨⟨sb.rd (e _ _ ha), (List.getElem?_eq_some_iff.mp q1).1⟩, fun x H' y => ?_⟩
  obtain ⟨eH, k', b', v', y1, y2⟩ := y
  rw [q1] at y1
  cases y1
  subst y2
  exact ⟨eH, q2.mono e⟩
theorem init_rest (B : Bs mg) (C : ZC K) (KO : KeepOk P w K mg base) (DO : DefOk P w K mg base "ones_above" 1 2 (spD P w K 2 rOA)) {l : ZL} (okz : OkZ l) {q : Str} {fa : Addr} {cdv : Value} {A : Around} {outer : List Env} {s' : Shared} {H0 : Hp} {E : XK} {dx : Addr}
    (hr : Room 8 (A.deeper (envOfC q (defScope (s_Zone 0)) s'.heap.objs.size fa cdv))) {pp : Option Addr} {F G Hd0 Hd H F1 : Hp} {σ : L2.St} {D : Ends} {x b p1 p2 aD : Addr} {v1 v3 : V} {e4 : En} {xsb xsD : DX}
    (k : DK (cxOf CX0 P w K mg base nIN q (defScope (s_Zone 0)) fa cdv A outer s' H0 E).nox pp F G Hd0 (FinI l) D) (e0 : Ex Hd0 Hd) (hpp : ∀ a, pp = some a → a = x) (ho : isOwn e4 = false)
    (er : ER P w K (some x) F1 G Hd H σ (ρI (zrows l) (srt (zrows l)) e4 .un .un .un .un)) (hF : Ex F F1) (hnew : ∀ a, F a = none → F1 a ≠ none → G a = none) (hFx : F x = none) (hFb : F b = none)
    (hx : F1 x = some (.ins (He.ga K "Zone") dx [("_apex", v1), ("_kept", v3), ("_sets", .ref aD), ("_cuts", .ref p1), ("_trees", .ref p2), ("_there", .ref b)])) (hb : F1 b = some (.ext (DObj P w b xsb))) (rb : RepD P w K Hd xsb.1 (thereOf []))
    (r1 : Rep P w K Hd v1 (eN [])) (r3 : Rep P w K Hd v3 (eRs (srt (zrows l)))) (hD : Hd aD = some (.ext (DObj P w aD xsD))) (rD : RepD P w K Hd xsD.1 (setsOf (srt (zrows l)))) (rc : Rep P w K Hd (.ref p1) (.dic [])) (rt : Rep P w K Hd (.ref p2) (.dic [])) :
    cS (cxOf CX0 P w K mg base nIN q (defScope (s_Zone 0)) fa cdv A outer s' H0 E).nox ((defBody (s_Zone 0)).drop 11) D σ H := by
  have hr1 := hr.mono (show 1 ≤ 8 by decide)
  have hsx : σ[0]? = some (some (V.ref x)) := er.pt x rfl
  have hp := srt_perm (zrows l)
  have okS := (zrows_ok okz).srt
  have hnm : ∀ r ∈ srt (zrows l), r.nm.length ≤ 10 := fun r hr => z_len okz r (hp.mem_iff.mp hr)
  have hlz : (srt (zrows l)).length ≤ 8 := by rw [hp.length_eq]; have := okz.lz; unfold zrows; simp; omega
  generalize hL : srt (zrows l) = L at *
  have hkind : ∀ r ∈ L, (decide (r.kd = ("server" : Str)) && !decide (r.nm = [])) = false ∧ decide (r.kd = ("tree" : Str)) = false := by
    intro r _
    cases r <;> refine ⟨?_, ?_⟩ <;> simp only [Row.kd, Row.nm] <;> first | rfl | decide +kernel | (rw [Bool.and_eq_false_iff]; left; decide +kernel)
  have hszL : (setsOf L).length = L.length := by unfold setsOf; rw [List.length_map]
  have hgetL : ∀ i r, L[i]? = some r → (setsOf L)[i]? = some (kk r, eGr r) := fun i r h => by unfold setsOf; rw [List.getElem?_map, h]; rfl
  have hkk : ∀ r : Row, nkD (kk r) = .tup [eN r.nm, .str r.kd] := fun r => by show Dt.tup [nkD (nk r.nm), .str r.kd] = _; rw [nkD_nk]
  refine cS_of (pss_cons (ps_for PassesOwn.never rfl (pi_kx (pe_fld (pe_var (i := 0) rfl (.inl rfl)) (by rfl))) pg_c pss_c) pss_c) ?_
  refine ⟨.ref x, hsx, x, _, dx, _, .ref aD, rfl, er.fr x _ hx, C.cls, C.sets, by rfl, aD, xsD, rfl, er.sb.rd hD, ?_⟩
  refine ⟨fun i m σ' H' => m = L.length - i ∧ i ≤ L.length ∧ ∃ Hd' e6 e7, isOwn e6 = false ∧ isOwn e7 = false ∧ Ex Hd Hd' ∧ ER P w K (some x) F1 G Hd' H' σ' (ρI (zrows l) L e4 e6 e7 .un .un),
    ⟨L.length, by simp, Nat.zero_le _, Hd, .un, .un, rfl, rfl, Ex.refl _, er⟩, ?_⟩
  rintro i m σ2 H2 ⟨rfl, hle, Hd2, e6, e7, o6, o7, e2, er2⟩
  obtain ⟨wg, ws⟩ := walk_keys (i := i) hD rD e2 er2.sb
  by_cases hlt : i < L.length
  · have q := List.getElem?_eq_getElem hlt
    generalize L[i] = r at q
    obtain ⟨hgo, hy⟩ := wg _ (hgetL i r q)
    refine .inr ⟨hgo, fun σ' H' => ∃ Hd' e6 e7, isOwn e6 = false ∧ isOwn e7 = false ∧ Ex Hd Hd' ∧ ER P w K (some x) F1 G Hd' H' σ' (ρI (zrows l) L e4 e6 e7 .un .un), fun σ' H' z => ⟨L.length - (i + 1), by omega, rfl, hlt, z⟩, fun y H' hy' => ?_⟩
    obtain ⟨eH, ry⟩ := hy y H' hy'
    subst eH
    rw [hkk] at ry
    refine (BT.tup rfl (BTs.cons (.name (i := 6) sc_init.nd) (BTs.cons (.name (i := 7) sc_init.nd) .nil)) rfl) (some x) F1 G Hd2 _ σ2 y _ er2 ry fun σ3 Hd3 H3 e3 er3 kp => ?_
    obtain ⟨hk1, hk2⟩ := hkind r (List.mem_of_getElem? q)
    refine (SD.skip (P := fun o => o = .nx (ρI (zrows l) L e4 (.dat (eN r.nm)) (.dat (.str r.kd)) .un .un)) (ρ1 := ρI (zrows l) L e4 (.dat (eN r.nm)) (.dat (.str r.kd)) .un .un) (.is (.w (.and (.cmp (.eqS (.var (i := 7) rfl) .str)) fun _ => .and1 (.is (.cmp (.neD hr1 (.var (i := 6) rfl) (.var (i := 1) rfl) (plain_of _ (nobl_eN (okS.ok r (List.mem_of_getElem? q)).nm)) rfl (by rw [dep_eN]; decide) (by decide))) (by rw [eqd_eN (okS.ok r (List.mem_of_getElem? q)).nm (fun x hx => (by cases hx))])))) hk1) rfl (.skip (.cmp (.eqS (.var (i := 7) rfl) .str)) hk2 (.nil rfl))) (some x) F1 G Hd3 H3 σ3 _ er3 ⟨?_, fun σ' Hd' H' ρ' e er z => (by cases z), fun σ' Hd' H' ρ' e er z => (by cases z), fun v σ' Hd' H' ρ' d' e er rv z => (by cases z)⟩
    intro σ' Hd' H' ρ' e' er' z
    cases z
    exact ⟨Hd', _, _, rfl, rfl, (e2.trans e3).trans e', er'⟩
  · have e : i = L.length := by omega
    subst e
    refine .inl ⟨ws (by rw [hszL]; exact Nat.le_refl _), ?_⟩
    show cS _ _ _ _ _
    obtain ⟨fa1, fd1, ps1, hl1, hm1, hk1, hb1, F1'⟩ := DO.ex
    obtain ⟨fa2, fd2, ps2, hl2, hm2, hb2, F2'⟩ := KO.ex
    refine cS_of (pss_cons (ps_for PassesOwn.never rfl (pi_kx (pe_fld (pe_var (i := 0) rfl (.inl rfl)) (by rfl))) pg_c (pss_cons (ps_if (pt_not (pt_val (pe_call F1' hr1 (by rfl) hm1 hk1 hb1 .nil pass0 (pa_cons pe_c (pa_cons (pe_fld (pe_var (i := 0) rfl (.inl rfl)) (by rfl)) pa_nil (by rfl)) (by rfl)))))
      (pss_cons (ps_expr (pe_meth (pe_var (i := 0) rfl (.inl rfl)) C.cls hm2 F2' (hr.mono (by decide)) hb2 .nil pass0 (pa_cons pe_c pa_nil (by rfl))) (by rfl)) pss_nil) pss_nil) pss_nil)) pss_c) ?_
    refine ⟨.ref x, er2.pt x rfl, x, _, dx, _, .ref aD, rfl, er2.fr x _ hx, C.cls, C.sets, by rfl, aD, xsD, rfl, er2.sb.rd (e2 _ _ hD), ?_⟩
    refine ⟨fun i m σ' H' => m = L.length - i ∧ i ≤ L.length ∧ ∃ Hd' F' e6 e8 xs', isOwn e6 = false ∧ isOwn e8 = false ∧ Ex Hd2 Hd' ∧ ER P w K (some x) F' G Hd' H' σ' (ρI (zrows l) L e4 e6 e7 e8 .un) ∧ (∀ a, a ≠ b → F' a = F1 a) ∧ F' b = some (.ext (DObj P w b xs')) ∧ RepD P w K Hd' xs'.1 (thereOf (L.take i)),
      ⟨L.length, by simp, Nat.zero_le _, Hd2, F1, e6, .un, xsb, o6, rfl, Ex.refl _, er2, fun a _ => rfl, hb, rb.mono e2⟩, ?_⟩
    rintro i m σ4 H4 ⟨rfl, hle, Hd4, F4, e6', e8, xs4, o6', o8, e4', er4, hF4, hb4, rd4⟩
    obtain ⟨wg4, ws4⟩ := walk_keys (i := i) hD rD (e2.trans e4') er4.sb
    have hxb : x ≠ b := fun z => by rw [z, hb] at hx; cases hx
    have hx4 : F4 x = _ := (hF4 x hxb).trans hx
    by_cases hlt : i < L.length
    · have q := List.getElem?_eq_getElem hlt
      generalize L[i] = r at q
      obtain ⟨hgo, hy⟩ := wg4 _ (hgetL i r q)
      refine .inr ⟨hgo, fun σ' H' => ∃ Hd' F' e6 e8 xs', isOwn e6 = false ∧ isOwn e8 = false ∧ Ex Hd2 Hd' ∧ ER P w K (some x) F' G Hd' H' σ' (ρI (zrows l) L e4 e6 e7 e8 .un) ∧ (∀ a, a ≠ b → F' a = F1 a) ∧ F' b = some (.ext (DObj P w b xs')) ∧ RepD P w K Hd' xs'.1 (thereOf (L.take (i + 1))), fun σ' H' z => ⟨L.length - (i + 1), by omega, rfl, hlt, z⟩, fun y H' hy' => ?_⟩
      obtain ⟨eH, ry⟩ := hy y H' hy'
      subst eH
      rw [hkk] at ry
      refine (BT.tup rfl (BTs.cons (.name (i := 6) sc_init.nd) (BTs.cons (.name (i := 8) sc_init.nd) .nil)) rfl) (some x) F4 G Hd4 _ σ4 y _ er4 ry fun σ5 Hd5 H5 e5 er5 kp => ?_
      have eA := (((e2.trans e4').trans e5))
      show cE _ _ _ _ _
      refine (EV.var (i := 6) (d := eN r.nm) rfl) (some x) F4 G Hd5 H5 σ5 _ er5 fun nv Hd6 H6 e6x er6 r6 => ?_
      refine ⟨.ref x, er6.pt x rfl, x, _, dx, _, .ref p1, rfl, er6.fr x _ hx4, C.cls, C.cuts, by rfl, ?_⟩
      refine ⟨Hd6, [eN r.nm, .dic []], .bl false, er6.sb, .cons r6 (.cons (rc.mono (eA.trans e6x)) .nil), rfl, ⟨_, _, rfl, .inr rfl, rfl⟩, fun v H7 Hd7 eH7 eHd7 sb7 sp7 rv => ?_⟩
      cases rv
      have er7 := er6.called eH7 eHd7 sb7 sp7
      refine ⟨false, rfl, ?_⟩
      refine (if_pos (show (!false) = true from rfl)).mpr ?_
      refine ⟨.ref x, er7.pt x rfl, x, dx, _, rfl, er7.fr x _ hx4, by rfl, ?_⟩
      show cE _ _ _ _ _
      refine (EV.var (i := 6) (d := eN r.nm) rfl) (some x) F4 G Hd7 H7 σ5 _ er7 fun nv2 Hd8 H8 e8x er8 r8 => ?_
      have hrm := List.mem_of_getElem? q
      have hHd8b := er8.sep b (by rw [hb4]; exact Option.some_ne_none _) (hnew b hFb (by rw [hb]; exact Option.some_ne_none _))
      have eB := (((eA.trans e6x).trans eHd7).trans e8x)
      have eC := (((e5.trans e6x).trans eHd7).trans e8x)
      refine ⟨Hd8, x, nv2, r.nm, dx, _, v1, b, xs4, _, rfl, er8.sb, r8, (okS.ok r hrm).nl, er8.fr x _ hx4, by rfl, r1.mono eB, by rfl, er8.fr b _ hb4, hHd8b, rd4.mono eC, ?_, fun H9 Hd9 xs9 eH9 eHd9 sb9 sp9 hb9 rd9 => ?_⟩
      · refine Nat.le_trans (there_len (rs := L.take i) fun r hr => hnm r (List.mem_of_mem_take hr)) ?_
        rw [List.length_take]
        omega
      · refine ⟨Hd9, upd F4 b (.ext (DObj P w b xs9)), .dat (eN r.nm), .dat (.str r.kd), xs9, rfl, rfl, (e4'.trans eC).trans eHd9, er8.calledB hb4 hHd8b (noOwnL ?_) eH9 eHd9 sb9 sp9 hb9, fun a ne => by rw [upd_ne ne]; exact hF4 a ne, upd_same, ?_⟩
        · show (true && (true && (true && (true && (!isOwn e4 && (true && (true && (!isOwn e7 && true)))))))) = true
          rw [ho, o7]; rfl
        · rw [List.take_add_one, q]
          show RepD P w K Hd9 xs9.1 (thereOf (L.take i ++ [r]))
          rw [kst_there]
          exact rd9
    · have e : i = L.length := by omega
      subst e
      refine .inl ⟨ws4 (by rw [hszL]; exact Nat.le_refl _), ?_⟩
      show cS _ _ _ _ _
      rw [List.take_length] at rd4
      have hstart : lk (setsOf L) (.tup [nk [], .text "start"]) = some (eGr .start) := lk_sets okS.nd (hp.mem_iff.mpr (.head _))
      have eB := e2.trans e4'
      have hHd4x : Hd4 x = none := er4.sep x (by rw [hx4]; exact Option.some_ne_none _) (hnew x hFx (by rw [hx]; exact Option.some_ne_none _))
      refine cS_of (pss_cons (ps_set (i := 9) sc_init.nd rfl (.inl rfl) (pe_ix (ix_K hr1) (pe_fld (pe_var (i := 0) rfl (.inl rfl)) (by rfl)) pe_c (fun _ _ => rfl)) (by rfl) (.inl rfl)) (pss_cons (ps_fld (pe_var (i := 0) rfl (.inl rfl)) pe_c (by rfl)) (pss_cons (ps_fld (pe_var (i := 0) rfl (.inl rfl)) pe_c (by rfl)) pss_nil))) ?_
      refine ⟨.ref x, er4.pt x rfl, x, _, dx, _, .ref aD, rfl, er4.fr x _ hx4, C.cls, C.sets, by rfl, ?_⟩
      refine (EV.tup (.cons (.var (i := 1) (d := eN []) rfl) (.one .str))) (some x) F4 G Hd4 _ σ4 _ er4 fun u Hd5 H5 e5 er5 r5 => ?_
      refine ⟨[nk [], .text "start"], setsOf L, Hd5, eGr .start, ⟨er5.sb, by show Rep P w K Hd5 u (.tup [nkD (nk []), .str "start"]); rw [nkD_nk]; exact r5, depth_kk [] "start", aD, xsD, rfl, er5.sb.rd ((eB.trans e5) _ _ hD), rD.mono (eB.trans e5)⟩, hstart, fun vg rg => ?_⟩
      have er6 : ER P w K (some x) F4 G Hd5 H5 (σ4.set 9 (some vg)) (ρI (zrows l) L e4 e6' e7 e8 (.dat (eGr .start))) := er5.set (i := 9) rg (by decide)
      show cE _ _ _ _ _
      refine (EV.ixT (d := .int 1) (.ixT (d := Row.dt .start) (.ixT (d := .tup [Row.dt .start]) (.var (i := 9) (d := eGr .start) rfl) .int rfl) .int rfl) .int rfl) (some x) F4 G Hd5 H5 _ _ er6 fun u7 Hd7 H7 e7x er7 r7 => ?_
      cases r7
      have hHd7x : Hd7 x = none := er7.sep x (by rw [hx4]; exact Option.some_ne_none _) (hnew x hFx (by rw [hx]; exact Option.some_ne_none _))
      refine ⟨.ref x, er7.pt x rfl, x, _, dx, _, rfl, er7.fr x _ hx4, C.cls, C.serial, by show 6 < 1000; decide, ?_⟩
      have er8 := er7.reholdG (o' := .ins (He.ga K "Zone") dx [("_apex", v1), ("_kept", v3), ("_sets", .ref aD), ("_cuts", .ref p1), ("_trees", .ref p2), ("_there", .ref b), ("_serial", .int 1)]) hx4 hHd7x
      show cE _ _ _ _ _
      refine (EV.min2 rfl B.min (.cons (.ixT (d := .int 9) (.var (i := 9) (d := eGr .start) rfl) .int rfl) (.one (.ixT (d := .int 5) (.ixT (d := Row.dt .start) (.ixT (d := .tup [Row.dt .start]) (.var (i := 9) (d := eGr .start) rfl) .int rfl) .int rfl) .int rfl)))) (some x) _ G Hd7 _ _ _ er8 fun u9 Hd9 H9 e9x er9 r9 => ?_
      cases r9
      have hHd9x : Hd9 x = none := er9.sep x (by rw [upd_same]; exact Option.some_ne_none _) (hnew x hFx (by rw [hx]; exact Option.some_ne_none _))
      refine ⟨.ref x, er9.pt x rfl, x, _, dx, _, rfl, er9.fr x _ upd_same, C.cls, C.absent, by show 7 < 1000; decide, ?_⟩
      have er10 := er9.reholdG (o' := .ins (He.ga K "Zone") dx [("_apex", v1), ("_kept", v3), ("_sets", .ref aD), ("_cuts", .ref p1), ("_trees", .ref p2), ("_there", .ref b), ("_serial", .int 1), ("_absent", .int 5)]) upd_same hHd9x
      generalize hF10 : upd (upd F4 x (HO.ins (He.ga K "Zone") dx [("_apex", v1), ("_kept", v3), ("_sets", .ref aD), ("_cuts", .ref p1), ("_trees", .ref p2), ("_there", .ref b), ("_serial", .int 1)])) x (HO.ins (He.ga K "Zone") dx [("_apex", v1), ("_kept", v3), ("_sets", .ref aD), ("_cuts", .ref p1), ("_trees", .ref p2), ("_there", .ref b), ("_serial", .int 1), ("_absent", .int 5)]) = F10 at er10
      have hA : F10 x = some (.ins (He.ga K "Zone") dx [("_apex", v1), ("_kept", v3), ("_sets", .ref aD), ("_cuts", .ref p1), ("_trees", .ref p2), ("_there", .ref b), ("_serial", .int 1), ("_absent", .int 5)]) := by rw [← hF10]; exact upd_same
      have hN : ∀ a, a ≠ x → F10 a = F4 a := fun a ne => by rw [← hF10, upd_ne ne, upd_ne ne]
      have hF10b : F10 b = some (.ext (DObj P w b xs4)) := (hN b hxb.symm).trans hb4
      have hEx : Ex F F10 := fun a u h => by
        have hax : a ≠ x := fun z => by rw [z, hFx] at h; cases h
        have hab : a ≠ b := fun z => by rw [z, hFb] at h; cases h
        rw [hN a hax, hF4 a hab]
        exact hF a u h
      have hNew : ∀ a, F a = none → F10 a ≠ none → G a = none := fun a h1 h2 => by
        by_cases hax : a = x
        · rw [hax]; exact hnew x hFx (by rw [hx]; exact Option.some_ne_none _)
        · by_cases hab : a = b
          · rw [hab]; exact hnew b hFb (by rw [hb]; exact Option.some_ne_none _)
          · rw [hN a hax, hF4 a hab] at h2; exact hnew a h1 h2
      have hOE : ∀ (j : Nat) (e : En), (ρI (zrows l) L e4 e6' e7 e8 (.dat (eGr .start)))[j]? = some e → isOwn e = false := noOwnL (by
        show (true && (true && (true && (true && (!isOwn e4 && (true && (!isOwn e6' && (!isOwn e7 && (!isOwn e8 && true))))))))) = true
        rw [ho, o6', o7, o8]; rfl)
      obtain ⟨eZ, er11⟩ := er10.giveAll hEx hNew hOE
      have eT := (((eB.trans e5).trans e7x).trans e9x).trans eZ
      have rx : Rep P w K (fun a => if F a = none ∧ F10 a ≠ none then F10 a else Hd9 a) (.ref x) (zonE l) := by
        unfold zonE
        rw [hL]
        refine .zon (dx := dx) (by show (if F x = none ∧ F10 x ≠ none then F10 x else Hd9 x) = _; rw [if_pos ⟨hFx, by rw [hA]; exact Option.some_ne_none _⟩]; exact hA) ?_
        refine .cons (r1.mono eT) (.cons (r3.mono eT) (.cons (.dic (eT _ _ hD) (rD.mono eT)) (.cons (rc.mono eT) (.cons (rt.mono eT) (.cons (.dic (xs := xs4) ?_ (rd4.mono (((e5.trans e7x).trans e9x).trans eZ))) (.cons (.int 1) (.cons (.int 5) .nil)))))))
        show (if F b = none ∧ F10 b ≠ none then F10 b else Hd9 b) = _
        rw [if_pos ⟨hFb, by rw [hF10b]; exact Option.some_ne_none _⟩]
        exact hF10b
      have hs10 := er11.pt x rfl
      have er12 := (er11.know (i := 0) hs10 rx).unpin hpp
      exact k.nx _ _ _ _ (e0.trans eT) er12 rfl
end Rw
namespace Rw
open PySem PySem.Spec PyProof.Rows L2
variable {P : Program} {w : World} {K : PySem.W.Frag} {mg : Str → Option Value} {base : Heap}
def strk : Dt → NestedKey
  | .str s => .text s
  | _ => .text ""
def keyG : Dt → List NestedKey
  | .tup (.tup ns :: .str k :: _) => [.tup (ns.map strk), .text k]
  | _ => []
theorem keyG_row (r : Row) : NestedKey.tup (keyG (eGr r)) = kk r := by
  show NestedKey.tup [.tup ((r.nm.map Dt.str).map strk), .text r.kd] = NestedKey.tup [.tup (r.nm.map .text), .text r.kd]
  rw [List.map_map]
  rfl
theorem dxs_sets {rs : List Row} (nd : (rs.map Row.k2).Nodup) : dxs keyG id (rs.map eGr) = setsOf rs := by
  refine rev_ind (P := fun rs => (rs.map Row.k2).Nodup → dxs keyG id (rs.map eGr) = setsOf rs) (fun _ => rfl) (fun rs r ih nd => ?_) rs nd
  rw [List.map_append, List.nodup_append] at nd
  rw [List.map_append]
  show dxs keyG id (rs.map eGr ++ [eGr r]) = _
  rw [dxs_snoc, ih nd.1, keyG_row]
  have hno : lk (setsOf rs) (kk r) = none := lk_sets_none fun r' hr' h => nd.2.2 r'.k2 (List.mem_map.mpr ⟨r', hr', rfl⟩) r.k2 (List.mem_map.mpr ⟨r, .head _, rfl⟩) (by unfold Row.k2; rw [h.1, h.2])
  unfold dput
  rw [hno]
  show setsOf rs ++ [(kk r, id (eGr r))] = setsOf (rs ++ [r])
  unfold setsOf
  rw [List.map_append]
  rfl
section
variable {P : Program} {w : World} {K : PySem.W.Frag} {pp : Option Addr} {F F' G Hd H : Hp} {σ : L2.St} {ρ : List En} {D : Addr} {o o' : HO}
/-- a new object becomes data at once -/
theorem ER.newD (er : ER P w K pp F G Hd H σ ρ) (hD : H D = none) (hO : ∀ (j : Nat) (e : En), ρ[j]? = some e → isOwn e = false) : Ex Hd (upd Hd D o) ∧ ER P w K pp F G (upd Hd D o) (upd H D o) σ ρ := by
  have hHd : Hd D = none := er.fresh hD
  have er1 := ER.hold (o := o) (er.grow (Ex.new hD)) hHd upd_same (fun j e h q => by rw [hO j e h] at q; cases q)
  exact er1.give (er.fr.back hD) (er.gd.back hHd)
end
theorem init_body (B : Bs mg) (C : ZC K) (KO : KeepOk P w K mg base) (DNA : DefOk P w K mg base "need_asked" 4 1 (spD P w K 1 rNName)) (DCR : DefOk P w K mg base "checked_records" 7 1 (spD P w K 1 rOrd)) (DSU : DefOk P w K mg base "stands_under" 1 2 (spD P w K 2 rRoot)) (DFF : DefOk P w K mg base "found_faults" 8 2 (spD P w K 2 rFF))
    (DG : DefOk P w K mg base "grouped" 1 1 (spD P w K 1 rGrp)) (DO : DefOk P w K mg base "ones_above" 1 2 (spD P w K 2 rOA)) :
    ∀ l, OkZ l → ∀ q fa cdv A outer s' H E dx, Room 8 (A.deeper (envOfC q (defScope (s_Zone 0)) s'.heap.objs.size fa cdv)) → SD (cxOf CX0 P w K mg base nIN q (defScope (s_Zone 0)) fa cdv A outer s' H E).nox (defBody (s_Zone 0)) [.ob (.ins (He.ga K "Zone") dx []), .dat (eN []), .dat (eRs (zrows l)), .un, .un, .un, .un, .un, .un, .un, .un] (FinI l) := by
  intro l okz q fa cdv A outer s' H E dx hr
  have okr := zrows_ok okz
  have hp := srt_perm (zrows l)
  have ok0 : OkN [] := fun x hx => (by cases hx)
  have hr1 := hr.mono (show 1 ≤ 8 by decide)
  have okS := okr.srt
  have okt := zt_ok okz hp
  have hz := okr.lz
  refine .expr (.call DNA (hr.mono (by decide)) (.one (.var (i := 1) rfl)) ⟨[], rfl, ok0, by decide, rfl⟩) ?_
  refine .asg (i := 3) (.call DCR (hr.mono (by decide)) (.one (.var (i := 2) rfl)) ⟨_, rfl, okr, rfl⟩) ?_ sc_init.nd
  refine .for rfl (.list (.var (i := 2) rfl)) (fun i ρ => ∃ e4, ρ = [.ob (.ins (He.ga K "Zone") dx []), .dat (eN []), .dat (eRs (zrows l)), .dat (eRs (srt (zrows l))), e4, .un, .un, .un, .un, .un, .un] ∧ isOwn e4 = false) ⟨.un, rfl, rfl⟩ (fun i d ρ hi' hI => ?_) (fun ρ hI => ?_)
  · obtain ⟨e4, rfl, _⟩ := hI
    obtain ⟨r, hr', rfl⟩ := List.mem_map.mp (List.mem_of_getElem? hi')
    refine ⟨_, _, .name (i := 4) sc_init.nd, ?_⟩
    refine .skip (k := false) (.is (.not (.val (.call DSU hr1 (.cons (.ixT (d := eN r.nm) (.var (i := 4) rfl) .int rfl) (.one (.var (i := 1) rfl))) ⟨r.nm, rfl, (okr.ok r hr').nm, rfl⟩))) rfl) rfl ?_
    exact .nil ⟨.dat (eR r), rfl, rfl⟩
  · obtain ⟨e4, rfl, ho⟩ := hI
    refine .asg (i := 5) (.call DFF hr (.cons (.var (i := 1) rfl) (.one (.var (i := 3) rfl))) ⟨_, rfl, okS, okt, rfl⟩) ?_ sc_init.nd
    refine .skip (.cmp (.gt (.lenL B.len (.var (i := 5) rfl)) .int)) rfl ?_
    refine SD.of (pss_cons (ps_fld (pe_var (i := 0) rfl (.inl rfl)) (pe_var (i := 1) rfl (.inl rfl)) (by rfl)) (pss_cons (ps_fld (pe_var (i := 0) rfl (.inl rfl)) (pe_var (i := 3) rfl (.inl rfl)) (by rfl)) (pss_cons (ps_fld (pe_var (i := 0) rfl (.inl rfl)) pe_c (by rfl))
      (pss_cons (ps_fld (pe_var (i := 0) rfl (.inl rfl)) pe_dnewX (by rfl)) (pss_cons (ps_fld (pe_var (i := 0) rfl (.inl rfl)) pe_dnewX (by rfl)) (pss_cons (ps_fld (pe_var (i := 0) rfl (.inl rfl)) pe_dnewX (by rfl)) pss_c)))))) fun pp F G Hd H σ D er k => ?_
    obtain ⟨x, hpp, hFx, hHdx, hHx, er1⟩ := er.take0 (noOwnL (by show (true && (true && (true && (!isOwn e4 && true)))) = true; rw [ho]; rfl))
    have hsx : σ[0]? = some (some (V.ref x)) := er1.pt x rfl
    obtain ⟨_, hs1, v1, rfl, rv1⟩ := er1.sl 1 _ rfl
    obtain ⟨_, hs3, v3, rfl, rv3⟩ := er1.sl 3 _ rfl
    have hGx : G x = none := er1.gd.back hHdx
    refine ⟨v1, hs1, .ref x, hsx, x, _, dx, [], rfl, hHx, C.cls, C.apex, by decide, ?_⟩
    have er2 := er1.reholdG (o' := .ins (He.ga K "Zone") dx [("_apex", v1)]) upd_same hHdx
    refine ⟨v3, hs3, .ref x, hsx, x, _, dx, _, rfl, upd_same, C.cls, C.kept, by show 1 < 1000; decide, ?_⟩
    have er3 := er2.reholdG (o' := .ins (He.ga K "Zone") dx [("_apex", v1), ("_kept", v3)]) upd_same hHdx
    generalize hF3 : upd (upd (upd F x (HO.ins (He.ga K "Zone") dx [])) x (HO.ins (He.ga K "Zone") dx [("_apex", v1)])) x (HO.ins (He.ga K "Zone") dx [("_apex", v1), ("_kept", v3)]) = F3 at er3
    have hF3x : F3 x = some (.ins (He.ga K "Zone") dx [("_apex", v1), ("_kept", v3)]) := by rw [← hF3]; exact upd_same
    have hF3o : ∀ a, a ≠ x → F3 a = F a := fun a ne => by rw [← hF3, upd_ne ne, upd_ne ne, upd_ne ne]
    have hnd := okS.nd
    have hlS : (srt (zrows l)).length ≤ 10 := by rw [hp.length_eq]; have := okz.lz; show (zrows l).length ≤ 10; unfold zrows; simp; omega
    refine (EV.dx hr1 [("row", 10)] [10] keyG id rfl sc_init.nd (.list (.call DG hr1 (.one (.var (i := 3) rfl)) ⟨_, rfl, okS, rfl⟩)) (by rw [List.length_map, sizeLine_eq]; omega) (fun d hd => ?_)) (some x) F3 G Hd _ σ _ er3 fun vD Hd4 H4 e4' er4 r4 => ?_
    · obtain ⟨r, _, rfl⟩ := List.mem_map.mp hd
      refine ⟨_, fun _ _ _ _ _ => .name (i := 10) sc_init.nd, Agree.wiped.set (by decide), fun _ _ _ _ _ => .is (.tup (.cons (.ixT (d := eN r.nm) (.var (i := 10) rfl) .int rfl) (.one (.ixT (d := .str r.kd) (.var (i := 10) rfl) .int rfl)))) ?_, fun _ _ _ _ _ => .var (i := 10) rfl, ?_⟩
      · rw [keyG_row]; show Dt.tup [eN r.nm, .str r.kd] = Dt.tup [nkD (nk r.nm), .str r.kd]; rw [nkD_nk]
      · rw [keyG_row]; exact depth_kk _ _
    rw [dxs_sets hnd] at r4
    have hHd4x : Hd4 x = none := er4.sep x (by rw [hF3x]; exact Option.some_ne_none _) hGx
    refine ⟨.ref x, hsx, x, _, dx, _, rfl, er4.fr x _ hF3x, C.cls, C.sets, by show 2 < 1000; decide, ?_⟩
    have er5 := er4.reholdG (o' := .ins (He.ga K "Zone") dx [("_apex", v1), ("_kept", v3), ("_sets", vD)]) hF3x hHd4x
    -- the cuts
    intro p1 ep1 hp1
    have hO : ∀ (j : Nat) (e : En), (En.un :: [En.dat (eN []), En.dat (eRs (zrows l)), En.dat (eRs (srt (zrows l))), e4, En.un, En.un, En.un, En.un, En.un, En.un].set 4 (En.dat (Dt.lst [])))[j]? = some e → isOwn e = false := noOwnL (by show (true && (true && (true && (true && (!isOwn e4 && true))))) = true; rw [ho]; rfl)
    obtain ⟨e6, er6⟩ := er5.newD (o := .ext (DObj P w p1 ([], ep1))) hp1 hO
    have hF5x : upd F3 x (.ins (He.ga K "Zone") dx [("_apex", v1), ("_kept", v3), ("_sets", vD)]) x = some (.ins (He.ga K "Zone") dx [("_apex", v1), ("_kept", v3), ("_sets", vD)]) := upd_same
    have hx6 := er6.sep x (by rw [hF5x]; exact Option.some_ne_none _) hGx
    have rc : Rep P w K (upd Hd4 p1 (.ext (DObj P w p1 ([], ep1)))) (.ref p1) (.dic []) := .dic upd_same .nil
    refine ⟨.ref x, hsx, x, _, dx, _, rfl, er6.fr x _ hF5x, C.cls, C.cuts, by show 3 < 1000; decide, ?_⟩
    have er7 := er6.reholdG (o' := .ins (He.ga K "Zone") dx [("_apex", v1), ("_kept", v3), ("_sets", vD), ("_cuts", .ref p1)]) hF5x hx6
    -- the trees
    intro p2 ep2 hp2
    obtain ⟨e8, er8⟩ := er7.newD (o := .ext (DObj P w p2 ([], ep2))) hp2 hO
    have hx8 := er8.sep x (by rw [upd_same]; exact Option.some_ne_none _) hGx
    have rt : Rep P w K (upd (upd Hd4 p1 (.ext (DObj P w p1 ([], ep1)))) p2 (.ext (DObj P w p2 ([], ep2)))) (.ref p2) (.dic []) := .dic upd_same .nil
    refine ⟨.ref x, hsx, x, _, dx, _, rfl, er8.fr x _ upd_same, C.cls, C.trees, by show 4 < 1000; decide, ?_⟩
    have er9 := er8.reholdG (o' := .ins (He.ga K "Zone") dx [("_apex", v1), ("_kept", v3), ("_sets", vD), ("_cuts", .ref p1), ("_trees", .ref p2)]) upd_same hx8
    generalize hHd9 : upd (upd Hd4 p1 (.ext (DObj P w p1 ([], ep1)))) p2 (.ext (DObj P w p2 ([], ep2))) = Hd9 at er8 er9 rt e8 hx8
    -- what is there
    intro b epb hb
    have hHd9b : Hd9 b = none := er9.fresh hb
    have hGb : G b = none := er9.gd.back hHd9b
    have hFb := er9.fr.back hb
    have hbx : b ≠ x := fun z => by rw [z, upd_same] at hFb; cases hFb
    have er10 := ER.hold (o := .ext (DObj P w b ([], epb))) (er9.grow (Ex.new hb)) hHd9b upd_same (fun j e h o => by rw [hO j e h] at o; cases o)
    refine ⟨.ref x, hsx, x, _, dx, _, rfl, er10.fr x _ (by rw [upd_ne hbx.symm]; exact upd_same), C.cls, C.there, by show 5 < 1000; decide, ?_⟩
    have er11 := er10.reholdG (o' := .ins (He.ga K "Zone") dx [("_apex", v1), ("_kept", v3), ("_sets", vD), ("_cuts", .ref p1), ("_trees", .ref p2), ("_there", .ref b)]) (D := x) (by rw [upd_ne hbx.symm]; exact upd_same) hx8
    have hFb0 : F b = none := by rw [upd_ne hbx, upd_ne hbx, upd_ne hbx, hF3o b hbx] at hFb; exact hFb
    obtain ⟨aD, rfl⟩ : ∃ aD, vD = V.ref aD := by cases r4; exact ⟨_, rfl⟩
    cases r4 with
    | @dic _ xsD _ hD rD =>
    refine init_rest B C KO DO okz hr k (e4'.trans (e6.trans e8)) hpp ho er11 (fun a u h => ?_) (fun a h1 h2 => ?_) hFx hFb0 upd_same (by rw [upd_ne hbx]; exact upd_same) .nil (rv1.mono (e4'.trans (e6.trans e8))) (rv3.mono (e4'.trans (e6.trans e8))) ((e6.trans e8) _ _ hD) (rD.mono (e6.trans e8)) (rc.mono e8) rt
    · have hax : a ≠ x := fun z => by rw [z, hFx] at h; cases h
      have hab : a ≠ b := fun z => by rw [z, hFb0] at h; cases h
      rw [upd_ne hax, upd_ne hab, upd_ne hax, upd_ne hax, upd_ne hax, hF3o a hax]
      exact h
    · by_cases hax : a = x
      · rw [hax]; exact hGx
      · by_cases hab : a = b
        · rw [hab]; exact hGb
        · rw [upd_ne hax, upd_ne hab, upd_ne hax, upd_ne hax, upd_ne hax, hF3o a hax] at h2
          exact absurd h1 h2
theorem init_ok' (B : Bs mg) (C : ZC K) (KO : KeepOk P w K mg base) (DNA : DefOk P w K mg base "need_asked" 4 1 (spD P w K 1 rNName)) (DCR : DefOk P w K mg base "checked_records" 7 1 (spD P w K 1 rOrd)) (DSU : DefOk P w K mg base "stands_under" 1 2 (spD P w K 2 rRoot)) (DFF : DefOk P w K mg base "found_faults" 8 2 (spD P w K 2 rFF))
    (DG : DefOk P w K mg base "grouped" 1 1 (spD P w K 1 rGrp)) (DO : DefOk P w K mg base "ones_above" 1 2 (spD P w K 2 rOA)) (hmg : mg "Zone" = some (.ref (He.ga K "Zone"))) (F : ∃ fa fd q, Mk K (He.ga K "Zone") fa ∧ Fun K "__init__" q (s_Zone 0) fa fd) : InitOk P w K mg base :=
  init_ok hmg F (init_body B C KO DNA DCR DSU DFF DG DO)
end Rw
namespace Rw
open PySem PySem.Spec PyProof.Rows L2
section
variable {X : Cx} {ρ ρ1 : List En} {e : Expr} {es : List Expr} {p pos : Pos} {l : ZL}
/-- Zone((), rows) -/
theorem EV.make (I : InitOk X.prog X.w X.K X.mg X.base) (hr : Room 10 X.A) (ha : EA X (e :: es) ρ [eN [], eRs (zrows l)] ρ1) (okz : OkZ l) (hg : Gl X "Zone" := by rfl)
    (he : starEach (e :: es) X.env = (false, eval e X.env) :: starEach es X.env := by rfl) (hpl : (backTo pos (starEach es X.env)).any (·.1) = false := by rfl) : EV X (.Call (.Name "Zone" p) (e :: es) [] pos) ρ (zonE l) ρ1 := by
  obtain ⟨fa, fd, ps, hl, hm, M, hb, F⟩ := I.ex
  refine .of (pe_make M F hr hg hm hb .nil pass0 pa_c (by decide) he hpl) fun pp F G Hd H σ Q er k => ha pp F G Hd H σ _ er fun vs Hd1 H1 e1 er1 r1 x dx hx hdx hne => ?_
  obtain ⟨v1, v2, rfl, q1, q2⟩ := r1.two
  have eG : Ex H1 (upd (upd H1 dx (.own x)) x (.ins (He.ga X.K "Zone") dx [])) := fun a u h => by
    rw [upd_ne (ne_of_none h hx), upd_ne (ne_of_none h hdx)]
    exact h
  refine ⟨Hd1, x, v1, v2, dx, l, by rfl, (er1.grow (Ex.trans (Ex.new hdx) (Ex.new (by rw [upd_ne hne.symm]; exact hx)))).sb, upd_same, er1.fresh hx, q1, q2, okz, fun H' Hd' eH eHd sb' sp' rz => ⟨rfl, ?_⟩⟩
  refine k (.ref x) Hd' H' (e1.trans eHd) (er1.called (fun a u h => eH a u (ne_of_none h hx) (eG a u h)) eHd sb' fun a h1 h2 => ?_) rz
  have hax : a ≠ x := fun z => h1 (by rw [z]; exact hx)
  refine sp' a hax (fun z => ?_) h2
  obtain ⟨u, hu⟩ := Option.ne_none_iff_exists'.mp h1
  rw [eG a u hu] at z
  cases z
end
end Rw
namespace Rw
open PySem PySem.Spec PyProof.Rows L2
abbrev s_draw : Stmt := topS 102
variable {P : Program} {w : World} {K : PySem.W.Frag} {mg : Str → Option Value} {base : Heap}
abbrev Pot := Int × Int × Int
def ePot (p : Pot) : List Dt := [.int p.1, .int p.2.1, .int p.2.2]
/-- a pot behind N draws or fewer -/
structure PotOk (N : Nat) (p : Pot) : Prop where
  b0 : 0 ≤ p.2.1
  b1 : p.2.1 < 2 ^ 130
  c0 : 0 ≤ p.2.2
  c1 : p.2.2 ≤ N
def mixP (p : Pot) : Int := ((((p.2.1 + 805306457 * (p.2.2 + 1)) ^ 3 % (10 ^ 41 + 109)) + 402653189 * (p.2.2 + 1)) ^ 2 % (10 ^ 40 + 121)) / 1610612741
def draw (p : Pot) (m : Int) : Int × Pot := if p.1 > 0 then (p.1 % m, (p.1 / m, p.2.1, p.2.2)) else (mixP p % m, (p.1, p.2.1, p.2.2 + 1))
theorem draw_lo (p : Pot) {m : Int} (h : 0 < m) : 0 ≤ (draw p m).1 := by
  unfold draw
  split
  · exact Int.emod_nonneg _ (by omega)
  · exact Int.emod_nonneg _ (by omega)
theorem draw_hi (p : Pot) {m : Int} (h : 0 < m) : (draw p m).1 < m := by
  unfold draw
  split
  · exact Int.emod_lt_of_pos _ h
  · exact Int.emod_lt_of_pos _ h
theorem draw_ok {N : Nat} {p : Pot} (ok : PotOk N p) (m : Int) : PotOk (N + 1) (draw p m).2 := by
  obtain ⟨h1, h2, h3, h4⟩ := ok
  unfold draw
  split
  · exact ⟨h1, h2, h3, by show p.2.2 ≤ _; omega⟩
  · exact ⟨h1, h2, by show 0 ≤ p.2.2 + 1; omega, by show p.2.2 + 1 ≤ _; omega⟩
theorem PotOk.up {N M : Nat} {p : Pot} (ok : PotOk N p) (h : N ≤ M) : PotOk M p := ⟨ok.b0, ok.b1, ok.c0, by have := ok.c1; omega⟩
abbrev rDraw : List Dt → List Dt → Dt → List Dt → Prop := fun pt ds d pt' => ∃ p m, pt = ePot p ∧ ds = [.int m] ∧ PotOk 1000000 p ∧ 0 < m ∧ m ≤ 1000000001 ∧ d = .int (draw p m).1 ∧ pt' = ePot (draw p m).2
theorem sc_draw : FnScope ["_law_pot_here", "_law_many", "_law_found", "_law_mixed"] ["_law_pot_here", "_law_many"] (defScope s_draw) := ⟨rfl, rfl, rfl, by decide, rfl, by decide, by decide⟩
theorem powW {i : Int} {j : Nat} (h0 : 0 ≤ i) (h1 : i < 2 ^ 200) (hj : j ≤ 3) : CPowW i (j : Int) := by
  have hl : i.natAbs.log2 < 200 := by
    by_cases z : i.natAbs = 0
    · rw [z]; decide
    · exact (Nat.log2_lt z).mpr (by omega)
  have hb : Builtin.Int.intBits i ≤ 200 := by
    unfold Builtin.Int.intBits
    split
    · decide
    · omega
  refine ⟨by omega, ?_⟩
  have h1 : (Builtin.Int.intBits i : Int) * (j : Int) ≤ 200 * 3 := Int.mul_le_mul (by omega) (by omega) (by omega) (by decide)
  omega
theorem draw_def (B : Bs mg) (F : Fn K mg "_law_draw" s_draw) : DefOk P w K mg base "_law_draw" 1 2 (spP P w K 1 rDraw) :=
  defOkP ["_law_pot_here", "_law_many", "_law_found", "_law_mixed"] ["_law_pot_here", "_law_many"] F sc_draw rfl (fun _ _ _ _ _ _ us h => by
    match us, h with
    | [_, _], _ => rfl) (by
    rintro fa cdv A outer s' H E hr pt ds d pt' hl ⟨p, m, rfl, rfl, ok, hm, hm2, rfl, rfl⟩
    have hmod : CDivW p.1 m := ⟨hm, by
      by_cases z : m.natAbs = 0
      · rw [z]; decide
      · exact Nat.lt_of_lt_of_le ((Nat.log2_lt (k := 40) z).mpr (by omega)) (by decide)⟩
    refine .when (.cmp (.gt (.ixO (q := 0) (ds := ePot p) rfl .int rfl) .int)) (fun hp => ?_) (fun hp => ?_)
    · have hp' : p.1 > 0 := of_decide_eq_true hp
      have e : draw p m = (p.1 % m, (p.1 / m, p.2.1, p.2.2)) := by unfold draw; rw [if_pos hp']
      refine .asg (i := 2) (.mod (.toInt B.int (.ixO (q := 0) (ds := ePot p) rfl .int rfl)) (.var (i := 1) rfl) hm) ?_ sc_draw.nd
      refine .put (i := 0) (n := 0) (.fdiv (.ixO (q := 0) (ds := ePot p) rfl .int rfl) (.var (i := 1) rfl) hmod) .int rfl rfl ?_
      refine .ret (.var (i := 2) rfl) ?_
      rw [e]
      exact ⟨rfl, rfl⟩
    · have hp' : ¬ p.1 > 0 := of_decide_eq_false hp
      have e : draw p m = (mixP p % m, (p.1, p.2.1, p.2.2 + 1)) := by unfold draw; rw [if_neg hp']
      obtain ⟨h1, h2, h3, h4⟩ := ok
      refine .put (i := 0) (n := 2) (.add (.ixO (q := 0) (ds := ePot p) rfl .int rfl) .int) .int rfl rfl ?_
      refine .asg (i := 3) (.mod (.toInt B.int (.pow (.add (.ixO (q := 0) (ds := ePot (p.1, p.2.1, p.2.2 + 1)) rfl .int rfl) (.mul .int (.ixO (q := 0) (ds := ePot (p.1, p.2.1, p.2.2 + 1)) rfl .int rfl) (.inl (by decide)))) .int (powW (j := 3) (by show 0 ≤ p.2.1 + 805306457 * (p.2.2 + 1); omega) (by show p.2.1 + 805306457 * (p.2.2 + 1) < _; omega) (by decide)))) (.add (.pow .int .int ⟨by decide, by decide +kernel⟩) .int) (by decide)) ?_ sc_draw.nd
      refine .asg (i := 3) (.mod (.toInt B.int (.pow (.add (.var (i := 3) rfl) (.mul .int (.ixO (q := 0) (ds := ePot (p.1, p.2.1, p.2.2 + 1)) rfl .int rfl) (.inl (by decide)))) .int (powW (j := 2) ?_ ?_ (by decide)))) (.add (.pow .int .int ⟨by decide, by decide +kernel⟩) .int) (by decide)) ?_ sc_draw.nd
      · have z := Int.emod_nonneg ((p.2.1 + 805306457 * (p.2.2 + 1)) ^ (3 : Int).toNat) (show (10 ^ (41 : Int).toNat + 109 : Int) ≠ 0 by decide)
        show 0 ≤ (p.2.1 + 805306457 * (p.2.2 + 1)) ^ (3 : Int).toNat % (10 ^ (41 : Int).toNat + 109) + 402653189 * (p.2.2 + 1)
        omega
      · have z := Int.emod_lt_of_pos ((p.2.1 + 805306457 * (p.2.2 + 1)) ^ (3 : Int).toNat) (show (0 : Int) < 10 ^ (41 : Int).toNat + 109 by decide)
        have z2 : (10 ^ (41 : Int).toNat + 109 : Int) < 2 ^ 150 := by decide
        show (p.2.1 + 805306457 * (p.2.2 + 1)) ^ (3 : Int).toNat % (10 ^ (41 : Int).toNat + 109) + 402653189 * (p.2.2 + 1) < 2 ^ 200
        omega
      refine .ret (.mod (.toInt B.int (.fdiv (.var (i := 3) rfl) .int ⟨by decide, by decide +kernel⟩)) (.var (i := 1) rfl) hm) ?_
      rw [e]
      exact ⟨rfl, rfl⟩)
end Rw
namespace Rw
open PySem PySem.Spec PyProof.Rows L2
abbrev s_label : Stmt := topS 103
def drawN (m : Int) : Nat → Pot → List Int × Pot
  | 0, p => ([], p)
  | n + 1, p => ((drawN m n p).1 ++ [(draw (drawN m n p).2 m).1], (draw (drawN m n p).2 m).2)
theorem drawN_len (m : Int) (p : Pot) : ∀ n, (drawN m n p).1.length = n
  | 0 => rfl
  | n + 1 => by show ((drawN m n p).1 ++ [_]).length = _; rw [List.length_append, drawN_len m p n]; rfl
theorem drawN_mem {m : Int} (h : 0 < m) (p : Pot) : ∀ n, ∀ k ∈ (drawN m n p).1, 0 ≤ k ∧ k < m
  | 0, k, hk => nomatch hk
  | n + 1, k, hk => by
    rcases List.mem_append.mp hk with z | z
    · exact drawN_mem h p n k z
    · rw [List.mem_singleton.mp z]; exact ⟨draw_lo _ h, draw_hi _ h⟩
theorem drawN_ok {m : Int} {N : Nat} {p : Pot} (ok : PotOk N p) : ∀ n, PotOk (N + n) (drawN m n p).2
  | 0 => ok
  | n + 1 => draw_ok (drawN_ok ok n) m
def SG : Str := "abcdefghijklmnopqrstuvwxyz0123456789"
def charOf (k : Int) : Nat := SG.cps.toList.getD k.toNat 97
theorem charOf_at {k : Int} (h0 : 0 ≤ k) (h1 : k < 36) : atI SG.cps.toList k = some (charOf k) := by
  have e : k = ((k.toNat : Nat) : Int) := by omega
  have hl : SG.cps.toList.length = 36 := by decide +kernel
  rw [e]
  refine atI_nat ?_
  unfold charOf
  rw [Int.toNat_natCast, List.getD_eq_getElem?_getD, List.getElem?_eq_getElem (by rw [hl]; omega)]
  rfl
theorem charOf_in (k : Int) : charOf k ∈ SIGNS.cps.toList ∧ charOf k ≠ 45 := by
  have hall : ∀ c ∈ (97 :: SG.cps.toList), c ∈ SIGNS.cps.toList ∧ c ≠ 45 := by decide +kernel
  refine hall _ ?_
  unfold charOf
  rw [List.getD_eq_getElem?_getD]
  cases h : SG.cps.toList[k.toNat]? with
  | none => exact .head _
  | some c => exact .tail _ (List.mem_of_getElem? h)
def txt (ks : List Int) : Str := ⟨(ks.map charOf).toArray⟩
/-- the label that a pot gives -/
def labSize (p : Pot) : Int × Pot :=
  let a := draw p 20
  let b := draw a.2 4
  (([1, 1, 2, 1 + a.1] : List Int).getD b.1.toNat 1, b.2)
def dash (ks : List Int) : Str := ⟨((ks.map charOf).take 1 ++ 45 :: (ks.map charOf).drop 2).toArray⟩
def labelF (p : Pot) : Str × Pot :=
  let s := labSize p
  let t := drawN 36 s.1.toNat s.2
  if 2 < s.1 then
    let d := draw t.2 3
    if d.1 = 0 then (dash t.1, d.2) else (txt t.1, d.2)
  else (txt t.1, t.2)
theorem labSize_lo (p : Pot) : 1 ≤ (labSize p).1 ∧ (labSize p).1 ≤ 20 := by
  have h1 := draw_lo p (m := 20) (by decide)
  have h2 := draw_hi p (m := 20) (by decide)
  have hall : ∀ x ∈ ([1, 1, 2, 1 + (draw p 20).1] : List Int), 1 ≤ x ∧ x ≤ 20 := by
    intro x hx
    simp only [List.mem_cons, List.not_mem_nil, or_false] at hx
    rcases hx with z | z | z | z <;> subst z <;> omega
  show 1 ≤ (([1, 1, 2, 1 + (draw p 20).1] : List Int).getD (draw (draw p 20).2 4).1.toNat 1) ∧ (([1, 1, 2, 1 + (draw p 20).1] : List Int).getD (draw (draw p 20).2 4).1.toNat 1) ≤ 20
  rw [List.getD_eq_getElem?_getD]
  cases h : ([1, 1, 2, 1 + (draw p 20).1] : List Int)[(draw (draw p 20).2 4).1.toNat]? with
  | none => exact ⟨by decide, by decide⟩
  | some c => exact hall c (List.mem_of_getElem? h)
theorem txt_ok {ks : List Int} (h1 : 1 ≤ ks.length) (h2 : ks.length ≤ 20) : OkL (txt ks) := by
  have hs : ∀ c ∈ ks.map charOf, c ∈ SIGNS.cps.toList ∧ c ≠ 45 := fun c hc => by
    obtain ⟨k, _, rfl⟩ := List.mem_map.mp hc
    exact charOf_in k
  refine ⟨by show 1 ≤ (ks.map charOf).toArray.size; simpa using h1, by show (ks.map charOf).toArray.size ≤ 20; simpa using h2, fun c hc => (hs c (by simpa [txt] using hc)).1, fun h => ?_, fun h => ?_⟩
  · exact (hs 45 (List.mem_of_mem_head? (by simpa [txt] using h))).2 rfl
  · exact (hs 45 (List.mem_of_getLast? (by simpa [txt] using h))).2 rfl
theorem dash_ok {ks : List Int} (h1 : 3 ≤ ks.length) (h2 : ks.length ≤ 20) : OkL (dash ks) := by
  have hs : ∀ c ∈ ks.map charOf, c ∈ SIGNS.cps.toList ∧ c ≠ 45 := fun c hc => by
    obtain ⟨k, _, rfl⟩ := List.mem_map.mp hc
    exact charOf_in k
  match ks, h1 with
  | a :: b :: c :: r, _ =>
    have hl : (dash (a :: b :: c :: r)).cps.toList = charOf a :: 45 :: charOf c :: r.map charOf := by simp [dash]
    refine ⟨?_, ?_, fun x hx => ?_, fun h => ?_, fun h => ?_⟩
    · show 1 ≤ (dash (a :: b :: c :: r)).cps.size
      rw [← Array.length_toList, hl]; simp
    · show (dash (a :: b :: c :: r)).cps.size ≤ 20
      rw [← Array.length_toList, hl]; simp at h2 ⊢; omega
    · rw [hl] at hx
      rcases List.mem_cons.mp hx with z | hx
      · rw [z]; exact (charOf_in a).1
      · rcases List.mem_cons.mp hx with z | hx
        · rw [z]; decide +kernel
        · exact (hs x (.tail _ (.tail _ hx))).1
    · rw [hl] at h
      exact (charOf_in a).2 (Option.some.inj h)
    · rw [hl, List.getLast?_cons_cons, List.getLast?_cons_cons] at h
      exact (hs 45 (.tail _ (.tail _ (List.mem_of_getLast? h)))).2 rfl
theorem label_ok (p : Pot) : OkL (labelF p).1 := by
  obtain ⟨h1, h2⟩ := labSize_lo p
  have hl := drawN_len 36 (labSize p).2 (labSize p).1.toNat
  unfold labelF
  dsimp only
  split
  · split
    · exact dash_ok (by rw [hl]; omega) (by rw [hl]; omega)
    · exact txt_ok (by rw [hl]; omega) (by rw [hl]; omega)
  · exact txt_ok (by rw [hl]; omega) (by rw [hl]; omega)
theorem label_pot {N : Nat} {p : Pot} (ok : PotOk N p) : PotOk (N + 23) (labelF p).2 := by
  obtain ⟨h1, h2⟩ := labSize_lo p
  have o2 : PotOk (N + 2) (labSize p).2 := draw_ok (draw_ok ok 20) 4
  have o3 := drawN_ok (m := 36) o2 (labSize p).1.toNat
  have o4 := draw_ok o3 3
  unfold labelF
  dsimp only
  split
  · split
    · exact o4.up (by omega)
    · exact o4.up (by omega)
  · exact o3.up (by omega)
end Rw
namespace Rw
open PySem PySem.Spec PyProof.Rows L2
variable {P : Program} {w : World} {K : PySem.W.Frag} {mg : Str → Option Value} {base : Heap}
section
variable {X : Cx} {ρ ρ1 ρ2 : List En} {a b : Expr} {rest : List Expr} {pos : Pos} {k : Bool}
theorem EW.andT (h : ET X a ρ true ρ1) (h2 : EW X (.BoolOp .And (b :: rest) pos) ρ1 k ρ2) : EW X (.BoolOp .And (a :: b :: rest) pos) ρ k ρ2 :=
  .of (pw_and pt_c pw_c) fun pp F G Hd H σ Q er kk => h pp F G Hd H σ _ er fun Hd1 H1 e1 er1 => iteT (h2 pp F G Hd1 H1 σ _ er1 fun Hd2 H2 e2 er2 => kk _ _ (e1.trans e2) er2)
theorem EW.andF (h : ET X a ρ false ρ1) : EW X (.BoolOp .And (a :: b :: rest) pos) ρ false ρ1 :=
  .of (pw_and pt_c pw_c) fun pp F G Hd H σ Q er kk => h pp F G Hd H σ _ er fun Hd1 H1 e1 er1 => iteF (kk _ _ e1 er1)
end
theorem join_gl (ks : List Int) (a : Array Nat) : (ks.map fun k => (⟨#[charOf k]⟩ : Str)).foldl (fun acc p => acc ++ ("" : Str).cps ++ p.cps) a = a ++ (ks.map charOf).toArray := by
  induction ks generalizing a with
  | nil => simp
  | cons k ks ih =>
    rw [List.map_cons, List.foldl_cons, ih, List.map_cons]
    have e : ("" : Str).cps = #[] := rfl
    rw [e]
    apply Array.toList_inj.mp
    simp
theorem join_txt (ks : List Int) : Txt.join "" (ks.map fun k => (⟨#[charOf k]⟩ : Str)) = txt ks := by
  show (⟨((ks.map fun k => (⟨#[charOf k]⟩ : Str)).drop 1).foldl (fun acc p => acc ++ ("" : Str).cps ++ p.cps) ((ks.map fun k => (⟨#[charOf k]⟩ : Str)).headD Str.empty).cps⟩ : Str) = txt ks
  cases ks with
  | nil => rfl
  | cons k ks =>
    rw [List.map_cons, List.drop_one, List.tail_cons, join_gl]
    refine congrArg Str.mk (Array.toList_inj.mp ?_)
    show (#[charOf k] ++ (ks.map charOf).toArray).toList = ((k :: ks).map charOf).toArray.toList
    simp
abbrev rLab : List Dt → List Dt → Dt → List Dt → Prop := fun pt ds d pt' => ∃ p, pt = ePot p ∧ ds = [] ∧ PotOk 900000 p ∧ d = .str (labelF p).1 ∧ pt' = ePot (labelF p).2
abbrev nLab : List Str := ["_law_pot_here", "_law_signs", "_law_size", "_law_text", "_law_turn_here"]
theorem sc_label : FnScope nLab ["_law_pot_here"] (defScope s_label) := ⟨rfl, rfl, rfl, by decide, rfl, by decide, by decide⟩
theorem label_def (B : Bs mg) (D : DefOk P w K mg base "_law_draw" 1 2 (spP P w K 1 rDraw)) (F : Fn K mg "_law_label" s_label) : DefOk P w K mg base "_law_label" 2 1 (spP P w K 0 rLab) :=
  defOkP nLab ["_law_pot_here"] F sc_label rfl (fun _ _ _ _ _ _ us h => by
    match us, h with
    | [_], _ => rfl) (by
    rintro fa cdv A outer s' H E hr pt ds d pt' hl ⟨p, rfl, rfl, ok, rfl, rfl⟩
    refine .asg (i := 1) (d := .str SG) .str ?_ sc_label.nd
    have okA := draw_ok ok 20
    refine .asg (i := 2) (d := .int (labSize p).1) (ρ1 := [.ol (ePot (labSize p).2), .dat (.str SG), .un, .un, .un]) (.ixL (.list (.cons .int (.cons .int (.cons .int (.one (.add .int (.callP (i := 0) D hr rfl ⟨_, rfl⟩ (.one .int) ⟨p, 20, rfl, rfl, ok.up (by decide), by decide, by decide, rfl, rfl⟩))))))) (.callP (i := 0) D hr rfl ⟨_, rfl⟩ (.one .int) ⟨(draw p 20).2, 4, rfl, rfl, okA.up (by decide), by decide, by decide, rfl, rfl⟩) ?_) ?_ sc_label.nd
    · have h1 := draw_lo (draw p 20).2 (m := 4) (by decide)
      have h2 := draw_hi (draw p 20).2 (m := 4) (by decide)
      show atI ([.int 1, .int 1, .int 2, .int (1 + (draw p 20).1)] : List Dt) (draw (draw p 20).2 4).1 = some (.int (([1, 1, 2, 1 + (draw p 20).1] : List Int).getD (draw (draw p 20).2 4).1.toNat 1))
      generalize (draw (draw p 20).2 4).1 = k at h1 h2 ⊢
      have hk : k = 0 ∨ k = 1 ∨ k = 2 ∨ k = 3 := by omega
      rcases hk with z | z | z | z <;> subst z <;> rfl
    have hsz := labSize_lo p
    have ok2 : PotOk (900000 + 2) (labSize p).2 := draw_ok okA 4
    have hT : labelF p = (if 2 < (labSize p).1 then (if (draw (drawN 36 (labSize p).1.toNat (labSize p).2).2 3).1 = 0 then (dash (drawN 36 (labSize p).1.toNat (labSize p).2).1, (draw (drawN 36 (labSize p).1.toNat (labSize p).2).2 3).2) else (txt (drawN 36 (labSize p).1.toNat (labSize p).2).1, (draw (drawN 36 (labSize p).1.toNat (labSize p).2).2 3).2)) else (txt (drawN 36 (labSize p).1.toNat (labSize p).2).1, (drawN 36 (labSize p).1.toNat (labSize p).2).2)) := rfl
    rw [hT]
    generalize (labSize p).1 = z at *
    generalize (labSize p).2 = q at *
    refine .asg (i := 3) (d := .str (txt (drawN 36 z.toNat q).1)) (ρ1 := [.ol (ePot (drawN 36 z.toNat q).2), .dat (.str SG), .dat (.int z), .un, .un]) (.is (.join .str (.lc (own := [("_law_turn_here", 4)]) (js := [4]) (out := ((drawN 36 z.toNat q).1.map fun k => (⟨#[charOf k]⟩ : Str)).map .str) rfl sc_label.nd (blkOk_by (by rfl)) (.range B.range (.var (i := 2) rfl) (by omega) (by omega))
      (fun i acc ρ => acc = ((drawN 36 i q).1.map fun k => (⟨#[charOf k]⟩ : Str)).map .str ∧ ρ = [.ol (ePot (drawN 36 i q).2), .dat (.str SG), .dat (.int z), .un, .un]) ⟨rfl, rfl⟩ (by decide) (by decide) ?_ (fun i acc d ρ hi hl' hP => ?_) (fun acc ρ hP => ?_)) ?_) ?_) ?_ sc_label.nd
    · unfold intsTo; rw [List.length_map, List.length_range, sizeLine_eq]; omega
    · obtain ⟨rfl, rfl⟩ := hP
      have oki := drawN_ok (m := 36) ok2 i
      have hi2 : i < z.toNat := by
        have := (List.getElem?_eq_some_iff.mp hi).1
        unfold intsTo at this
        rw [List.length_map, List.length_range] at this
        exact this
      refine ⟨_, fun _ _ _ _ _ => .name (i := 4) sc_label.nd, true, _, fun _ _ _ _ _ => ⟨rfl, rfl⟩, fun _ => ⟨.str ⟨#[charOf (draw (drawN 36 i q).2 36).1]⟩, [.ol (ePot (drawN 36 (i + 1) q).2), .dat (.str SG), .dat (.int z), .un, .dat d], [.ol (ePot (drawN 36 (i + 1) q).2), .dat (.str SG), .dat (.int z), .un, .un], fun _ _ _ _ _ => .ixS (s := SG) (.var (i := 1) rfl) (.callP (i := 0) D hr rfl ⟨_, rfl⟩ (.one .int) ⟨(drawN 36 i q).2, 36, rfl, rfl, oki.up (by omega), by decide, by decide, rfl, rfl⟩) (by decide +kernel) (charOf_at (draw_lo _ (by decide)) (draw_hi _ (by decide))), ?_, ?_, rfl⟩, fun e => by cases e⟩
      · refine ⟨rfl, rfl, fun k e hk => ?_⟩
        match k, hk with
        | 0, hk => exact .inr ⟨by decide, hk⟩
        | 1, hk => exact .inr ⟨by decide, hk⟩
        | 2, hk => exact .inr ⟨by decide, hk⟩
        | 3, hk => exact .inr ⟨by decide, hk⟩
        | 4, hk => cases hk; exact .inl ⟨by decide, rfl, rfl⟩
      · show _ = (((drawN 36 i q).1 ++ [(draw (drawN 36 i q).2 36).1]).map fun k => (⟨#[charOf k]⟩ : Str)).map Dt.str
        rw [List.map_append, List.map_append]
        rfl
    · obtain ⟨rfl, rfl⟩ := hP
      unfold intsTo
      rw [List.length_map, List.length_range]
      exact ⟨rfl, rfl⟩
    · rw [List.map_map, List.length_map, drawN_len]
      have h0 : (("" : Str)).length = 0 := rfl
      have h1 : ((drawN 36 z.toNat q).1.map ((fun x : Str => x.length) ∘ fun k => (⟨#[charOf k]⟩ : Str))).sum = (drawN 36 z.toNat q).1.length := by
        generalize (drawN 36 z.toNat q).1 = ks
        induction ks with
        | nil => rfl
        | cons k ks ih => rw [List.map_cons, List.sum_cons, ih, List.length_cons]; show 1 + _ = _; omega
      rw [h1, drawN_len, h0]
      omega
    · rw [join_txt]
    · have okT := drawN_ok (m := 36) ok2 z.toNat
      have hlen := drawN_len 36 q z.toNat
      generalize drawN 36 z.toNat q = T at okT hlen ⊢
      by_cases h2 : 2 < z
      · rw [if_pos h2]
        by_cases h3 : (draw T.2 3).1 = 0
        · rw [if_pos h3]
          refine .take (.w (.andT (.is (.cmp (.gt (.var (i := 2) rfl) .int)) (by simp [h2])) (.and1 (.cmp (.eqI (.callP (i := 0) D hr rfl ⟨_, rfl⟩ (.one .int) ⟨T.2, 3, rfl, rfl, okT.up (by omega), by decide, by decide, rfl, rfl⟩) .int))))) (by rw [h3]; rfl) ?_
          have hj : (dash T.1) = (⟨((txt T.1).cps.toList.take (1 : Nat)).toArray⟩ : Str) ++ ("-" : Str) ++ ⟨((txt T.1).cps.toList.drop (2 : Nat)).toArray⟩ := by
            show (⟨_⟩ : Str) = ⟨((⟨((txt T.1).cps.toList.take 1).toArray⟩ : Str).cps ++ ("-" : Str).cps) ++ ((txt T.1).cps.toList.drop 2).toArray⟩
            refine congrArg Str.mk (Array.toList_inj.mp ?_)
            have e : ("-" : Str).cps = #[45] := rfl
            rw [e]
            simp [txt]
          have hlT : (txt T.1).length ≤ 20 := (txt_ok (by omega) (by omega)).hi
          have hl1 : ((txt T.1).cps.toList.take 1).toArray.size ≤ 20 := by rw [List.size_toArray, List.length_take]; omega
          have hl2 : ((txt T.1).cps.toList.drop 2).toArray.size ≤ 20 := by rw [List.size_toArray, List.length_drop, Array.length_toList]; have : (txt T.1).cps.size ≤ 20 := hlT; omega
          refine .ret (.is (.addS (.addS (.sTo (n := 1) (.var (i := 3) rfl) .int (by rw [sizeLine_eq]; omega)) .str (by rw [sizeLine_eq]; show ((txt T.1).cps.toList.take 1).toArray.size + 1 ≤ _; omega)) (.sFrom (n := 2) (.var (i := 3) rfl) .int (by rw [sizeLine_eq]; omega)) (by rw [sizeLine_eq]; show (((txt T.1).cps.toList.take 1).toArray ++ #[45]).size + ((txt T.1).cps.toList.drop 2).toArray.size ≤ _; rw [Array.size_append]; show _ + 1 + _ ≤ _; omega)) (by rw [hj])) ⟨rfl, rfl⟩
        · rw [if_neg h3]
          refine .skip (.w (.andT (.is (.cmp (.gt (.var (i := 2) rfl) .int)) (by simp [h2])) (.and1 (.cmp (.eqI (.callP (i := 0) D hr rfl ⟨_, rfl⟩ (.one .int) ⟨T.2, 3, rfl, rfl, okT.up (by omega), by decide, by decide, rfl, rfl⟩) .int))))) (decide_eq_false h3) ?_
          exact .ret (.var (i := 3) rfl) ⟨rfl, rfl⟩
      · rw [if_neg h2]
        refine .skip (.w (.andF (.is (.cmp (.gt (.var (i := 2) rfl) .int)) (decide_eq_false h2)))) rfl ?_
        exact .ret (.var (i := 3) rfl) ⟨rfl, rfl⟩)
end Rw
namespace Rw
open PySem PySem.Spec PyProof.Rows L2
variable {P : Program} {w : World} {K : PySem.W.Frag} {mg : Str → Option Value} {base : Heap}
section
variable {X : Cx} {ρ ρ1 : List En} {e : Expr} {p0 px pos : Pos} {m : Int} {N : Nat} {p : Pot}
/-- a draw -/
theorem EV.drw (D : XDef X "_law_draw" 1 2 (spP X.prog X.w X.K 1 rDraw)) (hr : Room 1 X.A) (he : EV X e ρ (.int m) ρ1) (hi : ρ1[0]? = some (.ol (ePot p))) (hi0 : ∃ pt0, ρ[0]? = some (.ol pt0)) (ok : PotOk N p) (hN : N ≤ 1000000) (h0 : 0 < m) (h1 : m ≤ 1000000001) (hg : Gl X "_law_draw" := by rfl)
    (hst : starEach (.Name "_law_pot_here" px :: [e]) X.env = (false, eval (.Name "_law_pot_here" px) X.env) :: starEach [e] X.env := by rfl) (hpl : (backTo pos (starEach [e] X.env)).any (·.1) = false := by rfl)
    (hse : starEach (e :: []) X.env = (false, eval e X.env) :: starEach [] X.env := by rfl)
    (hn : X.N[0]? = some ("_law_pot_here" : Str) := by rfl) (hv : Vis X.env.scope ("_law_pot_here" : Str) := by first | exact Or.inl rfl | exact Or.inr (Or.inl rfl) | exact Or.inr (Or.inr rfl)) :
    EV X (.Call (.Name "_law_draw" p0) [.Name "_law_pot_here" px, e] [] pos) ρ (.int (draw p m).1) (ρ1.set 0 (.ol (ePot (draw p m).2))) :=
  .callP (i := 0) D hr hi hi0 (.one he hse) ⟨p, m, rfl, rfl, ok.up hN, h0, h1, rfl, rfl⟩ rfl hg (by decide) hst hpl hn hv
end
def pick {α : Type} (xs : List α) (z : α) (k : Int) : α := xs.getD k.toNat z
theorem pick_mem {α : Type} (xs : List α) (z : α) (k : Int) : pick xs z k ∈ z :: xs := by
  unfold pick
  rw [List.getD_eq_getElem?_getD]
  cases h : xs[k.toNat]? with
  | none => exact .head _
  | some c => exact .tail _ (List.mem_of_getElem? h)
theorem pick_in {α : Type} {xs : List α} (z : α) {k : Int} (h0 : 0 ≤ k) (h1 : k < xs.length) : pick xs z k ∈ xs := by
  unfold pick
  rw [List.getD_eq_getElem?_getD, List.getElem?_eq_getElem (show k.toNat < xs.length by omega)]
  exact List.getElem_mem _
theorem atI_pick {α : Type} (f : α → Dt) (xs : List α) (z : α) {k : Int} (h0 : 0 ≤ k) (h1 : k < xs.length) : atI (xs.map f) k = some (f (pick xs z k)) := by
  obtain ⟨n, rfl⟩ : ∃ n : Nat, k = n := ⟨k.toNat, by omega⟩
  have hl : n < xs.length := by omega
  unfold pick
  rw [Int.toNat_natCast, List.getD_eq_getElem?_getD, List.getElem?_eq_getElem hl]
  refine atI_nat ?_
  rw [List.getElem?_map, List.getElem?_eq_getElem hl]
  rfl
abbrev s_policy : Stmt := topS 104
def polLow (p : Pot) : Int × Pot :=
  let a := draw p 9
  let b := draw a.2 1000000001
  let c := draw b.2 5
  (pick [0, 0, 1, a.1, b.1] 0 c.1, c.2)
def polHigh (low : Int) (p : Pot) : Int × Pot :=
  let a := draw p 12
  let b := draw a.2 4
  (pick [low, low + 1, low + a.1, 1000000000] low b.1, b.2)
def polF (p : Pot) : (Int × Int) × Pot :=
  let l := polLow p
  let h := polHigh l.1 l.2
  ((l.1, max 1 (min 1000000000 h.1)), h.2)
theorem polLow_b (p : Pot) : 0 ≤ (polLow p).1 ∧ (polLow p).1 ≤ 1000000000 := by
  have a0 := draw_lo p (m := 9) (by decide)
  have a1 := draw_hi p (m := 9) (by decide)
  have b0 := draw_lo (draw p 9).2 (m := 1000000001) (by decide)
  have b1 := draw_hi (draw p 9).2 (m := 1000000001) (by decide)
  have h := pick_mem [0, 0, 1, (draw p 9).1, (draw (draw p 9).2 1000000001).1] 0 (draw (draw (draw p 9).2 1000000001).2 5).1
  show 0 ≤ pick _ _ _ ∧ pick _ _ _ ≤ _
  generalize pick _ _ _ = x at h
  simp only [List.mem_cons, List.not_mem_nil, or_false] at h
  omega
theorem polHigh_b (low : Int) (p : Pot) (h : low ≤ 1000000000) : low ≤ (polHigh low p).1 := by
  have a0 := draw_lo p (m := 12) (by decide)
  have h := pick_mem [low, low + 1, low + (draw p 12).1, 1000000000] low (draw (draw p 12).2 4).1
  show low ≤ pick _ _ _
  generalize pick _ _ _ = x at h
  simp only [List.mem_cons, List.not_mem_nil, or_false] at h
  omega
theorem pol_ok (p : Pot) : OkPol (polF p).1.1 (polF p).1.2 := by
  obtain ⟨h1, h2⟩ := polLow_b p
  have h3 := polHigh_b (polLow p).1 (polLow p).2 h2
  show OkPol (polLow p).1 (max 1 (min 1000000000 (polHigh (polLow p).1 (polLow p).2).1))
  generalize (polHigh (polLow p).1 (polLow p).2).1 = x at *
  exact ⟨h1, by omega, by omega⟩
theorem polLow_pot {N : Nat} {p : Pot} (ok : PotOk N p) : PotOk (N + 3) (polLow p).2 := draw_ok (draw_ok (draw_ok ok 9) 1000000001) 5
theorem polHigh_pot {N : Nat} {p : Pot} (low : Int) (ok : PotOk N p) : PotOk (N + 2) (polHigh low p).2 := draw_ok (draw_ok ok 12) 4
theorem pol_pot {N : Nat} {p : Pot} (ok : PotOk N p) : PotOk (N + 5) (polF p).2 := polHigh_pot (polLow p).1 (polLow_pot ok)
abbrev rPolF : List Dt → List Dt → Dt → List Dt → Prop := fun pt ds d pt' => ∃ p, pt = ePot p ∧ ds = [] ∧ PotOk 900000 p ∧ d = ePol (polF p).1.1 (polF p).1.2 ∧ pt' = ePot (polF p).2
abbrev nPo : List Str := ["_law_pot_here", "_law_low", "_law_high"]
theorem sc_policy : FnScope nPo ["_law_pot_here"] (defScope s_policy) := ⟨rfl, rfl, rfl, by decide, rfl, by decide, by decide⟩
theorem policy_def (B : Bs mg) (D : DefOk P w K mg base "_law_draw" 1 2 (spP P w K 1 rDraw)) (F : Fn K mg "_law_policy" s_policy) : DefOk P w K mg base "_law_policy" 2 1 (spP P w K 0 rPolF) :=
  defOkP nPo ["_law_pot_here"] F sc_policy rfl (fun _ _ _ _ _ _ us h => by
    match us, h with
    | [_], _ => rfl) (by
    rintro fa cdv A outer s' H E hr pt ds d pt' hl ⟨p, rfl, rfl, ok, rfl, rfl⟩
    have ok1 := draw_ok ok 9
    have ok2 := draw_ok ok1 1000000001
    refine .asg (i := 1) (d := .int (polLow p).1) (ρ1 := [.ol (ePot (polLow p).2), .un, .un]) (.ixL (.list (.cons .int (.cons .int (.cons .int (.cons (.drw D hr .int rfl ⟨_, rfl⟩ ok (by decide) (by decide) (by decide)) (.one (.drw D hr (m := 1000000001) (.is (.add (.pow .int .int ⟨by decide, by decide +kernel⟩) .int) rfl) rfl ⟨_, rfl⟩ ok1 (by decide) (by decide) (by decide)))))))) (.drw D hr .int rfl ⟨_, rfl⟩ ok2 (by decide) (by decide) (by decide)) (atI_pick .int [0, 0, 1, (draw p 9).1, (draw (draw p 9).2 1000000001).1] 0 (draw_lo _ (by decide)) (draw_hi _ (by decide)))) ?_ sc_policy.nd
    have okL := polLow_pot ok
    have hP : polF p = (((polLow p).1, max 1 (min 1000000000 (polHigh (polLow p).1 (polLow p).2).1)), (polHigh (polLow p).1 (polLow p).2).2) := rfl
    rw [hP]
    generalize (polLow p).2 = q at *
    generalize (polLow p).1 = l at *
    have ok3 := draw_ok okL 12
    refine .asg (i := 2) (d := .int (polHigh l q).1) (ρ1 := [.ol (ePot (polHigh l q).2), .dat (.int l), .un]) (.ixL (.list (.cons (.var (i := 1) rfl) (.cons (.add (.var (i := 1) rfl) .int) (.cons (.add (.var (i := 1) rfl) (.drw D hr .int rfl ⟨_, rfl⟩ okL (by decide) (by decide) (by decide))) (.one (.is (.pow .int .int ⟨by decide, by decide +kernel⟩) (d1 := .int 1000000000) rfl)))))) (.drw D hr .int rfl ⟨_, rfl⟩ ok3 (by decide) (by decide) (by decide)) (atI_pick .int [l, l + 1, l + (draw q 12).1, 1000000000] l (draw_lo _ (by decide)) (draw_hi _ (by decide)))) ?_ sc_policy.nd
    refine .ret (.tup (.cons (.var (i := 1) rfl) (.one (.is (.max2 rfl B.max (.cons .int (.one (.is (.min2 rfl B.min (.cons (.is (.pow .int .int ⟨by decide, by decide +kernel⟩) (d1 := .int 1000000000) rfl) (.one (.var (i := 2) rfl)))) (congrArg Dt.int (min_is _ _)))))) (congrArg Dt.int (max_is _ _)))))) ⟨rfl, rfl⟩)
end Rw
namespace Rw
open PySem PySem.Spec PyProof.Rows L2
variable {P : Program} {w : World} {K : PySem.W.Frag} {mg : Str → Option Value} {base : Heap}
abbrev s_names : Stmt := topS 106
def cTx (i : Nat) : Str := ("c" : Str) ++ toString (i : Int)
def cK (i : Nat) : Nm := ["c", cTx i]
def okLb (s : Str) : Bool := decide (1 ≤ s.length) && decide (s.length ≤ 20) && s.cps.toList.all (fun c => decide (c ∈ SIGNS.cps.toList)) && decide (s.cps.toList.head? ≠ some 45) && decide (s.cps.toList.getLast? ≠ some 45)
theorem okLb_ok {s : Str} (h : okLb s = true) : OkL s := by
  unfold okLb at h
  simp only [Bool.and_eq_true, decide_eq_true_eq, List.all_eq_true] at h
  exact ⟨h.1.1.1.1, h.1.1.1.2, h.1.1.2, h.1.2, h.2⟩
theorem ok_b : OkL "b" := okLb_ok (by decide +kernel)
theorem ok_c : OkL "c" := okLb_ok (by decide +kernel)
theorem cTx_all : ∀ i < 6, okLb (cTx i) = true ∧ (cTx i).length ≤ 2 := by decide +kernel
theorem cK_ok {i : Nat} (h : i < 6) : OkN (cK i) := fun l hl => by
  unfold cK at hl
  rcases List.mem_cons.mp hl with z | hl
  · rw [z]; exact ok_c
  · rw [List.mem_singleton.mp hl]; exact okLb_ok (cTx_all i h).1
theorem cTx_nd : ∀ m < 7, ((List.range m).map cTx).Nodup := by decide +kernel
theorem cK_nd {m : Nat} (h : m ≤ 6) : ((List.range m).map cK).Nodup := by
  have e : ((List.range m).map cK).map (fun n => n.getD 1 "") = (List.range m).map cTx := by
    rw [List.map_map]
    rfl
  have h2 := cTx_nd m (by omega)
  rw [← e] at h2
  exact List.Pairwise.of_map (fun n : Nm => n.getD 1 "") (fun a b h z => h (congrArg (fun n : Nm => n.getD 1 "") z)) h2
def cand2 (l : Str) (k : Int) : List Nm := if k = 0 then [[l], [l, "b"]] else [[l, "b"], [l]]
def cands (l : Str) (k : Int) (many : Nat) : List Nm := cand2 l k ++ (List.range many).map cK
def newName (found : List Nm) (l : Str) (k : Int) (many : Nat) : Nm := ((cands l k many).filter fun n => decide (n ∉ found)).headD []
theorem cand2_ok {l : Str} (h : OkL l) (k : Int) : ∀ n ∈ cand2 l k, OkN n ∧ n ≠ [] ∧ n.length ≤ 2 := by
  have h1 : OkN [l] := fun x hx => by rw [List.mem_singleton.mp hx]; exact h
  have h2 : OkN [l, "b"] := fun x hx => by
    rcases List.mem_cons.mp hx with z | hx
    · rw [z]; exact h
    · rw [List.mem_singleton.mp hx]; exact ok_b
  intro n hn
  unfold cand2 at hn
  split at hn
  · rcases List.mem_cons.mp hn with z | hn
    · subst z; exact ⟨h1, by simp, by simp⟩
    · rw [List.mem_singleton.mp hn]; exact ⟨h2, by simp, by simp⟩
  · rcases List.mem_cons.mp hn with z | hn
    · subst z; exact ⟨h2, by simp, by simp⟩
    · rw [List.mem_singleton.mp hn]; exact ⟨h1, by simp, by simp⟩
theorem cand2_len (l : Str) (k : Int) : (cand2 l k).length = 2 := by unfold cand2; split <;> rfl
theorem cands_ok {l : Str} (h : OkL l) (k : Int) {many : Nat} (hm : many ≤ 6) : ∀ n ∈ cands l k many, OkN n ∧ n ≠ [] ∧ n.length ≤ 2 := fun n hn => by
  rcases List.mem_append.mp hn with z | z
  · exact cand2_ok h k n z
  · obtain ⟨i, hi, rfl⟩ := List.mem_map.mp z
    exact ⟨cK_ok (by have := List.mem_range.mp hi; omega), by unfold cK; simp, by unfold cK; simp⟩
theorem new_head {found : List Nm} {l : Str} {k : Int} {many : Nat} (hm : many ≤ 6) (hf : found.length < many) : ∃ r, (cands l k many).filter (fun n => decide (n ∉ found)) = newName found l k many :: r := by
  cases h : (cands l k many).filter (fun n => decide (n ∉ found)) with
  | cons a r => exact ⟨r, by unfold newName; rw [h]; rfl⟩
  | nil =>
    exfalso
    have hall : ∀ n ∈ (List.range many).map cK, n ∈ found := fun n hn => by
      have h2 := List.filter_eq_nil_iff.mp h n (List.mem_append_right _ hn)
      simpa using h2
    have := nodup_sub_len (cK_nd hm) hall
    rw [List.length_map, List.length_range] at this
    omega
theorem new_mem {found : List Nm} {l : Str} {k : Int} {many : Nat} (hm : many ≤ 6) (hf : found.length < many) : newName found l k many ∈ cands l k many ∧ newName found l k many ∉ found := by
  obtain ⟨r, h⟩ := new_head (l := l) (k := k) hm hf
  have h2 : newName found l k many ∈ (cands l k many).filter (fun n => decide (n ∉ found)) := by rw [h]; exact .head _
  have h3 := List.mem_filter.mp h2
  exact ⟨h3.1, of_decide_eq_true h3.2⟩
def namesAt (many : Nat) : Nat → Pot → List Nm × Pot
  | 0, p => ([], p)
  | i + 1, p =>
    let r := namesAt many i p
    let l := labelF r.2
    let d := draw l.2 2
    (r.1 ++ [newName r.1 l.1 d.1 many], d.2)
theorem namesAt_len (many : Nat) (p : Pot) : ∀ i, (namesAt many i p).1.length = i
  | 0 => rfl
  | i + 1 => by show ((namesAt many i p).1 ++ [_]).length = _; rw [List.length_append, namesAt_len many p i]; rfl
theorem namesAt_ok {many : Nat} (hm : many ≤ 6) (p : Pot) : ∀ i, i ≤ many → (namesAt many i p).1.Nodup ∧ ∀ n ∈ (namesAt many i p).1, OkN n ∧ n ≠ [] ∧ n.length ≤ 2
  | 0, _ => ⟨.nil, fun n hn => nomatch hn⟩
  | i + 1, hi => by
    obtain ⟨h1, h2⟩ := namesAt_ok hm p i (by omega)
    obtain ⟨h3, h4⟩ := new_mem (found := (namesAt many i p).1) (l := (labelF (namesAt many i p).2).1) (k := (draw (labelF (namesAt many i p).2).2 2).1) hm (by rw [namesAt_len]; omega)
    have e : (namesAt many (i + 1) p).1 = (namesAt many i p).1 ++ [newName (namesAt many i p).1 (labelF (namesAt many i p).2).1 (draw (labelF (namesAt many i p).2).2 2).1 many] := rfl
    rw [e]
    refine ⟨List.nodup_append.mpr ⟨h1, by simp, fun a ha b hb => ?_⟩, fun n hn => ?_⟩
    · rw [List.mem_singleton.mp hb]
      intro z
      rw [z] at ha
      exact h4 ha
    · rcases List.mem_append.mp hn with z | z
      · exact h2 n z
      · rw [List.mem_singleton.mp z]
        exact cands_ok (label_ok _) _ hm _ h3
theorem namesAt_pot {N many : Nat} {p : Pot} (ok : PotOk N p) : ∀ i, PotOk (N + 24 * i) (namesAt many i p).2
  | 0 => ok
  | i + 1 => by
    have h := draw_ok (label_pot (namesAt_pot (many := many) ok i)) 2
    exact h.up (by omega)
abbrev rNam : List Dt → List Dt → Dt → List Dt → Prop := fun pt ds d pt' => ∃ p many, pt = ePot p ∧ ds = [.int (many : Nat)] ∧ many ≤ 6 ∧ PotOk 800000 p ∧ d = .lst ((namesAt many many p).1.map eN) ∧ pt' = ePot (namesAt many many p).2
abbrev nNa : List Str := ["_law_pot_here", "_law_many", "_law_found", "_law_turn_here", "_law_label_here", "_law_menu", "_law_one", "_law_k"]
theorem sc_names : FnScope nNa ["_law_pot_here", "_law_many"] (defScope s_names) := ⟨rfl, rfl, rfl, by decide, rfl, by decide, by decide⟩
theorem range_fm {many : Nat} {g : Dt → Option Dt} {f : Nat → Dt} (h : ∀ i : Nat, g (.int (i : Int)) = some (f i)) : (intsTo many).filterMap g = (List.range many).map f := by
  unfold intsTo
  rw [List.filterMap_map]
  refine (congrArg (fun z => List.filterMap z (List.range many)) (funext h)).trans (filterMap_some f _)
theorem names_def (B : Bs mg) (D : DefOk P w K mg base "_law_draw" 1 2 (spP P w K 1 rDraw)) (DL : DefOk P w K mg base "_law_label" 2 1 (spP P w K 0 rLab)) (F : Fn K mg "_law_names" s_names) : DefOk P w K mg base "_law_names" 3 2 (spP P w K 1 rNam) :=
  defOkP nNa ["_law_pot_here", "_law_many"] F sc_names rfl (fun _ _ _ _ _ _ us h => by
    match us, h with
    | [_, _], _ => rfl) (by
    rintro fa cdv A outer s' H E hr pt ds d pt' hl ⟨p, many, rfl, rfl, hm, ok, rfl, rfl⟩
    have hr1 := hr.mono (show 1 ≤ 2 by decide)
    refine .newL (i := 2) ?_ sc_names.nd
    refine .for rfl (.range B.range (.var (i := 1) rfl) (by omega) (by omega)) (fun i ρ => ∃ e3 e4 e5, ρ = [.ol (ePot (namesAt many i p).2), .dat (.int (many : Nat)), .ol ((namesAt many i p).1.map eN), e3, e4, e5, .un, .un] ∧ isOwn e3 = false ∧ isOwn e4 = false ∧ isOwn e5 = false) ⟨.un, .un, .un, rfl, rfl, rfl, rfl⟩ (fun i d ρ hi' hI => ?_) (fun ρ hI => ?_)
    · obtain ⟨e3, e4, e5, rfl, h3, h4, h5⟩ := hI
      have hi6 : i < many := by
        unfold intsTo at hi'
        have := (List.getElem?_eq_some_iff.mp hi').1
        rw [List.length_map, List.length_range] at this
        omega
      have okp := namesAt_pot (many := many) ok i
      obtain ⟨nd, hok⟩ := namesAt_ok hm p i (by omega)
      have hlen := namesAt_len many p i
      have eN1 : (namesAt many (i + 1) p) = ((namesAt many i p).1 ++ [newName (namesAt many i p).1 (labelF (namesAt many i p).2).1 (draw (labelF (namesAt many i p).2).2 2).1 many], (draw (labelF (namesAt many i p).2).2 2).2) := rfl
      rw [eN1]
      generalize (namesAt many i p).2 = q at *
      generalize (namesAt many i p).1 = fo at *
      have okl := label_pot okp
      have hlab := label_ok q
      refine ⟨_, _, .name (i := 3) sc_names.nd, ?_⟩
      refine .asg (i := 4) (d := .str (labelF q).1) (ρ1 := [.ol (ePot (labelF q).2), .dat (.int (many : Nat)), .ol (fo.map eN), .dat d, e4, e5, .un, .un]) (.callP (i := 0) DL hr rfl ⟨_, rfl⟩ .nil ⟨q, rfl, rfl, okp.up (by omega), rfl, rfl⟩) ?_ sc_names.nd
      generalize (labelF q).2 = q2 at *
      generalize (labelF q).1 = lab at *
      refine .asg (i := 5) (d := .lst ((cand2 lab (draw q2 2).1).map eN)) (ρ1 := [.ol (ePot (draw q2 2).2), .dat (.int (many : Nat)), .ol (fo.map eN), .dat d, .dat (.str lab), e5, .un, .un]) (.ifE (.cmp (.eqI (.drw D hr1 .int rfl ⟨_, rfl⟩ okl (by omega) (by decide) (by decide)) .int)) (fun h => ?_) fun h => ?_) ?_ sc_names.nd
      · unfold cand2
        rw [if_pos (of_decide_eq_true h)]
        exact .list (.cons (.tup (.one (.var (i := 4) rfl))) (.one (.tup (.cons (.var (i := 4) rfl) (.one .str)))))
      · unfold cand2
        rw [if_neg (of_decide_eq_false h)]
        exact .list (.cons (.tup (.cons (.var (i := 4) rfl) (.one .str))) (.one (.tup (.one (.var (i := 4) rfl)))))
      generalize hk : (draw q2 2).1 = k
      have hcok := cands_ok hlab k hm
      have hc2 := cand2_len lab k
      obtain ⟨r, hr2⟩ := new_head (found := fo) (l := lab) (k := k) hm (by omega)
      refine .app (i := 2) (d := eN (newName fo lab k many)) (ρ1 := [.ol (ePot (draw q2 2).2), .dat (.int (many : Nat)), .ol (fo.map eN), .dat d, .dat (.str lab), .dat (.lst ((cand2 lab k).map eN)), .un, .un]) rfl (.ixL (ds := ((cands lab k many).filter fun n => decide (n ∉ fo)).map eN) (.is (.lcF [("_law_one", 6)] [6] (fun d => if ind d (fo.map eN) = true then none else some d) rfl sc_names.nd (.list (ds := (cands lab k many).map eN) (.is (.addL (.var (i := 5) rfl) (.lcF [("_law_k", 7)] [7] (fun d => match d with | .int k => some (.tup [.str "c", .str (("c" : Str) ++ toString k)]) | _ => none) rfl sc_names.nd (.range B.range (.var (i := 1) rfl) (by omega) (by omega)) ?_ fun d hd => ?_) ?_) ?_)) ?_ fun d hd => ?_) ?_) .int (by rw [hr2]; exact atI_nat (n := 0) rfl)) rfl ?_ (.nil ⟨.dat d, .dat (.str lab), .dat (.lst ((cand2 lab k).map eN)), ?_, rfl, rfl, rfl⟩)
      · unfold intsTo; rw [List.length_map, List.length_range, sizeLine_eq]; omega
      · unfold intsTo at hd
        obtain ⟨j, hj, rfl⟩ := List.mem_map.mp hd
        have hj6 := List.mem_range.mp hj
        refine .map (fun _ _ _ _ _ => .name sc_names.nd) (Agree.wiped.set (by decide)) rfl fun _ _ _ _ _ => .tup (.cons .str (.one (.addS .str (.toStr B.str (.var (i := 7) rfl) ?_) ?_)))
        · exact Nat.lt_of_le_of_lt (Nat.log2_le_self _) (by omega)
        · have : (cTx j).length ≤ 2 := (cTx_all j (by omega)).2
          have e : (cTx j).length = ("c" : Str).length + ((toString (j : Int) : String) : Str).length := by
            show (("c" : Str).cps ++ _).size = _
            rw [Array.size_append]
            rfl
          rw [sizeLine_eq]
          omega
      · rw [List.length_map, hc2, range_fm (f := fun j => .tup [.str "c", .str (cTx j)]) (fun j => rfl), List.length_map, List.length_range, sizeLine_eq]
        omega
      · rw [range_fm (f := fun j => eN (cK j)) (fun j => rfl)]
        unfold cands
        rw [List.map_append, List.map_map]
        rfl
      · rw [List.length_map]
        unfold cands
        rw [List.length_append, hc2, List.length_map, List.length_range, sizeLine_eq]
        omega
      · obtain ⟨n, hn, rfl⟩ := List.mem_map.mp hd
        have hb := (hcok n hn).1
        refine .if (b := !ind (eN n) (fo.map eN)) (fun _ _ _ _ _ => .name sc_names.nd) (Agree.wiped.set (by decide)) (fun _ _ _ _ _ => .lend (n := 2) rfl (.cmp (.ninD hr1 (.var (i := 6) rfl) (.var (i := 2) rfl) (plain_of _ (nobl_eN hb)) ?_ (by rw [dep_eN]; decide) ?_))) (fun h => ?_) fun h => ⟨eN n, ?_, fun _ _ _ _ _ => .var (i := 6) rfl⟩
        · rw [plains_all, List.all_map, List.all_eq_true]
          exact fun x hx => plain_of _ (nobl_eN (hok x hx).1)
        · have := deps_eNs fo
          show deps (fo.map eN) + 1 ≤ 64
          omega
        · rw [if_pos (by simpa using h)]
        · rw [if_neg (by simpa using h)]
      · rw [List.filterMap_map]
        refine congrArg Dt.lst ?_
        have : ∀ l : List Nm, (∀ n ∈ l, OkN n) → l.filterMap ((fun d => if ind d (fo.map eN) = true then none else some d) ∘ eN) = (l.filter fun n => decide (n ∉ fo)).map eN := by
          intro l
          induction l with
          | nil => exact fun _ => rfl
          | cons n l ih =>
            intro hl
            have e := ind_map (e := eN) (fun a b => eN_inj) (nobl_eN (hl n (.head _))) (l := fo) fun y hy => nobl_eN (hok y hy).1
            have ih' := ih fun x hx => hl x (.tail _ hx)
            rw [List.filterMap_cons, List.filter_cons]
            by_cases hn : n ∈ fo
            · have e1 : ((fun d => if ind d (fo.map eN) = true then none else some d) ∘ eN) n = none := by
                show (if ind (eN n) (fo.map eN) = true then none else some (eN n)) = none
                rw [e]; simp [hn]
              rw [e1, if_neg (by simp [hn])]
              exact ih'
            · have e1 : ((fun d => if ind d (fo.map eN) = true then none else some d) ∘ eN) n = some (eN n) := by
                show (if ind (eN n) (fo.map eN) = true then none else some (eN n)) = some (eN n)
                rw [e]; simp [hn]
              rw [e1, if_pos (by simp [hn]), List.map_cons]
              exact congrArg _ ih'
        exact this _ fun n hn => (hcok n hn).1
      · rw [List.length_map, sizeLine_eq]; omega
      · rw [List.map_append]
        rfl
    · obtain ⟨e3, e4, e5, rfl, _⟩ := hI
      refine .ret (.own (i := 2) rfl) ?_
      unfold intsTo
      rw [List.length_map, List.length_range, Int.toNat_natCast]
      exact ⟨rfl, rfl⟩)
end Rw
namespace Rw
open PySem PySem.Spec PyProof.Rows L2
/-! the plain part of _law_story -/
abbrev s_story : Stmt := topS 107
def ageF (p : Pot) : Int × Pot :=
  let a := draw p 12
  let b := draw a.2 12
  let c := draw b.2 4
  (pick [0, 1, 1 + a.1, 1 + b.1] 0 c.1, c.2)
def gapF (p : Pot) : Int × Pot :=
  let a := draw p 4
  let b := draw a.2 12
  let c := draw b.2 3
  (1 + pick [0, a.1, b.1] 0 c.1, c.2)
def ageW (ag : Int) (p : Pot) : Int × Pot :=
  let a := draw p 1000000001
  let b := draw a.2 3
  (pick [ag, a.1, 1000000000] 0 b.1, b.2)
def gapW (gp : Int) (p : Pot) : Int × Pot :=
  let a := draw p 1000000000
  let b := draw a.2 2
  (pick [gp, 1 + a.1] 1 b.1, b.2)
def wideF (wide ag gp : Int) (p : Pot) : (Int × Int) × Pot :=
  if wide = 0 then (((ageW ag p).1, (gapW gp (ageW ag p).2).1), (gapW gp (ageW ag p).2).2) else ((ag, gp), p)
def rowsW (p : Pot) : Str × Pot := (pick (["one", "other", "z"] : List Str) "z" (draw p 3).1, (draw p 3).2)
def valF (ns : List Nm) (s : Str) (p : Pot) : Vl × Pot :=
  let t := draw p 3
  if 0 < t.1 then
    let q := draw t.2 ns.length
    (.to (pick ns [] q.1), q.2)
  else (.rows s, t.2)
def tlStep (ns : List Nm) (wide : Int) (st : Int × Tl × Pot) : Int × Tl × Pot :=
  let a := ageF st.2.2
  let g := gapF a.2
  let w := wideF wide a.1 g.1 g.2
  let r := rowsW w.2
  let v := valF ns r.1 r.2
  (st.1 + w.1.2, st.2.1 ++ [(st.1, w.1.1, v.1)], v.2)
def tlAt (ns : List Nm) (wide : Int) (p : Pot) : Nat → Int × Tl × Pot
  | 0 => (0, [], p)
  | i + 1 => tlStep ns wide (tlAt ns wide p i)
def manyF (big lg : Bool) (p : Pot) : Int × Pot :=
  let a := draw p 3
  if big = true then (if lg = true then (4 + (draw a.2 5).1, (draw a.2 5).2) else (1 + (draw a.2 2).1, (draw a.2 2).2)) else (1 + a.1, a.2)
def stAt (ns : List Nm) (wide : Int) (long : Nm) (big : Bool) (p : Pot) : Nat → Story × Pot
  | 0 => ([], p)
  | i + 1 =>
    let r := stAt ns wide long big p i
    match ns[i]? with
    | none => r
    | some n =>
      let m := manyF big (decide (n = long)) r.2
      let t := tlAt ns wide m.2 m.1.toNat
      (r.1 ++ [(n, t.2.1)], t.2.2)
def storyF (ns : List Nm) (big : Bool) (p : Pot) : Story × Pot :=
  let w := draw p 4
  let l := draw w.2 ns.length
  stAt ns w.1 (pick ns [] l.1) big l.2 ns.length
theorem ageF_b (p : Pot) : 0 ≤ (ageF p).1 ∧ (ageF p).1 ≤ 1000000000 := by
  have a0 := draw_lo p (m := 12) (by decide)
  have a1 := draw_hi p (m := 12) (by decide)
  have b0 := draw_lo (draw p 12).2 (m := 12) (by decide)
  have b1 := draw_hi (draw p 12).2 (m := 12) (by decide)
  have h := pick_mem [0, 1, 1 + (draw p 12).1, 1 + (draw (draw p 12).2 12).1] 0 (draw (draw (draw p 12).2 12).2 4).1
  show 0 ≤ pick _ _ _ ∧ pick _ _ _ ≤ _
  generalize pick _ _ _ = x at h
  simp only [List.mem_cons, List.not_mem_nil, or_false] at h
  omega
theorem gapF_b (p : Pot) : 1 ≤ (gapF p).1 := by
  have a0 := draw_lo p (m := 4) (by decide)
  have b0 := draw_lo (draw p 4).2 (m := 12) (by decide)
  have h := pick_mem [0, (draw p 4).1, (draw (draw p 4).2 12).1] 0 (draw (draw (draw p 4).2 12).2 3).1
  show 1 ≤ 1 + pick _ _ _
  generalize pick _ _ _ = x at h
  simp only [List.mem_cons, List.not_mem_nil, or_false] at h
  omega
theorem ageW_b {ag : Int} (p : Pot) (h0 : 0 ≤ ag) (h1 : ag ≤ 1000000000) : 0 ≤ (ageW ag p).1 ∧ (ageW ag p).1 ≤ 1000000000 := by
  have a0 := draw_lo p (m := 1000000001) (by decide)
  have a1 := draw_hi p (m := 1000000001) (by decide)
  have h := pick_mem [ag, (draw p 1000000001).1, 1000000000] 0 (draw (draw p 1000000001).2 3).1
  show 0 ≤ pick _ _ _ ∧ pick _ _ _ ≤ _
  generalize pick _ _ _ = x at h
  simp only [List.mem_cons, List.not_mem_nil, or_false] at h
  omega
theorem gapW_b {gp : Int} (p : Pot) (h0 : 1 ≤ gp) : 1 ≤ (gapW gp p).1 := by
  have a0 := draw_lo p (m := 1000000000) (by decide)
  have h := pick_mem [gp, 1 + (draw p 1000000000).1] 1 (draw (draw p 1000000000).2 2).1
  show 1 ≤ pick _ _ _
  generalize pick _ _ _ = x at h
  simp only [List.mem_cons, List.not_mem_nil, or_false] at h
  omega
theorem wideF_b {wide ag gp : Int} (p : Pot) (h0 : 0 ≤ ag) (h1 : ag ≤ 1000000000) (h2 : 1 ≤ gp) : (0 ≤ (wideF wide ag gp p).1.1 ∧ (wideF wide ag gp p).1.1 ≤ 1000000000) ∧ 1 ≤ (wideF wide ag gp p).1.2 := by
  unfold wideF
  split
  · exact ⟨ageW_b p h0 h1, gapW_b _ h2⟩
  · exact ⟨⟨h0, h1⟩, h2⟩
theorem word_ok (k : Int) : OkNode (pick (["one", "other", "z"] : List Str) "z" k) := by
  have h := pick_mem (["one", "other", "z"] : List Str) ("z" : Str) k
  generalize pick _ _ _ = x at h
  simp only [List.mem_cons, List.not_mem_nil, or_false] at h
  rcases h with h | h | h | h <;> subst h <;> exact ⟨by decide, by decide, by decide +kernel⟩
theorem valF_ok {ns : List Nm} (hn : ns ≠ []) {s : Str} (hs : OkNode s) (p : Pot) : OkV ns (valF ns s p).1 := by
  unfold valF
  dsimp only
  have hl : 0 < ns.length := List.length_pos_iff.mpr hn
  split
  · exact pick_in [] (draw_lo _ (by omega)) (draw_hi _ (by omega))
  · exact hs
theorem ageF_pot {N : Nat} {p : Pot} (ok : PotOk N p) : PotOk (N + 3) (ageF p).2 := draw_ok (draw_ok (draw_ok ok 12) 12) 4
theorem gapF_pot {N : Nat} {p : Pot} (ok : PotOk N p) : PotOk (N + 3) (gapF p).2 := draw_ok (draw_ok (draw_ok ok 4) 12) 3
theorem ageW_pot {N : Nat} {p : Pot} (ag : Int) (ok : PotOk N p) : PotOk (N + 2) (ageW ag p).2 := draw_ok (draw_ok ok 1000000001) 3
theorem gapW_pot {N : Nat} {p : Pot} (gp : Int) (ok : PotOk N p) : PotOk (N + 2) (gapW gp p).2 := draw_ok (draw_ok ok 1000000000) 2
theorem wideF_pot {N : Nat} {p : Pot} (wide ag gp : Int) (ok : PotOk N p) : PotOk (N + 4) (wideF wide ag gp p).2 := by
  unfold wideF
  split
  · exact gapW_pot gp (ageW_pot ag ok)
  · exact ok.up (by omega)
theorem valF_pot {N : Nat} {p : Pot} (ns : List Nm) (s : Str) (ok : PotOk N p) : PotOk (N + 2) (valF ns s p).2 := by
  unfold valF
  dsimp only
  split
  · exact draw_ok (draw_ok ok 3) _
  · exact (draw_ok ok 3).up (by omega)
theorem rowsW_pot {N : Nat} {p : Pot} (ok : PotOk N p) : PotOk (N + 1) (rowsW p).2 := draw_ok ok 3
theorem tlAt_pot {N : Nat} {p : Pot} (ns : List Nm) (wide : Int) (ok : PotOk N p) : ∀ i, PotOk (N + 13 * i) (tlAt ns wide p i).2.2
  | 0 => ok
  | i + 1 => (valF_pot ns _ (rowsW_pot (wideF_pot wide _ _ (gapF_pot (ageF_pot (tlAt_pot ns wide ok i)))))).up (by omega)
theorem manyF_pot {N : Nat} {p : Pot} (big lg : Bool) (ok : PotOk N p) : PotOk (N + 2) (manyF big lg p).2 := by
  unfold manyF
  dsimp only
  split
  · split
    · exact draw_ok (draw_ok ok 3) _
    · exact draw_ok (draw_ok ok 3) _
  · exact (draw_ok ok 3).up (by omega)
theorem manyF_b (big lg : Bool) (p : Pot) : 1 ≤ (manyF big lg p).1 ∧ (manyF big lg p).1 ≤ 8 := by
  have a0 := draw_lo p (m := 3) (by decide)
  have a1 := draw_hi p (m := 3) (by decide)
  have b0 := draw_lo (draw p 3).2 (m := 5) (by decide)
  have b1 := draw_hi (draw p 3).2 (m := 5) (by decide)
  have c0 := draw_lo (draw p 3).2 (m := 2) (by decide)
  have c1 := draw_hi (draw p 3).2 (m := 2) (by decide)
  unfold manyF
  dsimp only
  split
  · split
    · dsimp only; omega
    · dsimp only; omega
  · dsimp only; omega
/-- a timeline that grows -/
structure TlI (ns : List Nm) (t : Tl) (mo : Int) : Prop where
  mo0 : 0 ≤ mo
  em : t = [] → mo = 0
  h0 : ∀ e, t[0]? = some e → e.1 = 0
  m0 : ∀ e ∈ t, 0 ≤ e.1 ∧ e.1 < mo ∧ 0 ≤ e.2.1 ∧ e.2.1 ≤ 1000000000 ∧ OkV ns e.2.2
  up : ∀ i e e', t[i]? = some e → t[i + 1]? = some e' → e.1 < e'.1
theorem TlI.snoc {ns : List Nm} {t : Tl} {mo ag gp : Int} {v : Vl} (h : TlI ns t mo) (a0 : 0 ≤ ag) (a1 : ag ≤ 1000000000) (g : 1 ≤ gp) (ok : OkV ns v) : TlI ns (t ++ [(mo, ag, v)]) (mo + gp) := by
  obtain ⟨h1, h2, h3, h4, h5⟩ := h
  refine ⟨by omega, fun z => by simp at z, fun e he => ?_, fun e he => ?_, fun i e e' he he' => ?_⟩
  · cases t with
    | nil => cases he; exact h2 rfl
    | cons a0 r => cases he; exact h3 _ rfl
  · rcases List.mem_append.mp he with z | z
    · obtain ⟨z1, z2, z3⟩ := h4 e z
      exact ⟨z1, by omega, z3⟩
    · rw [List.mem_singleton.mp z]
      exact ⟨h1, by show mo < mo + gp; omega, a0, a1, ok⟩
  · have hl : i + 1 < (t ++ [(mo, ag, v)]).length := (List.getElem?_eq_some_iff.mp he').1
    rw [List.length_append] at hl
    have hl' : i < t.length := by simp at hl; omega
    rw [List.getElem?_append_left hl'] at he
    by_cases hi : i + 1 < t.length
    · rw [List.getElem?_append_left hi] at he'
      exact h5 i e e' he he'
    · rw [List.getElem?_append_right (by omega)] at he'
      have e0 : i + 1 - t.length = 0 := by simp at hl; omega
      rw [e0] at he'
      cases he'
      exact (h4 e (List.mem_of_getElem? he)).2.1
theorem tlAt_ok {ns : List Nm} (hn : ns ≠ []) (wide : Int) (p : Pot) : ∀ i, TlI ns (tlAt ns wide p i).2.1 (tlAt ns wide p i).1 ∧ (tlAt ns wide p i).2.1.length = i
  | 0 => ⟨⟨Int.le_refl 0, fun _ => rfl, fun e he => (by cases he), fun e he => (by cases he), fun i e e' he _ => (by cases he)⟩, rfl⟩
  | i + 1 => by
    obtain ⟨h, hl⟩ := tlAt_ok hn wide p i
    obtain ⟨a0, a1⟩ := ageF_b (tlAt ns wide p i).2.2
    obtain ⟨⟨w0, w1⟩, w2⟩ := wideF_b (wide := wide) (gapF (ageF (tlAt ns wide p i).2.2).2).2 a0 a1 (gapF_b (ageF (tlAt ns wide p i).2.2).2)
    refine ⟨h.snoc w0 w1 w2 (valF_ok hn (word_ok _) _), ?_⟩
    show ((tlAt ns wide p i).2.1 ++ [_]).length = _
    rw [List.length_append, hl]
    rfl
theorem TlI.gt {ns : List Nm} (hns : ∀ n ∈ ns, OkN n) {t : Tl} {mo : Int} (h : TlI ns t mo) (h0 : t ≠ []) (h8 : t.length ≤ 8) : OkGT (gt t) := by
  obtain ⟨h1, h2, h3, h4, h5⟩ := h
  refine ⟨fun z => h0 (by unfold Rw.gt at z; simpa using z), by rw [gt_len]; omega, fun e he => ?_, fun e he => ?_, fun i e e' he he' => ?_, fun e he => ?_⟩
  · rw [gt_get] at he
    cases z : t[0]? with
    | none => rw [z] at he; cases he
    | some a => rw [z] at he; cases he; exact h3 a z
  · unfold Rw.gt at he
    obtain ⟨a, ha, rfl⟩ := List.mem_map.mp he
    exact ⟨(h4 a ha).1, (h4 a ha).2.2.1⟩
  · rw [gt_get] at he he'
    cases z : t[i]? with
    | none => rw [z] at he; cases he
    | some a =>
      cases z' : t[i + 1]? with
      | none => rw [z'] at he'; cases he'
      | some b => rw [z] at he; rw [z'] at he'; cases he; cases he'; exact h5 i a b z z'
  · unfold Rw.gt at he
    obtain ⟨a, ha, rfl⟩ := List.mem_map.mp he
    exact ⟨nobl_eV hns (h4 a ha).2.2.2.2, Nat.le_trans (dep_eV _) (by decide)⟩
theorem stAt_pot {N : Nat} {p : Pot} (ns : List Nm) (wide : Int) (long : Nm) (big : Bool) (ok : PotOk N p) : ∀ i, PotOk (N + 106 * i) (stAt ns wide long big p i).2
  | 0 => ok
  | i + 1 => by
    have h := stAt_pot ns wide long big ok i
    unfold stAt
    dsimp only
    split
    · exact h.up (by omega)
    · rename_i n _
      have h2 := manyF_pot big (decide (n = long)) h
      have h3 := (manyF_b big (decide (n = long)) (stAt ns wide long big p i).2).2
      exact (tlAt_pot ns wide h2 _).up (by omega)
/-- a story that grows: of the names ns the first i -/
structure StI (ns : List Nm) (i : Nat) (s : Story) : Prop where
  nm : namesOf s = ns.take i
  tl : ∀ q ∈ s, ∃ mo, TlI ns q.2 mo ∧ q.2 ≠ [] ∧ q.2.length ≤ 8
theorem stAt_ok {ns : List Nm} (hn : ns ≠ []) (wide : Int) (long : Nm) (big : Bool) (p : Pot) : ∀ i, StI ns i (stAt ns wide long big p i).1
  | 0 => ⟨rfl, fun q hq => nomatch hq⟩
  | i + 1 => by
    obtain ⟨h1, h2⟩ := stAt_ok hn wide long big p i
    unfold stAt
    dsimp only
    split
    · rename_i z
      refine ⟨?_, h2⟩
      rw [h1, List.take_add_one, z]
      simp
    · rename_i n z
      obtain ⟨m0, m1⟩ := manyF_b big (decide (n = long)) (stAt ns wide long big p i).2
      obtain ⟨t0, t1⟩ := tlAt_ok hn wide (manyF big (decide (n = long)) (stAt ns wide long big p i).2).2 (manyF big (decide (n = long)) (stAt ns wide long big p i).2).1.toNat
      refine ⟨?_, fun q hq => ?_⟩
      · unfold namesOf at h1 ⊢
        rw [List.map_append, h1, List.take_add_one, z]
        rfl
      · rcases List.mem_append.mp hq with y | y
        · exact h2 q y
        · rw [List.mem_singleton.mp y]
          refine ⟨_, t0, fun e => ?_, by show List.length (tlAt _ _ _ _).2.1 ≤ 8; omega⟩
          have e : (tlAt ns wide (manyF big (decide (n = long)) (stAt ns wide long big p i).2).2 (manyF big (decide (n = long)) (stAt ns wide long big p i).2).1.toNat).2.1 = [] := e
          rw [e, List.length_nil] at t1
          omega
theorem story_ok {ns : List Nm} (hn : ns ≠ []) (h6 : ns.length ≤ 6) (nd : ns.Nodup) (hok : ∀ n ∈ ns, OkN n ∧ n ≠ [] ∧ n.length ≤ 2) (big : Bool) (p : Pot) :
    OkStory (storyF ns big p).1 ∧ namesOf (storyF ns big p).1 = ns ∧ ∀ q ∈ (storyF ns big p).1, ∀ e ∈ q.2, e.2.1 ≤ 1000000000 := by
  obtain ⟨h1, h2⟩ := stAt_ok hn (draw p 4).1 (pick ns [] (draw (draw p 4).2 ns.length).1) big (draw (draw p 4).2 ns.length).2 ns.length
  have e : (stAt ns (draw p 4).1 (pick ns [] (draw (draw p 4).2 ns.length).1) big (draw (draw p 4).2 ns.length).2 ns.length).1 = (storyF ns big p).1 := rfl
  rw [e] at h1 h2
  generalize (storyF ns big p).1 = s at *
  rw [List.take_length] at h1
  have hl : s.length = ns.length := by rw [← h1]; unfold namesOf; rw [List.length_map]
  refine ⟨⟨fun z => ?_, by omega, by rw [h1]; exact nd, fun n hn' => ?_, fun q hq => ?_⟩, h1, fun q hq e he => ?_⟩
  · rw [z] at h1
    exact hn h1.symm
  · rw [h1] at hn'
    obtain ⟨z1, z2, z3⟩ := hok n hn'
    exact ⟨z1, z2, by omega⟩
  · obtain ⟨mo, z1, z2, z3⟩ := h2 q hq
    refine ⟨z1.gt (fun n hn' => (hok n hn').1) z2 z3, z3, fun e he => ?_⟩
    rw [h1]
    exact (z1.m0 e he).2.2.2.2
  · obtain ⟨mo, z1, z2, z3⟩ := h2 q hq
    exact (z1.m0 e he).2.2.2.1
theorem story_pot {N : Nat} {p : Pot} (ns : List Nm) (big : Bool) (ok : PotOk N p) : PotOk (N + 2 + 106 * ns.length) (storyF ns big p).2 := stAt_pot ns _ _ big (draw_ok (draw_ok ok 4) _) ns.length
end Rw
namespace Rw
open PySem PySem.Spec PyProof.Rows L2
variable {P : Program} {w : World} {K : PySem.W.Frag} {mg : Str → Option Value} {base : Heap}
section
variable {X : Cx} {ρ ρ1 ρ2 : List En} {c : Expr} {pos : Pos} {k : Bool} {sa sb rest : List Stmt} {P : Ou → Prop}
theorem SD.whenJ (ρ2 : List En) (h : ET X c ρ k ρ1) (h1 : k = true → SD X sa ρ1 (fun o => o = .nx ρ2)) (h2 : k = false → ρ1 = ρ2) (hk : SD X rest ρ2 P) : SD X (.If c sa [] pos :: rest) ρ P :=
  .when h (fun e => (h1 e).mono fun o ho => by subst ho; exact hk) fun e => by rw [h2 e]; exact hk
end
theorem dput_new {s : Story} {n : Nm} (h : n ∉ namesOf s) (t : Tl) : dput (eKv s) (nk n) (eGT (gt t)) = eKv (s ++ [(n, t)]) := by
  unfold dput
  rw [lk_story, tlOf_none h]
  show (if (none : Option Dt).isSome = true then _ else _) = _
  rw [if_neg (by simp)]
  unfold eKv
  rw [List.map_append]
  rfl
abbrev rStF : List Dt → List Dt → Dt → List Dt → Prop := fun pt ds d pt' => ∃ p ns big, pt = ePot p ∧ ds = [.lst (ns.map eN), .bl big] ∧ ns ≠ [] ∧ ns.length ≤ 6 ∧ ns.Nodup ∧ (∀ n ∈ ns, OkN n ∧ n ≠ [] ∧ n.length ≤ 2) ∧ PotOk 800000 p ∧ d = eSt (storyF ns big p).1 ∧ pt' = ePot (storyF ns big p).2
abbrev nSt : List Str := ["_law_pot_here", "_law_names_here", "_law_big", "_law_story_here", "_law_wide", "_law_long", "_law_name", "_law_moment", "_law_found", "_law_many", "_law_turn_here", "_law_age", "_law_gap", "_law_value"]
theorem sc_story : FnScope nSt ["_law_pot_here", "_law_names_here", "_law_big"] (defScope s_story) := ⟨rfl, rfl, rfl, by decide, rfl, by decide, by decide⟩
theorem story_def (B : Bs mg) (D : DefOk P w K mg base "_law_draw" 1 2 (spP P w K 1 rDraw)) (F : Fn K mg "_law_story" s_story) : DefOk P w K mg base "_law_story" 2 3 (spP P w K 2 rStF) :=
  defOkP nSt ["_law_pot_here", "_law_names_here", "_law_big"] F sc_story rfl (fun _ _ _ _ _ _ us h => by
    match us, h with
    | [_, _, _], _ => rfl) (by
    rintro fa cdv A outer s' H E hr pt ds d pt' hl ⟨p, ns, big, rfl, rfl, hne, h6, nd, hok, ok, rfl, rfl⟩
    have hlp : 0 < ns.length := List.length_pos_iff.mpr hne
    have hlen : ((ns.map eN).length : Int) = ns.length := by rw [List.length_map]
    refine .newD (i := 3) ?_ sc_story.nd
    have ok1 := draw_ok ok 4
    have hS : storyF ns big p = stAt ns (draw p 4).1 (pick ns [] (draw (draw p 4).2 ns.length).1) big (draw (draw p 4).2 ns.length).2 ns.length := rfl
    rw [hS]
    refine .asg (i := 4) (.drw D hr .int rfl ⟨_, rfl⟩ ok (by decide) (by decide) (by decide)) ?_ sc_story.nd
    have ok2 := draw_ok ok1 ns.length
    have hmemL : pick ns [] (draw (draw p 4).2 ns.length).1 ∈ ns := pick_in [] (draw_lo _ (by omega)) (draw_hi _ (by omega))
    refine .asg (i := 5) (d := eN (pick ns [] (draw (draw p 4).2 ns.length).1)) (ρ1 := [.ol (ePot (draw (draw p 4).2 ns.length).2), .dat (.lst (ns.map eN)), .dat (.bl big), .od (eKv []), .dat (.int (draw p 4).1), .un, .un, .un, .un, .un, .un, .un, .un, .un]) (.ixL (.var (i := 1) rfl) (.drw D hr (.is (.lenL B.len (.var (i := 1) rfl)) (congrArg Dt.int hlen)) rfl ⟨_, rfl⟩ ok1 (by decide) (by omega) (by omega)) (atI_pick eN ns [] (draw_lo _ (by omega)) (draw_hi _ (by omega)))) ?_ sc_story.nd
    generalize pick ns [] (draw (draw p 4).2 ns.length).1 = long at *
    generalize (draw (draw p 4).2 ns.length).2 = p0 at *
    generalize (draw p 4).1 = wide at *
    refine .for rfl (.list (.var (i := 1) rfl)) (fun i ρ => ∃ e6 e7 e8 e9 e10 e11 e12 e13, ρ = [.ol (ePot (stAt ns wide long big p0 i).2), .dat (.lst (ns.map eN)), .dat (.bl big), .od (eKv (stAt ns wide long big p0 i).1), .dat (.int wide), .dat (eN long), e6, e7, e8, e9, e10, e11, e12, e13] ∧ isOwn e6 = false ∧ isOwn e7 = false ∧ isOwn e8 = false ∧ isOwn e9 = false ∧ isOwn e10 = false ∧ isOwn e11 = false ∧ isOwn e12 = false ∧ isOwn e13 = false) ⟨.un, .un, .un, .un, .un, .un, .un, .un, rfl, rfl, rfl, rfl, rfl, rfl, rfl, rfl, rfl⟩ (fun i d ρ hi' hI => ?_) (fun ρ hI => ?_)
    · obtain ⟨e6, e7, e8, e9, e10, e11, e12, e13, rfl, h6', h7, h8, h9, h10, h11, h12, h13⟩ := hI
      rw [List.getElem?_map] at hi'
      cases z : ns[i]? with
      | none => rw [z] at hi'; cases hi'
      | some n =>
        rw [z] at hi'
        cases hi'
        have hil : i < ns.length := (List.getElem?_eq_some_iff.mp z).1
        have hsi := stAt_ok hne wide long big p0 i
        have okp := (stAt_pot ns wide long big ok2 i).up (show 800000 + 1 + 1 + 106 * i ≤ 900000 by omega)
        have hst : stAt ns wide long big p0 (i + 1) = ((stAt ns wide long big p0 i).1 ++ [(n, (tlAt ns wide (manyF big (decide (n = long)) (stAt ns wide long big p0 i).2).2 (manyF big (decide (n = long)) (stAt ns wide long big p0 i).2).1.toNat).2.1)], (tlAt ns wide (manyF big (decide (n = long)) (stAt ns wide long big p0 i).2).2 (manyF big (decide (n = long)) (stAt ns wide long big p0 i).2).1.toNat).2.2) := by
          show (match ns[i]? with | none => _ | some n => _) = _
          rw [z]
        rw [hst]
        have hfresh : n ∉ namesOf (stAt ns wide long big p0 i).1 := by
          rw [hsi.nm]
          intro hn
          obtain ⟨j, hj1, hj2⟩ := List.mem_take_iff_getElem.mp hn
          have hj3 : ns[j]? = some n := by rw [← hj2]; exact List.getElem?_eq_getElem (by omega)
          have := (List.getElem?_inj (by omega) nd).mp (hj3.trans z.symm)
          omega
        have hsl : (stAt ns wide long big p0 i).1.length ≤ 6 := by
          have := congrArg List.length hsi.nm
          unfold namesOf at this
          rw [List.length_map, List.length_take] at this
          omega
        generalize (stAt ns wide long big p0 i).2 = q at *
        generalize (stAt ns wide long big p0 i).1 = s at *
        have hnok := (hok n (List.mem_of_getElem? z)).1
        have hlok := (hok long hmemL).1
        refine ⟨_, _, .name (i := 6) sc_story.nd, ?_⟩
        refine .asg (i := 7) .int ?_ sc_story.nd
        refine .newL (i := 8) ?_ sc_story.nd
        have okq := draw_ok okp 3
        refine .asg (i := 9) (d := .int (1 + (draw q 3).1)) (ρ1 := [.ol (ePot (draw q 3).2), .dat (.lst (ns.map eN)), .dat (.bl big), .od (eKv s), .dat (.int wide), .dat (eN long), .dat (eN n), .dat (.int 0), .ol [], e9, e10, e11, e12, e13]) (.add .int (.drw D hr .int rfl ⟨_, rfl⟩ okp (by decide) (by decide) (by decide))) ?_ sc_story.nd
        have hM := manyF_b big (decide (n = long)) q
        have okM := manyF_pot big (decide (n = long)) okp
        refine .whenJ [.ol (ePot (manyF big (decide (n = long)) q).2), .dat (.lst (ns.map eN)), .dat (.bl big), .od (eKv s), .dat (.int wide), .dat (eN long), .dat (eN n), .dat (.int 0), .ol [], .dat (.int (manyF big (decide (n = long)) q).1), e10, e11, e12, e13] (k := big) (.val (.var (i := 2) rfl)) (fun hb => ?_) (fun hb => ?_) ?_
        · subst hb
          refine .asg (i := 9) (d := .int (manyF true (decide (n = long)) q).1) (ρ1 := [.ol (ePot (manyF true (decide (n = long)) q).2), .dat (.lst (ns.map eN)), .dat (.bl true), .od (eKv s), .dat (.int wide), .dat (eN long), .dat (eN n), .dat (.int 0), .ol [], .dat (.int (1 + (draw q 3).1)), e10, e11, e12, e13]) (.ifE (k := decide (n = long)) (.is (.cmp (.eqD hr (.var (i := 6) rfl) (.var (i := 5) rfl) (plain_of _ (nobl_eN hnok)) (plain_of _ (nobl_eN hlok)) (by rw [dep_eN]; decide) (by rw [dep_eN]; decide))) (eqd_eN hnok hlok)) (fun h => ?_) fun h => ?_) (.nil rfl) sc_story.nd
          · rw [h]
            exact .add .int (.drw D hr .int rfl ⟨_, rfl⟩ okq (by decide) (by decide) (by decide))
          · rw [h]
            exact .add .int (.drw D hr .int rfl ⟨_, rfl⟩ okq (by decide) (by decide) (by decide))
        · subst hb
          rfl
        generalize (manyF big (decide (n = long)) q).2 = q2 at *
        generalize (manyF big (decide (n = long)) q).1 = many at *
        refine .for rfl (.range B.range (.var (i := 9) rfl) (by omega) (by omega)) (fun j ρ => ∃ e10 e11 e12 e13, ρ = [.ol (ePot (tlAt ns wide q2 j).2.2), .dat (.lst (ns.map eN)), .dat (.bl big), .od (eKv s), .dat (.int wide), .dat (eN long), .dat (eN n), .dat (.int (tlAt ns wide q2 j).1), .ol ((gt (tlAt ns wide q2 j).2.1).map eGE), .dat (.int many), e10, e11, e12, e13] ∧ isOwn e10 = false ∧ isOwn e11 = false ∧ isOwn e12 = false ∧ isOwn e13 = false) ⟨e10, e11, e12, e13, rfl, h10, h11, h12, h13⟩ (fun j d ρ hj hJ => ?_) (fun ρ hJ => ?_)
        · obtain ⟨e10, e11, e12, e13, rfl, h10, h11, h12, h13⟩ := hJ
          have hj8 : j < 8 := by
            unfold intsTo at hj
            have := (List.getElem?_eq_some_iff.mp hj).1
            rw [List.length_map, List.length_range] at this
            omega
          have okt := tlAt_pot ns wide okM j
          have hti := tlAt_ok hne wide q2 j
          have hS : tlAt ns wide q2 (j + 1) = tlStep ns wide (tlAt ns wide q2 j) := rfl
          rw [hS]
          generalize tlAt ns wide q2 j = st at *
          obtain ⟨mo, t, q3⟩ := st
          have oka := (show PotOk (900000 + 2 + 13 * j) q3 from okt).up (show 900000 + 2 + 13 * j ≤ 950000 by omega)
          have htl : t.length = j := hti.2
          have oka1 := draw_ok oka 12
          have oka2 := draw_ok oka1 12
          refine ⟨_, _, .name (i := 10) sc_story.nd, ?_⟩
          refine .asg (i := 11) (d := .int (ageF q3).1) (ρ1 := [.ol (ePot (ageF q3).2), .dat (.lst (ns.map eN)), .dat (.bl big), .od (eKv s), .dat (.int wide), .dat (eN long), .dat (eN n), .dat (.int mo), .ol ((gt t).map eGE), .dat (.int many), .dat d, e11, e12, e13]) (.ixL (.list (.cons .int (.cons .int (.cons (.add .int (.drw D hr .int rfl ⟨_, rfl⟩ oka (by decide) (by decide) (by decide))) (.one (.add .int (.drw D hr .int rfl ⟨_, rfl⟩ oka1 (by decide) (by decide) (by decide)))))))) (.drw D hr .int rfl ⟨_, rfl⟩ oka2 (by decide) (by decide) (by decide)) (atI_pick .int [0, 1, 1 + (draw q3 12).1, 1 + (draw (draw q3 12).2 12).1] 0 (draw_lo _ (by decide)) (draw_hi _ (by decide)))) ?_ sc_story.nd
          have okb := ageF_pot oka
          have hstp : tlStep ns wide (mo, t, q3) = (mo + (wideF wide (ageF q3).1 (gapF (ageF q3).2).1 (gapF (ageF q3).2).2).1.2, t ++ [(mo, (wideF wide (ageF q3).1 (gapF (ageF q3).2).1 (gapF (ageF q3).2).2).1.1, (valF ns (rowsW (wideF wide (ageF q3).1 (gapF (ageF q3).2).1 (gapF (ageF q3).2).2).2).1 (rowsW (wideF wide (ageF q3).1 (gapF (ageF q3).2).1 (gapF (ageF q3).2).2).2).2).1)], (valF ns (rowsW (wideF wide (ageF q3).1 (gapF (ageF q3).2).1 (gapF (ageF q3).2).2).2).1 (rowsW (wideF wide (ageF q3).1 (gapF (ageF q3).2).1 (gapF (ageF q3).2).2).2).2).2) := rfl
          rw [hstp]
          generalize (ageF q3).2 = q4 at *
          generalize (ageF q3).1 = ag at *
          have okb1 := draw_ok okb 4
          have okb2 := draw_ok okb1 12
          refine .asg (i := 12) (d := .int (gapF q4).1) (ρ1 := [.ol (ePot (gapF q4).2), .dat (.lst (ns.map eN)), .dat (.bl big), .od (eKv s), .dat (.int wide), .dat (eN long), .dat (eN n), .dat (.int mo), .ol ((gt t).map eGE), .dat (.int many), .dat d, .dat (.int ag), e12, e13]) (.add .int (.ixL (.list (.cons .int (.cons (.drw D hr .int rfl ⟨_, rfl⟩ okb (by decide) (by decide) (by decide)) (.one (.drw D hr .int rfl ⟨_, rfl⟩ okb1 (by decide) (by decide) (by decide)))))) (.drw D hr .int rfl ⟨_, rfl⟩ okb2 (by decide) (by decide) (by decide)) (atI_pick .int [0, (draw q4 4).1, (draw (draw q4 4).2 12).1] 0 (draw_lo _ (by decide)) (draw_hi _ (by decide))))) ?_ sc_story.nd
          have okc := gapF_pot okb
          generalize (gapF q4).2 = q5 at *
          generalize (gapF q4).1 = gp at *
          refine .whenJ [.ol (ePot (wideF wide ag gp q5).2), .dat (.lst (ns.map eN)), .dat (.bl big), .od (eKv s), .dat (.int wide), .dat (eN long), .dat (eN n), .dat (.int mo), .ol ((gt t).map eGE), .dat (.int many), .dat d, .dat (.int (wideF wide ag gp q5).1.1), .dat (.int (wideF wide ag gp q5).1.2), e13] (.cmp (.eqI (.var (i := 4) rfl) .int)) (fun hw => ?_) (fun hw => ?_) ?_
          · have e : wideF wide ag gp q5 = (((ageW ag q5).1, (gapW gp (ageW ag q5).2).1), (gapW gp (ageW ag q5).2).2) := by unfold wideF; rw [if_pos (of_decide_eq_true hw)]
            rw [e]
            have okc1 := draw_ok okc 1000000001
            refine .asg (i := 11) (d := .int (ageW ag q5).1) (ρ1 := [.ol (ePot (ageW ag q5).2), .dat (.lst (ns.map eN)), .dat (.bl big), .od (eKv s), .dat (.int wide), .dat (eN long), .dat (eN n), .dat (.int mo), .ol ((gt t).map eGE), .dat (.int many), .dat d, .dat (.int ag), .dat (.int gp), e13]) (.ixL (.list (.cons (.var (i := 11) rfl) (.cons (.drw D hr (m := 1000000001) (.is (.add (.pow .int .int ⟨by decide, by decide +kernel⟩) .int) rfl) rfl ⟨_, rfl⟩ okc (by decide) (by decide) (by decide)) (.one (.is (.pow .int .int ⟨by decide, by decide +kernel⟩) (d1 := .int 1000000000) rfl))))) (.drw D hr .int rfl ⟨_, rfl⟩ okc1 (by decide) (by decide) (by decide)) (atI_pick .int [ag, (draw q5 1000000001).1, 1000000000] 0 (draw_lo _ (by decide)) (draw_hi _ (by decide)))) ?_ sc_story.nd
            have okd := ageW_pot ag okc
            generalize (ageW ag q5).2 = q6 at *
            generalize (ageW ag q5).1 = ag2 at *
            have okd1 := draw_ok okd 1000000000
            exact .asg (i := 12) (d := .int (gapW gp q6).1) (ρ1 := [.ol (ePot (gapW gp q6).2), .dat (.lst (ns.map eN)), .dat (.bl big), .od (eKv s), .dat (.int wide), .dat (eN long), .dat (eN n), .dat (.int mo), .ol ((gt t).map eGE), .dat (.int many), .dat d, .dat (.int ag2), .dat (.int gp), e13]) (.ixL (.list (.cons (.var (i := 12) rfl) (.one (.add .int (.drw D hr (m := 1000000000) (.is (.pow .int .int ⟨by decide, by decide +kernel⟩) rfl) rfl ⟨_, rfl⟩ okd (by decide) (by decide) (by decide)))))) (.drw D hr .int rfl ⟨_, rfl⟩ okd1 (by decide) (by decide) (by decide)) (atI_pick .int [gp, 1 + (draw q6 1000000000).1] 1 (draw_lo _ (by decide)) (draw_hi _ (by decide)))) (.nil rfl) sc_story.nd
          · have e : wideF wide ag gp q5 = ((ag, gp), q5) := by unfold wideF; rw [if_neg (of_decide_eq_false hw)]
            rw [e]
            rfl
          have okw := wideF_pot wide ag gp okc
          generalize (wideF wide ag gp q5).2 = q7 at *
          generalize (wideF wide ag gp q5).1.2 = gp2 at *
          generalize (wideF wide ag gp q5).1.1 = ag2 at *
          refine .asg (i := 13) (d := eV (.rows (rowsW q7).1)) (ρ1 := [.ol (ePot (rowsW q7).2), .dat (.lst (ns.map eN)), .dat (.bl big), .od (eKv s), .dat (.int wide), .dat (eN long), .dat (eN n), .dat (.int mo), .ol ((gt t).map eGE), .dat (.int many), .dat d, .dat (.int ag2), .dat (.int gp2), e13]) (.tup (.cons .str (.one (.ixL (.list (.cons .str (.cons .str (.one .str)))) (.drw D hr .int rfl ⟨_, rfl⟩ okw (by decide) (by decide) (by decide)) (atI_pick .str (["one", "other", "z"] : List Str) "z" (draw_lo _ (by decide)) (draw_hi _ (by decide))))))) ?_ sc_story.nd
          have okr := rowsW_pot okw
          generalize (rowsW q7).2 = q8 at *
          generalize (rowsW q7).1 = wd at *
          have okr1 := draw_ok okr 3
          refine .whenJ [.ol (ePot (valF ns wd q8).2), .dat (.lst (ns.map eN)), .dat (.bl big), .od (eKv s), .dat (.int wide), .dat (eN long), .dat (eN n), .dat (.int mo), .ol ((gt t).map eGE), .dat (.int many), .dat d, .dat (.int ag2), .dat (.int gp2), .dat (eV (valF ns wd q8).1)] (ρ1 := [.ol (ePot (draw q8 3).2), .dat (.lst (ns.map eN)), .dat (.bl big), .od (eKv s), .dat (.int wide), .dat (eN long), .dat (eN n), .dat (.int mo), .ol ((gt t).map eGE), .dat (.int many), .dat d, .dat (.int ag2), .dat (.int gp2), .dat (eV (.rows wd))]) (.cmp (.gt (.drw D hr .int rfl ⟨_, rfl⟩ okr (by decide) (by decide) (by decide)) .int)) (fun hv => ?_) (fun hv => ?_) ?_
          · have e : valF ns wd q8 = (.to (pick ns [] (draw (draw q8 3).2 ns.length).1), (draw (draw q8 3).2 ns.length).2) := by unfold valF; dsimp only; rw [if_pos (of_decide_eq_true hv)]
            rw [e]
            exact .asg (i := 13) (d := eV (.to (pick ns [] (draw (draw q8 3).2 ns.length).1))) (ρ1 := [.ol (ePot (draw (draw q8 3).2 ns.length).2), .dat (.lst (ns.map eN)), .dat (.bl big), .od (eKv s), .dat (.int wide), .dat (eN long), .dat (eN n), .dat (.int mo), .ol ((gt t).map eGE), .dat (.int many), .dat d, .dat (.int ag2), .dat (.int gp2), .dat (eV (.rows wd))]) (.tup (.cons .str (.one (.ixL (.var (i := 1) rfl) (.drw D hr (.is (.lenL B.len (.var (i := 1) rfl)) (congrArg Dt.int hlen)) rfl ⟨_, rfl⟩ okr1 (by decide) (by omega) (by omega)) (atI_pick eN ns [] (draw_lo _ (by omega)) (draw_hi _ (by omega))))))) (.nil rfl) sc_story.nd
          · have e : valF ns wd q8 = (.rows wd, (draw q8 3).2) := by unfold valF; dsimp only; rw [if_neg (of_decide_eq_false hv)]
            rw [e]
          generalize (valF ns wd q8).2 = q9 at *
          generalize (valF ns wd q8).1 = v at *
          refine .app (i := 8) (d := eGE (mo, ag2, eV v)) rfl (.tup (.cons (.var (i := 7) rfl) (.cons (.var (i := 11) rfl) (.one (.var (i := 13) rfl))))) rfl ?_ ?_
          · rw [List.length_map, gt_len, sizeLine_eq]
            omega
          refine .asg (i := 7) (.add (.var (i := 7) rfl) (.var (i := 12) rfl)) (.nil ⟨.dat d, .dat (.int ag2), .dat (.int gp2), .dat (eV v), ?_, rfl, rfl, rfl, rfl⟩) sc_story.nd
          have e : gt (t ++ [(mo, ag2, v)]) = gt t ++ [(mo, ag2, eV v)] := by unfold gt; rw [List.map_append]; rfl
          show _ = [_, _, _, _, _, _, _, _, En.ol ((gt (t ++ [(mo, ag2, v)])).map eGE), _, _, _, _, _]
          rw [e, List.map_append]
          rfl
        · obtain ⟨e10, e11, e12, e13, rfl, h10, h11, h12, h13⟩ := hJ
          have hml : (intsTo many.toNat).length = many.toNat := by unfold intsTo; rw [List.length_map, List.length_range]
          rw [hml]
          generalize tlAt ns wide q2 many.toNat = st
          obtain ⟨mo, t, q3⟩ := st
          refine .putK (i := 3) (ks := n.map .text) hr (.own (i := 8) rfl) (.key (n := n) (.var (i := 6) rfl)) ⟨_, rfl⟩ rfl (depth_nk n) (by rw [st_len, sizeLine_eq]; omega) (.nil ⟨.dat (eN n), .dat (.int mo), .dat (eGT (gt t)), .dat (.int many), e10, e11, e12, e13, ?_, rfl, rfl, rfl, rfl, h10, h11, h12, h13⟩)
          have e := dput_new hfresh t
          show [En.ol (ePot q3), _, _, En.od (dput (eKv s) (nk n) (eGT (gt t))), _, _, _, _, _, _, _, _, _, _] = _
          rw [e]
          rfl
    · obtain ⟨e6, e7, e8, e9, e10, e11, e12, e13, rfl, _⟩ := hI
      refine .ret (.ownD (i := 3) rfl) ?_
      rw [List.length_map]
      exact ⟨rfl, rfl⟩)
end Rw
namespace Rw
open PySem PySem.Spec PyProof.Rows L2
variable {P : Program} {w : World} {K : PySem.W.Frag} {mg : Str → Option Value} {base : Heap}
abbrev s_force : Stmt := topS 108
abbrev s_lstarts : Stmt := topS 109
abbrev s_lzone : Stmt := topS 110
section
variable {X : Cx} {ρ ρ1 : List En} {es : List Expr} {pos p : Pos} {ds : List Dt} {rest : List Stmt} {P : Ou → Prop}
/-- x = [.., ..] -/
theorem SD.newLs {i : Nat} {x : Str} {lp : Pos} (h : EA X es ρ ds ρ1) (hk : SD X rest (ρ1.set i (.ol ds)) P) (hN : X.N.Nodup) (hl : ds.length ≤ 1000 := by exact Nat.le_of_ble_eq_true rfl) (hi : X.N[i]? = some x := by rfl) (h0 : i ≠ 0 := by decide) (hx : Loc X.env.scope x := by first | exact Or.inl rfl | exact Or.inr rfl)
    (hs : swapsWith (.List es lp) (some (.Name x p)) pos.line X.env = pure false := by rfl) (hf : X.fn x = true ∨ X.env.scope.names.lookup x = some .local := by first | exact .inl rfl | exact .inr rfl) : SD X (.Assign [.Name x p] (.List es lp) pos :: rest) ρ P :=
  .st (ps_set hN hi hx (pe_lst pa_c) hs hf) fun pp F G Hd H σ D er k => h pp F G Hd H σ _ er fun vs Hd1 H1 e1 er1 r1 => ⟨by rw [r1.length, sizeLine_eq]; omega, fun a ha => k.nx _ Hd1 _ _ e1 (er1.own (en := .ol ds) ha h0 ⟨a, vs, rfl, er1.fr.back ha, er1.fresh ha, upd_same, r1⟩) hk⟩
end
theorem up_pair : ∀ t : List GE, (∀ i e e', t[i]? = some e → t[i + 1]? = some e' → e.1 < e'.1) → t.Pairwise (fun a b => a.1 < b.1)
  | [], _ => .nil
  | [a], _ => .cons (fun _ h => nomatch h) .nil
  | a :: b :: r, h => by
    have ih := up_pair (b :: r) fun i e e' h1 h2 => h (i + 1) e e' h1 h2
    have hab : a.1 < b.1 := h 0 a b rfl rfl
    refine .cons (fun x hx => ?_) ih
    rcases List.mem_cons.mp hx with z | z
    · rw [z]; exact hab
    · exact Int.lt_trans hab ((List.pairwise_cons.mp ih).1 x z)
theorem filter_tw (mo : Int) : ∀ t : List GE, t.Pairwise (fun a b => a.1 < b.1) → t.filter (fun e => decide (e.1 ≤ mo)) = t.takeWhile fun e => decide (e.1 ≤ mo)
  | [], _ => rfl
  | a :: r, h => by
    obtain ⟨h1, h2⟩ := List.pairwise_cons.mp h
    rw [List.filter_cons, List.takeWhile_cons]
    by_cases ha : a.1 ≤ mo
    · rw [if_pos (decide_eq_true ha), if_pos (decide_eq_true ha), filter_tw mo r h2]
    · rw [if_neg (by simp [ha]), if_neg (by simp [ha])]
      rw [List.filter_eq_nil_iff]
      intro x hx
      have := h1 x hx
      simp
      omega
theorem tw_take {α : Type} (p : α → Bool) : ∀ l : List α, l.takeWhile p = l.take (l.takeWhile p).length
  | [] => rfl
  | a :: r => by
    rw [List.takeWhile_cons]
    split
    · rw [List.length_cons, List.take_succ_cons, ← tw_take p r]
    · rfl
theorem filter_force {t : List GE} (ok : OkGT t) {mo : Int} (h : 0 ≤ mo) : t.filter (fun e => decide (e.1 ≤ mo)) = t.take (fIx t mo + 1) := by
  have hp := up_pair t ok.up
  cases t with
  | nil => exact absurd rfl ok.ne
  | cons a r =>
    have h0 : a.1 = 0 := ok.h0 a rfl
    rw [List.filter_cons, if_pos (decide_eq_true (by omega)), List.take_succ_cons]
    show a :: _ = a :: r.take (r.takeWhile fun e => decide (e.1 ≤ mo)).length
    rw [← tw_take, filter_tw mo r (List.pairwise_cons.mp hp).2]
abbrev rFo : List Dt → Dt → Prop := fun ds d => ∃ t mo e, ds = [eGT t, .int mo] ∧ OkGT t ∧ 0 ≤ mo ∧ t[fIx t mo]? = some e ∧ d = eGE e
theorem sc_force : FnScope ["_law_timeline", "_law_moment", "_law_entry"] ["_law_timeline", "_law_moment"] (defScope s_force) := ⟨rfl, rfl, rfl, by decide, rfl, by decide, by decide⟩
theorem force_def (F : Fn K mg "_law_force" s_force) : DefOk P w K mg base "_law_force" 1 2 (spD P w K 2 rFo) :=
  defOk ["_law_timeline", "_law_moment", "_law_entry"] ["_law_timeline", "_law_moment"] F sc_force rfl (fun _ _ _ _ _ _ us h => by
    match us, h with
    | [_, _], _ => rfl) (by
    rintro fa cdv A outer s' H E hr ds d hl ⟨t, mo, e, rfl, ok, h0, he, rfl⟩
    have hz := gt_size ok.lz
    refine .ret (.ixL (.is (.lcF [("_law_entry", 2)] [2] (fun d => match d with | .tup (.int m :: _) => if m ≤ mo then some d else none | _ => none) rfl sc_force.nd (.list (.var (i := 0) rfl)) hz fun d hd => ?_) (d1 := .lst ((t.take (fIx t mo + 1)).map eGE)) ?_) (.neg .int) ?_) rfl
    · obtain ⟨g, _, rfl⟩ := List.mem_map.mp hd
      refine .if (b := decide (g.1 ≤ mo)) (fun _ _ _ _ _ => .name sc_force.nd) (Agree.wiped.set (by decide)) (fun _ _ _ _ _ => .cmp (.le (.ixT (d := .int g.1) (.var (i := 2) rfl) .int rfl) (.var (i := 1) rfl))) (fun h => ?_) fun h => ⟨eGE g, ?_, fun _ _ _ _ _ => .var (i := 2) rfl⟩
      · show (if g.1 ≤ mo then _ else _) = _
        rw [if_neg (of_decide_eq_false h)]
      · show (if g.1 ≤ mo then _ else _) = _
        rw [if_pos (of_decide_eq_true h)]
    · rw [← filter_force ok h0, List.filterMap_map]
      refine congrArg Dt.lst ?_
      generalize t = l
      induction l with
      | nil => rfl
      | cons g l ih =>
        rw [List.filterMap_cons, List.filter_cons]
        by_cases h : g.1 ≤ mo
        · have e1 : ((fun d => match d with | Dt.tup (.int m :: _) => if m ≤ mo then some d else none | _ => none) ∘ eGE) g = some (eGE g) := if_pos h
          rw [e1, if_pos (decide_eq_true h), List.map_cons]
          exact congrArg _ ih
        · have e1 : ((fun d => match d with | Dt.tup (.int m :: _) => if m ≤ mo then some d else none | _ => none) ∘ eGE) g = none := if_neg h
          rw [e1, if_neg (by simp [h])]
          exact ih
    · refine atI_last ?_
      have hlt := (List.getElem?_eq_some_iff.mp he).1
      have h1 : (t.map eGE)[fIx t mo]? = some (eGE e) := by rw [List.getElem?_map, he]; rfl
      rw [List.map_take]
      exact last_take h1)
/-! starts -/
theorem ded_app {α : Type} [DecidableEq α] (xs : List α) (ys : List α) : ys.Nodup → ded (xs ++ ys) = ded xs ++ ys.filter fun y => decide (y ∉ ded xs) := by
  induction ys using rev_ind with
  | h0 => intro _; simp
  | hs l a ih =>
    intro nd
    obtain ⟨n1, _, n3⟩ := List.nodup_append.mp nd
    have hal : a ∉ l := fun h => n3 a h a (.head _) rfl
    rw [← List.append_assoc, ded_snoc, ih n1, List.filter_append]
    by_cases h : a ∈ ded xs
    · rw [if_pos (List.mem_append_left _ h)]
      simp [h]
    · rw [if_neg (fun z => by
        rcases List.mem_append.mp z with z | z
        · exact h z
        · exact hal (List.mem_filter.mp z).1)]
      simp [h]
theorem moms_nd {p : Nm × Tl} (ok : OkGT (gt p.2)) : (moms p).Nodup := by
  have h := up_pair _ ok.up
  have e : moms p = (gt p.2).map (·.1) := by unfold moms gt; rw [List.map_map]; rfl
  rw [e]
  unfold List.Nodup
  rw [List.pairwise_map]
  exact h.imp fun h => by omega
theorem sc_lstarts : FnScope ["_law_story_here", "_law_found", "_law_name", "_law_entry"] ["_law_story_here"] (defScope s_lstarts) := ⟨rfl, rfl, rfl, by decide, rfl, by decide, by decide⟩
theorem ind_int (m : Int) (l : List Int) : ind (.int m) (l.map .int) = decide (m ∈ l) := ind_map (e := Dt.int) (fun a b h => by cases h; rfl) rfl fun _ _ => rfl
theorem plains_ints : ∀ l : List Int, plains (l.map .int) = true
  | [] => rfl
  | _ :: l => by show (true && plains (l.map .int)) = true; rw [plains_ints l]; rfl
theorem deps_ints : ∀ l : List Int, deps (l.map .int) = 0
  | [] => rfl
  | _ :: l => by show max 0 (deps (l.map .int)) = 0; rw [deps_ints l]; rfl
theorem lstarts_def (B : Bs mg) (F : Fn K mg "_law_starts" s_lstarts) : DefOk P w K mg base "_law_starts" 2 1 (spD P w K 1 rSts) :=
  defOk ["_law_story_here", "_law_found", "_law_name", "_law_entry"] ["_law_story_here"] F sc_lstarts rfl (fun _ _ _ _ _ _ us h => by
    match us, h with
    | [_], _ => rfl) (by
    rintro fa cdv A outer s' H E hr ds d hl ⟨s, rfl, ok, rfl⟩
    have hall := moms_all ok
    refine .asg (i := 1) (d := .lst ((ded ((s.take 0).flatMap moms)).map .int)) (.list .nil) ?_ sc_lstarts.nd
    refine .for rfl (.keys (.var (i := 0) rfl)) (fun i ρ => ∃ e2, ρ = [.dat (eSt s), .dat (.lst ((ded ((s.take i).flatMap moms)).map .int)), e2, .un] ∧ isOwn e2 = false) ⟨.un, rfl, rfl⟩ (fun i d ρ hi' hI => ?_) (fun ρ hI => ?_)
    · obtain ⟨e2, rfl, h2⟩ := hI
      unfold eKv at hi'
      rw [List.map_map, List.getElem?_map] at hi'
      cases q : s[i]? with
      | none => rw [q] at hi'; cases hi'
      | some p =>
        rw [q] at hi'
        have hd : d = eN p.1 := by
          have := Option.some.inj hi'
          rw [← this]
          exact nkD_nk p.1
        subst hd
        have hpm := List.mem_of_getElem? q
        obtain ⟨okt, h8, _⟩ := ok.tl p hpm
        have htl := tlOf_of ok.nd (show (p.1, p.2) ∈ s from hpm)
        have hst := flat_snoc moms q
        have hnd := moms_nd okt
        have hfl : ((s.take (i + 1)).flatMap moms).length ≤ 48 := Nat.le_trans (flat_take_le moms s (i + 1)) hall
        rw [hst, List.length_append] at hfl
        have hdl := ded_len ((s.take i).flatMap moms)
        have hml : (moms p).length ≤ 8 := by unfold moms; rw [List.length_map]; exact h8
        rw [hst]
        rw [ded_app _ _ hnd]
        generalize ded ((s.take i).flatMap moms) = fo at *
        refine ⟨_, _, .name (i := 2) sc_lstarts.nd, ?_⟩
        have e1 : ((gt p.2).map eGE).filterMap (fun d => match d with | Dt.tup (.int m :: _) => if m ∈ fo then (none : Option Dt) else some (Dt.int m) | _ => none) = ((moms p).filter fun y => decide (y ∉ fo)).map Dt.int := by
          unfold moms gt
          rw [List.map_map, List.filterMap_map]
          generalize p.2 = l
          induction l with
          | nil => rfl
          | cons g l ih =>
            rw [List.filterMap_cons, List.map_cons, List.filter_cons]
            by_cases h : g.1 ∈ fo
            · have e1 : ((fun d => match d with | Dt.tup (.int m :: _) => if m ∈ fo then (none : Option Dt) else some (Dt.int m) | _ => none) ∘ (eGE ∘ fun e : Int × Int × Vl => (e.1, e.2.1, eV e.2.2))) g = none := if_pos h
              rw [e1, if_neg (by simp [h])]
              exact ih
            · have e1 : ((fun d => match d with | Dt.tup (.int m :: _) => if m ∈ fo then (none : Option Dt) else some (Dt.int m) | _ => none) ∘ (eGE ∘ fun e : Int × Int × Vl => (e.1, e.2.1, eV e.2.2))) g = some (.int g.1) := if_neg h
              rw [e1, if_pos (by simp [h]), List.map_cons]
              exact congrArg _ ih
        refine .asg (i := 1) (d := .lst ((fo ++ (moms p).filter fun y => decide (y ∉ fo)).map .int)) (ρ1 := [.dat (eSt s), .dat (.lst (fo.map .int)), .dat (eN p.1), .un]) (.is (.addL (.var (i := 1) rfl) (.lcF [("_law_entry", 3)] [3] (fun d => match d with | .tup (.int m :: _) => if m ∈ fo then none else some (.int m) | _ => none) rfl sc_lstarts.nd (.list (.ixSt hr (.var (i := 0) rfl) (.var (i := 2) rfl) htl)) (gt_size okt.lz) fun d hd => ?_) ?_) ?_) (.nil ⟨.dat (eN p.1), rfl, rfl⟩) sc_lstarts.nd
        · obtain ⟨g, _, rfl⟩ := List.mem_map.mp hd
          refine .if (b := !ind (.int g.1) (fo.map .int)) (fun _ _ _ _ _ => .name sc_lstarts.nd) (Agree.wiped.set (by decide)) (fun _ _ _ _ _ => .cmp (.ninD hr (.ixT (d := .int g.1) (.var (i := 3) rfl) .int rfl) (.var (i := 1) rfl) rfl (plains_ints _) (Nat.zero_le _) (by show deps (fo.map .int) + 1 ≤ 64; rw [deps_ints]; decide))) (fun h => ?_) fun h => ⟨.int g.1, ?_, fun _ _ _ _ _ => .ixT (d := .int g.1) (.var (i := 3) rfl) .int rfl⟩
          · rw [ind_int] at h
            show (if g.1 ∈ fo then _ else _) = _
            rw [if_pos (by simpa using h)]
          · rw [ind_int] at h
            show (if g.1 ∈ fo then _ else _) = _
            rw [if_neg (by simpa using h)]
        · rw [e1, List.length_map, List.length_map, sizeLine_eq]
          have := List.length_filter_le (fun y => decide (y ∉ fo)) (moms p)
          omega
        · rw [e1, List.map_append]
    · obtain ⟨e2, rfl, _⟩ := hI
      have e1 : ((eKv s).map fun p => nkD p.1).length = s.length := by rw [List.length_map, st_len]
      rw [e1, List.take_length]
      have h1 := ded_len (s.flatMap moms)
      exact .ret (.sortedI B.sorted (.var (i := 1) rfl) (by omega) fun ns hp hs => by rw [sortI_is hp hs]; rfl) rfl)
end Rw
namespace Rw
open PySem PySem.Spec PyProof.Rows L2
variable {P : Program} {w : World} {K : PySem.W.Frag} {mg : Str → Option Value} {base : Heap}
/-- the tuple in force -/
def fE (t : Tl) (mo : Int) : Int × Int × Vl := t.getD (fIx (gt t) mo) (0, 0, .rows "z")
def zOf (s : Story) (mo : Int) : ZL := s.map fun p => (p.1, (fE p.2 mo).2.1, (fE p.2 mo).2.2)
theorem fE_at {t : Tl} (ok : OkGT (gt t)) (mo : Int) : t[fIx (gt t) mo]? = some (fE t mo) := by
  have h := fIx_size (mo := mo) ok.ne
  rw [gt_len] at h
  unfold fE
  rw [List.getD_eq_getElem?_getD, List.getElem?_eq_getElem h]
  rfl
theorem fE_mem {t : Tl} (ok : OkGT (gt t)) (mo : Int) : fE t mo ∈ t := List.mem_of_getElem? (fE_at ok mo)
theorem zOf_names (s : Story) (mo : Int) : zNames (zOf s mo) = namesOf s := by
  unfold zNames zOf namesOf
  rw [List.map_map]
  rfl
def AgesOk (s : Story) : Prop := ∀ q ∈ s, ∀ e ∈ q.2, e.2.1 ≤ 1000000000
theorem zOf_ok {s : Story} (ok : OkStory s) (ha : AgesOk s) (mo : Int) : OkZ (zOf s mo) := by
  refine ⟨by unfold zOf; rw [List.length_map]; exact ok.lz, by rw [zOf_names]; exact ok.nd, by rw [zOf_names]; exact ok.nm, fun e he => ?_⟩
  unfold zOf at he
  obtain ⟨p, hp, rfl⟩ := List.mem_map.mp he
  obtain ⟨h1, h2, h3⟩ := ok.tl p hp
  have hm := fE_mem h1 mo
  have hg : ((fE p.2 mo).1, (fE p.2 mo).2.1, eV (fE p.2 mo).2.2) ∈ gt p.2 := by
    unfold gt
    exact List.mem_map.mpr ⟨_, hm, rfl⟩
  have h4 := h1.m0 _ hg
  have h5 := ha p hp _ hm
  refine ⟨h4.2, by show (fE p.2 mo).2.1 < _; omega, ?_⟩
  rw [zOf_names]
  exact h3 _ hm
abbrev rLZ : List Dt → Dt → Prop := fun ds d => ∃ s mo, ds = [eSt s, .int mo] ∧ OkStory s ∧ AgesOk s ∧ 0 ≤ mo ∧ d = zonE (zOf s mo)
abbrev nLZ : List Str := ["_law_story_here", "_law_moment", "_law_rows", "_law_name", "_law_start", "_law_age", "_law_value"]
theorem sc_lzone : FnScope nLZ ["_law_story_here", "_law_moment"] (defScope s_lzone) := ⟨rfl, rfl, rfl, by decide, rfl, by decide, by decide⟩
theorem lzone_def (I : InitOk P w K mg base) (DF : DefOk P w K mg base "_law_force" 1 2 (spD P w K 2 rFo)) (F : Fn K mg "_law_zone" s_lzone) : DefOk P w K mg base "_law_zone" 11 2 (spD P w K 2 rLZ) :=
  defOk nLZ ["_law_story_here", "_law_moment"] F sc_lzone rfl (fun _ _ _ _ _ _ us h => by
    match us, h with
    | [_, _], _ => rfl) (by
    rintro fa cdv A outer s' H E hr ds d hl ⟨s, mo, rfl, ok, ha, h0, rfl⟩
    have hr1 := hr.mono (show 1 ≤ 10 by decide)
    have hlz := ok.lz
    have hz0 : (zrows ((zOf s mo).take 0)).map eR = [.tup [.tup [], .str "start", .int 9, .tup [.tup [.str "h"], .int 1, .int 2, .int 3, .int 4, .int 5]], .tup [.tup [], .str "server", .int 9, .tup [.str "h"]]] := rfl
    refine .newLs (i := 2) (ds := [.tup [.tup [], .str "start", .int 9, .tup [.tup [.str "h"], .int 1, .int 2, .int 3, .int 4, .int 5]], .tup [.tup [], .str "server", .int 9, .tup [.str "h"]]]) (ρ1 := ρ0 nLZ [eSt s, Dt.int mo]) ?ea ?hk ?nd
    case nd => exact sc_lzone.nd
    case ea =>
      refine .cons (ρ1 := ρ0 nLZ [eSt s, Dt.int mo]) ?_ ?_
      · refine .tup ?_
        refine .cons (ρ1 := ρ0 nLZ [eSt s, Dt.int mo]) ?_ ?_
        · refine .tup ?_
          exact .nil
        refine .cons (ρ1 := ρ0 nLZ [eSt s, Dt.int mo]) ?_ ?_
        · exact .str
        refine .cons (ρ1 := ρ0 nLZ [eSt s, Dt.int mo]) ?_ ?_
        · exact .int
        refine .one ?_
        refine .tup ?_
        refine .cons (ρ1 := ρ0 nLZ [eSt s, Dt.int mo]) ?_ ?_
        · refine .tup ?_
          refine .one ?_
          exact .str
        refine .cons (ρ1 := ρ0 nLZ [eSt s, Dt.int mo]) ?_ ?_
        · exact .int
        refine .cons (ρ1 := ρ0 nLZ [eSt s, Dt.int mo]) ?_ ?_
        · exact .int
        refine .cons (ρ1 := ρ0 nLZ [eSt s, Dt.int mo]) ?_ ?_
        · exact .int
        refine .cons (ρ1 := ρ0 nLZ [eSt s, Dt.int mo]) ?_ ?_
        · exact .int
        refine .one ?_
        exact .int
      · refine .one ?_
        refine .tup ?_
        refine .cons (ρ1 := ρ0 nLZ [eSt s, Dt.int mo]) ?_ ?_
        · refine .tup ?_
          exact .nil
        refine .cons (ρ1 := ρ0 nLZ [eSt s, Dt.int mo]) ?_ ?_
        · exact .str
        refine .cons (ρ1 := ρ0 nLZ [eSt s, Dt.int mo]) ?_ ?_
        · exact .int
        refine .one ?_
        refine .tup ?_
        refine .one ?_
        exact .str
    refine .for rfl (.keys (.var (i := 0) rfl)) (fun i ρ => ∃ e3 e4 e5 e6, ρ = [.dat (eSt s), .dat (.int mo), .ol ((zrows ((zOf s mo).take i)).map eR), e3, e4, e5, e6] ∧ isOwn e3 = false ∧ isOwn e4 = false ∧ isOwn e5 = false ∧ isOwn e6 = false) ⟨.un, .un, .un, .un, by rw [hz0]; rfl, rfl, rfl, rfl, rfl⟩ (fun i d ρ hi' hI => ?_) (fun ρ hI => ?_)
    · obtain ⟨e3, e4, e5, e6, rfl, h3, h4, h5, h6⟩ := hI
      unfold eKv at hi'
      rw [List.map_map, List.getElem?_map] at hi'
      cases q : s[i]? with
      | none => rw [q] at hi'; cases hi'
      | some p =>
        rw [q] at hi'
        have hd : d = eN p.1 := by
          have := Option.some.inj hi'
          rw [← this]
          exact nkD_nk p.1
        subst hd
        have hpm := List.mem_of_getElem? q
        obtain ⟨okt, h8, _⟩ := ok.tl p hpm
        have htl := tlOf_of ok.nd (show (p.1, p.2) ∈ s from hpm)
        have hfe := fE_at okt mo
        have hge : (gt p.2)[fIx (gt p.2) mo]? = some ((fE p.2 mo).1, (fE p.2 mo).2.1, eV (fE p.2 mo).2.2) := by rw [gt_get, hfe]; rfl
        have hzi : (zOf s mo)[i]? = some (p.1, (fE p.2 mo).2.1, (fE p.2 mo).2.2) := by unfold zOf; rw [List.getElem?_map, q]; rfl
        have hil : i < s.length := (List.getElem?_eq_some_iff.mp q).1
        refine ⟨_, _, .name (i := 3) sc_lzone.nd, ?_⟩
        refine .unpack (.call DF hr1 (.cons (.ixSt hr1 (.var (i := 0) rfl) (.var (i := 3) rfl) htl) (.one (.var (i := 1) rfl))) ⟨gt p.2, mo, _, rfl, okt, h0, hge, rfl⟩) (.tup rfl (.cons (.name (i := 4) sc_lzone.nd) (.cons (.name (i := 5) sc_lzone.nd) (.cons (.name (i := 6) sc_lzone.nd) .nil))) rfl) ?_
        refine .app (i := 2) (d := eR (rowOf (p.1, (fE p.2 mo).2.1, (fE p.2 mo).2.2))) (ρ1 := [.dat (eSt s), .dat (.int mo), .ol ((zrows ((zOf s mo).take i)).map eR), .dat (eN p.1), .dat (.int (fE p.2 mo).1), .dat (.int (fE p.2 mo).2.1), .dat (eV (fE p.2 mo).2.2)]) rfl ?_ rfl ?_ (.nil ⟨.dat (eN p.1), .dat (.int (fE p.2 mo).1), .dat (.int (fE p.2 mo).2.1), .dat (eV (fE p.2 mo).2.2), ?_, rfl, rfl, rfl, rfl⟩)
        · generalize fE p.2 mo = e
          obtain ⟨st, ag, v⟩ := e
          cases v with
          | rows x => exact .ifE (k := true) (.is (.cmp (.eqS (.ixT (d := .str "rows") (.var (i := 6) rfl) .int rfl) .str)) (by decide)) (fun _ => .tup (.cons (.var (i := 3) rfl) (.cons .str (.cons (.var (i := 5) rfl) (.one (.ixT (d := .str x) (.var (i := 6) rfl) .int rfl)))))) fun h => by cases h
          | to m => exact .ifE (k := false) (.is (.cmp (.eqS (.ixT (d := .str "to") (.var (i := 6) rfl) .int rfl) .str)) (by decide)) (fun h => by cases h) fun _ => .tup (.cons (.var (i := 3) rfl) (.cons .str (.cons (.var (i := 5) rfl) (.one (.ixT (d := eN m) (.var (i := 6) rfl) .int rfl)))))
        · unfold zrows
          rw [List.length_map, List.length_cons, List.length_cons, List.length_map, List.length_take, sizeLine_eq]
          omega
        · rw [List.take_add_one, hzi]
          unfold zrows
          simp
    · obtain ⟨e3, e4, e5, e6, rfl, _⟩ := hI
      have e1 : ((eKv s).map fun p => nkD p.1).length = (zOf s mo).length := by unfold zOf; rw [List.length_map, st_len, List.length_map]
      rw [e1, List.take_length]
      exact .ret (.make I hr (.cons (.tup .nil) (.one (.own (i := 2) rfl))) (zOf_ok ok ha mo)) rfl)
end Rw
namespace Rw
open PySem PySem.Spec PyProof.Rows L2
/-! walks, plainly -/
def zval (l : ZL) (n : Nm) : Vl := match zent l n with
  | some e => e.2.2
  | none => .rows "z"
def wkF (f : Nm → Vl) : Nat → Nm → Ps
  | 0, _ => []
  | k + 1, n => match f n with
    | .rows s => [(n, .rows s)]
    | .to m => (n, .to m) :: wkF f k m
theorem wkF_rows {f : Nm → Vl} {n : Nm} {s : Str} (k : Nat) (h : f n = .rows s) : wkF f (k + 1) n = [(n, .rows s)] := by
  unfold wkF
  rw [h]
theorem wkF_to {f : Nm → Vl} {n m : Nm} (k : Nat) (h : f n = .to m) : wkF f (k + 1) n = (n, .to m) :: wkF f k m := by
  show (match f n with | .rows s => _ | .to m => _) = _
  rw [h]
theorem wkF_one (f : Nm → Vl) (n : Nm) : wkF f 1 n = [(n, f n)] := by
  cases h : f n with
  | rows s => exact wkF_rows 0 h
  | to m => exact wkF_to 0 h
theorem wkF_len (f : Nm → Vl) : ∀ k n, (wkF f k n).length ≤ k
  | 0, _ => Nat.le_refl _
  | k + 1, n => by
    cases h : f n with
    | rows s => rw [wkF_rows k h]; simp
    | to m => rw [wkF_to k h, List.length_cons]; have := wkF_len f k m; omega
theorem wkF_last (f : Nm → Vl) : ∀ k n, ∃ init x, wkF f (k + 1) n = init ++ [(x, f x)] ∧ (∀ s, f x = .rows s → wkF f (k + 2) n = wkF f (k + 1) n) ∧ ∀ m, f x = .to m → wkF f (k + 2) n = wkF f (k + 1) n ++ [(m, f m)]
  | 0, n => by
    refine ⟨[], n, wkF_one f n, fun s h => ?_, fun m h => ?_⟩
    · rw [wkF_rows 1 h, wkF_rows 0 h]
    · rw [wkF_to 1 h, wkF_to 0 h, wkF_one]; rfl
  | k + 1, n => by
    cases h : f n with
    | rows s => exact ⟨[], n, by rw [wkF_rows _ h, h]; rfl, fun s' h' => by rw [wkF_rows _ h, wkF_rows _ h], fun m h' => by rw [h] at h'; cases h'⟩
    | to m =>
      obtain ⟨init, x, h1, h2, h3⟩ := wkF_last f k m
      refine ⟨(n, .to m) :: init, x, by rw [wkF_to _ h, h1]; rfl, fun s hs => ?_, fun y hy => ?_⟩
      · rw [wkF_to (k + 2) h, wkF_to (k + 1) h, h2 s hs]
      · rw [wkF_to (k + 2) h, wkF_to (k + 1) h, h3 y hy]; rfl
theorem wkF_in {f : Nm → Vl} {C : Nm → Prop} (hc : ∀ x m, C x → f x = .to m → C m) : ∀ k n, C n → ∀ q ∈ wkF f k n, C q.1 ∧ q.2 = f q.1
  | 0, _, _, q, hq => nomatch hq
  | k + 1, n, hn, q, hq => by
    cases h : f n with
    | rows s =>
      rw [wkF_rows k h] at hq
      rw [List.mem_singleton.mp hq]
      exact ⟨hn, h.symm⟩
    | to m =>
      rw [wkF_to k h] at hq
      rcases List.mem_cons.mp hq with z | z
      · rw [z]; exact ⟨hn, h.symm⟩
      · exact wkF_in hc k m (hc n m hn h) q z
theorem wkF_congr {f g : Nm → Vl} {C : Nm → Prop} (hc : ∀ x m, C x → f x = .to m → C m) (hfg : ∀ x, C x → f x = g x) : ∀ k n, C n → wkF f k n = wkF g k n
  | 0, _, _ => rfl
  | k + 1, n, hn => by
    have e := hfg n hn
    cases h : f n with
    | rows s => rw [wkF_rows k h, wkF_rows k (e ▸ h)]
    | to m => rw [wkF_to k h, wkF_to k (e ▸ h), wkF_congr hc hfg k m (hc n m hn h)]
theorem wkF_pre (f : Nm → Vl) : ∀ j k n, j ≤ k → ∃ r, wkF f k n = wkF f j n ++ r
  | 0, k, n, _ => ⟨wkF f k n, rfl⟩
  | j + 1, 0, n, h => by omega
  | j + 1, k + 1, n, h => by
    cases hn : f n with
    | rows s => exact ⟨[], by rw [wkF_rows k hn, wkF_rows j hn]; rfl⟩
    | to m =>
      obtain ⟨r, hr⟩ := wkF_pre f j k m (by omega)
      exact ⟨r, by rw [wkF_to k hn, wkF_to j hn, hr]; rfl⟩
theorem wkF_stop {f : Nm → Vl} {x : Nm} {s : Str} : ∀ j k n, j ≤ k → (wkF f j n).getLast? = some (x, .rows s) → wkF f k n = wkF f j n
  | 0, k, n, _, h => by cases h
  | j + 1, 0, n, h, _ => by omega
  | j + 1, k + 1, n, h, hl => by
    cases hn : f n with
    | rows s => rw [wkF_rows k hn, wkF_rows j hn]
    | to m =>
      rw [wkF_to j hn] at hl
      rw [wkF_to k hn, wkF_to j hn]
      cases q : wkF f j m with
      | nil => rw [q] at hl; cases hl
      | cons a r =>
        rw [q, List.getLast?_cons_cons] at hl
        rw [← q] at hl
        rw [wkF_stop j k m (by omega) hl, q]
theorem wkF_full {f : Nm → Vl} {C : Nm → Prop} (hc : ∀ x, C x → ∃ m, f x = .to m ∧ C m) : ∀ k n, C n → (wkF f k n).length = k
  | 0, _, _ => rfl
  | k + 1, n, hn => by
    obtain ⟨m, h1, h2⟩ := hc n hn
    rw [wkF_to k h1, List.length_cons, wkF_full hc k m h2]
theorem zent_of {l : ZL} (nd : (zNames l).Nodup) {e : ZE} (he : e ∈ l) : zent l e.1 = some e := by
  unfold zent
  obtain ⟨a, b, rfl⟩ := List.append_of_mem he
  have ha : ∀ x ∈ a, x.1 ≠ e.1 := fun x hx z => by
    unfold zNames at nd
    rw [List.map_append, List.map_cons] at nd
    have h := (List.nodup_append.mp nd).2.2 x.1 (List.mem_map.mpr ⟨x, hx, rfl⟩) e.1 (.head _)
    exact h z
  rw [List.find?_append]
  have h1 : a.find? (fun x => decide (x.1 = e.1)) = none := by
    rw [List.find?_eq_none]
    intro x hx
    simpa using ha x hx
  rw [h1, List.find?_cons, decide_eq_true rfl]
  rfl
theorem zval_of {l : ZL} (nd : (zNames l).Nodup) {e : ZE} (he : e ∈ l) : zval l e.1 = e.2.2 := by
  unfold zval
  rw [zent_of nd he]
def prs (c : List ZE) : Ps := c.map fun x => (x.1, x.2.2)
structure WalkZ (l : ZL) (c : List ZE) (e : ZE) (r : List ZE × Str × Nm) (c2 : List ZE) : Prop where
  eq : r.1 = c ++ e :: c2
  inl : ∀ x ∈ e :: c2, x ∈ l
  nd : ((c ++ e :: c2).map (·.1)).Nodup
  wk : wkF (zval l) (c2.length + 1) e.1 = prs (e :: c2)
  cl : ∀ x ∈ e :: c2, ∀ m, x.2.2 = .to m → m ∈ (c ++ e :: c2).map (·.1)
  fin : (r.2.1 = "told" ∧ ∃ s x, (e :: c2).getLast? = some x ∧ x.1 = r.2.2 ∧ x.2.2 = .rows s) ∨ (r.2.1 = "ring" ∧ r.2.2 ∈ (c ++ e :: c2).map (·.1) ∧ ∀ x ∈ e :: c2, ∃ m, x.2.2 = .to m)
theorem walkZ_ok {l : ZL} (ok : OkZ l) : ∀ k e c, e ∈ l → (∀ x ∈ c, x ∈ l) → ((c ++ [e]).map (·.1)).Nodup → l.length ≤ c.length + k → ∃ c2, WalkZ l c e (walkZ l k e c) c2
  | 0, e, c, he, hc, nd, hk => by
    exfalso
    have hsub : ∀ n ∈ (c ++ [e]).map (·.1), n ∈ zNames l := fun n hn => by
      obtain ⟨x, hx, rfl⟩ := List.mem_map.mp hn
      rcases List.mem_append.mp hx with z | z
      · exact List.mem_map.mpr ⟨x, hc x z, rfl⟩
      · rw [List.mem_singleton.mp z]; exact List.mem_map.mpr ⟨e, he, rfl⟩
    have := nodup_sub_len nd hsub
    unfold zNames at this
    rw [List.length_map, List.length_append, List.length_map, List.length_singleton] at this
    omega
  | k + 1, e, c, he, hc, nd, hk => by
    have hv := zval_of ok.nd he
    have hov := (ok.ok e he).2.2
    unfold walkZ nxOf
    cases hx : e.2.2 with
    | rows s =>
      refine ⟨[], rfl, fun x hx => by rw [List.mem_singleton.mp hx]; exact he, nd, ?_, fun x hx' m hm => ?_, .inl ⟨rfl, s, e, rfl, rfl, hx⟩⟩
      · show wkF (zval l) 1 e.1 = [(e.1, e.2.2)]
        rw [wkF_one, hv]
      · rw [List.mem_singleton.mp hx', hx] at hm
        cases hm
    | to m =>
      rw [hx] at hov
      dsimp only
      by_cases hm : m ∈ (c ++ [e]).map (·.1)
      · rw [if_pos hm]
        refine ⟨[], rfl, fun x hx => by rw [List.mem_singleton.mp hx]; exact he, nd, ?_, fun x hx' m' hm' => ?_, .inr ⟨rfl, hm, fun x hx' => ⟨m, by rw [List.mem_singleton.mp hx']; exact hx⟩⟩⟩
        · show wkF (zval l) 1 e.1 = [(e.1, e.2.2)]
          rw [wkF_one, hv]
        · rw [List.mem_singleton.mp hx', hx] at hm'
          cases hm'
          exact hm
      · rw [if_neg hm]
        obtain ⟨e', h1, h2, h3⟩ := zent_some (l := l) (n := m) hov
        rw [h1]
        dsimp only
        have nd' : (((c ++ [e]) ++ [e']).map (·.1)).Nodup := by
          rw [List.map_append]
          refine List.nodup_append.mpr ⟨nd, by simp, fun a ha b hb => ?_⟩
          rw [List.mem_singleton.mp hb]
          intro z
          have z : a = e'.1 := z
          rw [z, h3] at ha
          exact hm ha
        obtain ⟨c2, w⟩ := walkZ_ok ok k e' (c ++ [e]) h2 (fun x hx' => by
          rcases List.mem_append.mp hx' with z | z
          · exact hc x z
          · rw [List.mem_singleton.mp z]; exact he) nd' (by rw [List.length_append, List.length_singleton]; omega)
        have ea : (c ++ [e]) ++ e' :: c2 = c ++ e :: (e' :: c2) := by simp
        refine ⟨e' :: c2, by rw [w.eq, ea], fun x hx' => ?_, by rw [← ea]; exact w.nd, ?_, fun x hx' m' hm' => ?_, ?_⟩
        · rcases List.mem_cons.mp hx' with z | z
          · rw [z]; exact he
          · exact w.inl x z
        · show wkF (zval l) (c2.length + 1 + 1) e.1 = (e.1, e.2.2) :: prs (e' :: c2)
          rw [wkF_to _ (hv.trans hx), ← h3, w.wk, hx, h3]
        · rcases List.mem_cons.mp hx' with z | z
          · rw [z, hx] at hm'
            cases hm'
            rw [← h3]
            exact List.mem_map.mpr ⟨e', by simp, rfl⟩
          · rw [← ea]
            exact w.cl x z m' hm'
        · rcases w.fin with ⟨z1, s, x, z2, z3, z4⟩ | ⟨z1, z2, z3⟩
          · exact .inl ⟨z1, s, x, by rw [List.getLast?_cons_cons]; exact z2, z3, z4⟩
          · refine .inr ⟨z1, by rw [← ea]; exact z2, fun x hx' => ?_⟩
            rcases List.mem_cons.mp hx' with z | z
            · rw [z]; exact ⟨m, hx⟩
            · exact z3 x z
/-- the end of a chase and the walk of its name -/
theorem walk_end {l : ZL} (ok : OkZ l) {e : ZE} (he : e ∈ l) : ∃ init x, wkF (zval l) l.length e.1 = init ++ [(x, zval l x)] ∧
    (((walkZ l l.length e []).2.1 = "told" ∧ x = (walkZ l l.length e []).2.2 ∧ ∃ s, zval l x = .rows s) ∨
     ((walkZ l l.length e []).2.1 = "ring" ∧ (∃ m, zval l x = .to m) ∧ (walkZ l l.length e []).2.2 ∈ (wkF (zval l) l.length e.1).map (·.1))) := by
  obtain ⟨c2, w⟩ := walkZ_ok ok l.length e [] he (fun x hx => nomatch hx) (by simp) (by simp)
  have hlen : c2.length + 1 ≤ l.length := by
    have hsub : ∀ n ∈ (e :: c2).map (·.1), n ∈ zNames l := fun n hn => by
      obtain ⟨x, hx, rfl⟩ := List.mem_map.mp hn
      exact List.mem_map.mpr ⟨x, w.inl x hx, rfl⟩
    have := nodup_sub_len (show ((e :: c2).map (·.1)).Nodup from w.nd) hsub
    unfold zNames at this
    rw [List.length_map, List.length_map, List.length_cons] at this
    exact this
  obtain ⟨k, hk⟩ : ∃ k, l.length = k + 1 := ⟨l.length - 1, by omega⟩
  obtain ⟨init, x, h1, _, _⟩ := wkF_last (zval l) k e.1
  rw [← hk] at h1
  refine ⟨init, x, h1, ?_⟩
  rcases w.fin with ⟨z1, s, y, z2, z3, z4⟩ | ⟨z1, z2, z3⟩
  · refine .inl ⟨z1, ?_⟩
    have hlast : (wkF (zval l) (c2.length + 1) e.1).getLast? = some (y.1, .rows s) := by
      rw [w.wk]
      unfold prs
      rw [List.getLast?_map, z2]
      show some (y.1, y.2.2) = _
      rw [z4]
    have hst := wkF_stop _ l.length e.1 hlen hlast
    rw [← hst, h1] at hlast
    rw [List.getLast?_concat] at hlast
    have e1 := Option.some.inj hlast
    have e2 : x = y.1 := congrArg Prod.fst e1
    exact ⟨e2.trans z3, s, congrArg Prod.snd e1⟩
  · refine .inr ⟨z1, ?_, ?_⟩
    · have hC : ∀ a, a ∈ (e :: c2).map (·.1) → ∃ m, zval l a = .to m ∧ m ∈ (e :: c2).map (·.1) := fun a ha => by
        obtain ⟨y, hy, rfl⟩ := List.mem_map.mp ha
        obtain ⟨m, hm⟩ := z3 y hy
        exact ⟨m, by rw [zval_of ok.nd (w.inl y hy), hm], w.cl y hy m hm⟩
      have hin := wkF_in (f := zval l) (C := fun a => a ∈ (e :: c2).map (·.1)) (fun a m ha hm => by
        obtain ⟨m', h1, h2⟩ := hC a ha
        rw [hm] at h1
        cases h1
        exact h2) l.length e.1 (by simp) (x, zval l x) (by rw [h1]; simp)
      obtain ⟨m, hm, _⟩ := hC x hin.1
      exact ⟨m, hm⟩
    · obtain ⟨r, hr⟩ := wkF_pre (zval l) _ l.length e.1 hlen
      rw [hr, w.wk, List.map_append]
      refine List.mem_append_left _ ?_
      have : (prs (e :: c2)).map (·.1) = (e :: c2).map (·.1) := by unfold prs; rw [List.map_map]; rfl
      rw [this]
      exact z2
end Rw
namespace Rw
open PySem PySem.Spec PyProof.Rows L2
variable {P : Program} {w : World} {K : PySem.W.Frag} {mg : Str → Option Value} {base : Heap}
abbrev s_lwalk : Stmt := topS 111
abbrev s_ends : Stmt := topS 112
/-! the dict of what is had -/
theorem lk_map_put (k k' : NestedKey) (d : Dt) : ∀ kvs : List (NestedKey × Dt), lk (kvs.map fun p => if p.1 = k then (p.1, d) else p) k' = if k = k' then (lk kvs k').map (fun _ => d) else lk kvs k'
  | [] => by simp [lk]
  | p :: r => by
    have ih := lk_map_put k k' d r
    rw [List.map_cons]
    show (if (if p.1 = k then (p.1, d) else p).1 = k' then some (if p.1 = k then (p.1, d) else p).2 else lk (r.map _) k') = if k = k' then (if p.1 = k' then some p.2 else lk r k').map (fun _ => d) else if p.1 = k' then some p.2 else lk r k'
    rw [ih]
    by_cases h1 : p.1 = k
    · rw [if_pos h1]
      by_cases h2 : k = k'
      · rw [if_pos h2, if_pos (show (p.1, d).1 = k' from h1.trans h2), if_pos (h1.trans h2), if_pos h2]
        rfl
      · rw [if_neg h2, if_neg (show ¬ (p.1, d).1 = k' from fun z => h2 (h1.symm.trans z)), if_neg (fun z => h2 (h1.symm.trans z)), if_neg h2]
    · rw [if_neg h1]
      by_cases h2 : k = k'
      · rw [if_pos h2, if_pos h2, if_neg (fun z => h1 (z.trans h2.symm)), if_neg (fun z => h1 (z.trans h2.symm))]
      · rw [if_neg h2, if_neg h2]
theorem lk_snoc (k k' : NestedKey) (d : Dt) : ∀ kvs : List (NestedKey × Dt), lk (kvs ++ [(k, d)]) k' = match lk kvs k' with
    | some x => some x
    | none => if k = k' then some d else none
  | [] => rfl
  | p :: r => by
    have ih := lk_snoc k k' d r
    show (if p.1 = k' then some p.2 else lk (r ++ [(k, d)]) k') = match (if p.1 = k' then some p.2 else lk r k') with | some x => some x | none => if k = k' then some d else none
    by_cases h : p.1 = k'
    · rw [if_pos h, if_pos h]
    · rw [if_neg h, if_neg h, ih]
theorem lk_put (kvs : List (NestedKey × Dt)) (k k' : NestedKey) (d : Dt) : lk (dput kvs k d) k' = if k = k' then some d else lk kvs k' := by
  unfold dput
  by_cases h : (lk kvs k).isSome = true
  · rw [if_pos h, lk_map_put]
    by_cases h2 : k = k'
    · rw [if_pos h2, if_pos h2, ← h2]
      cases z : lk kvs k with
      | none => rw [z] at h; cases h
      | some x => rfl
    · rw [if_neg h2, if_neg h2]
  · rw [if_neg h, lk_snoc]
    by_cases h2 : k = k'
    · subst h2
      rw [if_pos rfl]
      cases z : lk kvs k with
      | none => rw [if_pos rfl]
      | some x => rw [z] at h; exact absurd rfl h
    · rw [if_neg h2, if_neg h2]
      cases lk kvs k' <;> rfl
def hadK (c : List ZE) : List (NestedKey × Dt) := c.foldl (fun acc e => dput acc (nk e.1) (eV e.2.2)) []
theorem hadK_snoc (c : List ZE) (e : ZE) : hadK (c ++ [e]) = dput (hadK c) (nk e.1) (eV e.2.2) := by unfold hadK; rw [List.foldl_append]; rfl
theorem hadK_len (c : List ZE) : (hadK c).length ≤ c.length := by
  induction c using rev_ind with
  | h0 => exact Nat.le_refl _
  | hs l a ih =>
    rw [hadK_snoc, List.length_append]
    have := dput_length (hadK l) (nk a.1) (eV a.2.2)
    simp
    omega
theorem lk_had {f : Nm → Vl} (c : List ZE) : (∀ e ∈ c, e.2.2 = f e.1) → ∀ n ∈ c.map (·.1), lk (hadK c) (nk n) = some (eV (f n)) := by
  induction c using rev_ind with
  | h0 => intro _ n hn; nomatch hn
  | hs l a ih =>
    intro h n hn
    rw [hadK_snoc, lk_put]
    by_cases z : nk a.1 = nk n
    · rw [if_pos z, h a (by simp), nk_inj z]
    · rw [if_neg z]
      refine ih (fun e he => h e (List.mem_append_left _ he)) n ?_
      rw [List.map_append] at hn
      rcases List.mem_append.mp hn with y | y
      · exact y
      · exact absurd (by rw [List.mem_singleton.mp y]) z
abbrev rLW : List Dt → Dt → Prop := fun ds d => ∃ l n m, ds = [zonE l, eN n, .int (m : Nat)] ∧ OkZ l ∧ n ∈ zNames l ∧ 1 ≤ m ∧ m ≤ 6 ∧ d = ePs (wkF (zval l) m n)
abbrev nLW : List Str := ["_law_zone_here", "_law_name", "_law_many", "_law_had", "_law_one", "_law_answer", "_law_pairs", "_law_turn_here"]
theorem sc_lwalk : FnScope nLW ["_law_zone_here", "_law_name", "_law_many"] (defScope s_lwalk) := ⟨rfl, rfl, rfl, by decide, rfl, by decide, by decide⟩
theorem last_concat {α : Type} {f : α → Dt} {l : List α} {init : List α} {x : α} (h : l = init ++ [x]) : atI (l.map f) (-1) = some (f x) := by
  refine atI_last ?_
  rw [h, List.map_append]
  exact List.getLast?_concat
theorem lwalk_def (B : Bs mg) (DC : DefOk P w K mg base "chase" 7 3 (spD P w K 3 (rWk fun r => eCh r.1))) (F : Fn K mg "_law_walk" s_lwalk) : DefOk P w K mg base "_law_walk" 8 3 (spD P w K 3 rLW) :=
  defOk nLW ["_law_zone_here", "_law_name", "_law_many"] F sc_lwalk rfl (fun _ _ _ _ _ _ us h => by
    match us, h with
    | [_, _, _], _ => rfl) (by
    rintro fa cdv A outer s' H E hr ds d hl ⟨l, n, m, rfl, ok, hn, m1, m6, rfl⟩
    obtain ⟨e, he, hen⟩ := List.mem_map.mp hn
    subst hen
    obtain ⟨c2, w⟩ := walkZ_ok ok l.length e [] he (fun x hx => nomatch hx) (by simp) (by simp)
    have hc : (walkZ l l.length e []).1 = e :: c2 := w.eq
    have hlen : (e :: c2).length ≤ 6 := by
      have hsub : ∀ n ∈ (e :: c2).map (·.1), n ∈ zNames l := fun n hn => by
        obtain ⟨x, hx, rfl⟩ := List.mem_map.mp hn
        exact List.mem_map.mpr ⟨x, w.inl x hx, rfl⟩
      have := nodup_sub_len (show ((e :: c2).map (·.1)).Nodup from w.nd) hsub
      unfold zNames at this
      rw [List.length_map, List.length_map] at this
      have := ok.lz
      omega
    have hval : ∀ x ∈ e :: c2, x.2.2 = zval l x.1 := fun x hx => (zval_of ok.nd (w.inl x hx)).symm
    have hin : e ∈ e :: c2 := .head _
    have hcl : ∀ a m, a ∈ (e :: c2).map (·.1) → zval l a = .to m → m ∈ (e :: c2).map (·.1) := fun a m ha hm => by
      obtain ⟨y, hy, rfl⟩ := List.mem_map.mp ha
      exact w.cl y hy m ((hval y hy).trans hm)
    have hcall : rWk (fun r => eCh r.1) [zonE l, eN e.1, .str "text"] (eCh (e :: c2)) := ⟨l, e, rfl, ok, he, by show _ = eCh (walkZ l l.length e []).1; rw [hc]⟩
    generalize e :: c2 = c at *
    refine .newD (i := 3) ?_ sc_lwalk.nd
    refine .for rfl (.list (.call DC hr (.cons (.var (i := 0) rfl) (.cons (.var (i := 1) rfl) (.one .str))) hcall)) (fun i ρ => ∃ e4 e5, ρ = [.dat (zonE l), .dat (eN e.1), .dat (.int (m : Nat)), .od (hadK (c.take i)), e4, e5, .un, .un] ∧ isOwn e4 = false ∧ isOwn e5 = false) ⟨.un, .un, rfl, rfl, rfl⟩ (fun i d ρ hi' hI => ?_) (fun ρ hI => ?_)
    · obtain ⟨e4, e5, rfl, h4, h5⟩ := hI
      rw [List.getElem?_map] at hi'
      cases q : c[i]? with
      | none => rw [q] at hi'; cases hi'
      | some x =>
        rw [q] at hi'
        cases hi'
        have hil : i < c.length := (List.getElem?_eq_some_iff.mp q).1
        have hkl := hadK_len (c.take i)
        rw [List.length_take] at hkl
        refine ⟨_, _, .tup rfl (.cons (.name (i := 4) sc_lwalk.nd) (.cons (.name (i := 5) sc_lwalk.nd) .nil)) rfl, ?_⟩
        refine .putK (i := 3) (d := eV x.2.2) (ks := x.1.map .text) (ρ1 := [.dat (zonE l), .dat (eN e.1), .dat (.int (m : Nat)), .od (hadK (c.take i)), .dat (eN x.1), .dat (ansOf x), .un, .un]) hr ?_ (.key (n := x.1) (.var (i := 4) rfl)) ⟨_, rfl⟩ rfl (depth_nk x.1) (by rw [sizeLine_eq]; omega) (.nil ⟨.dat (eN x.1), .dat (ansOf x), ?_, rfl, rfl⟩)
        · obtain ⟨xn, ag, v⟩ := x
          cases v with
          | rows s => exact .ifE (k := true) (.is (.cmp (.eqS (.ixT (d := .str "found") (.var (i := 5) rfl) .int rfl) .str)) (by decide)) (fun _ => .tup (.cons .str (.one (.ixT (d := .str s) (.ixT (d := .tup [.str s]) (.var (i := 5) rfl) .int rfl) .int rfl)))) fun h => by cases h
          | to m => exact .ifE (k := false) (.is (.cmp (.eqS (.ixT (d := .str "alias") (.var (i := 5) rfl) .int rfl) .str)) (by decide)) (fun h => by cases h) fun _ => .tup (.cons .str (.one (.ixT (d := eN m) (.var (i := 5) rfl) .int rfl)))
        · rw [List.take_add_one, q]
          show _ = [_, _, _, En.od (hadK (c.take i ++ [x])), _, _, _, _]
          rw [hadK_snoc]
          rfl
    · obtain ⟨e4, e5, rfl, h4, h5⟩ := hI
      have hcl2 : (c.map fun x => Dt.tup [eN x.1, ansOf x]).length = c.length := by rw [List.length_map]
      rw [hcl2, List.take_length]
      have hlk : ∀ a ∈ c.map (·.1), lk (hadK c) (.tup (a.map .text)) = some (eV (zval l a)) := lk_had c hval
      have hstart : e.1 ∈ c.map (·.1) := List.mem_map.mpr ⟨e, hin, rfl⟩
      refine .asg (i := 6) (d := ePs (wkF (zval l) 1 e.1)) (ρ1 := [.dat (zonE l), .dat (eN e.1), .dat (.int (m : Nat)), .od (hadK c), e4, e5, .un, .un]) (.is (.list (.one (.tup (.cons (.var (i := 1) rfl) (.one (.ixOD (q := 3) hr rfl (.key (n := e.1) (.var (i := 1) rfl)) (depth_nk e.1) (hlk _ hstart))))))) (by rw [wkF_one]; rfl)) ?_ sc_lwalk.nd
      refine .for rfl (.range B.range (.sub (.var (i := 2) rfl) .int) (by omega) (by omega)) (fun i ρ => ∃ e7, ρ = [.dat (zonE l), .dat (eN e.1), .dat (.int (m : Nat)), .od (hadK c), e4, e5, .dat (ePs (wkF (zval l) (i + 1) e.1)), e7] ∧ isOwn e7 = false) ⟨.un, rfl, rfl⟩ (fun i d ρ hi' hI => ?_) (fun ρ hI => ?_)
      · obtain ⟨e7, rfl, h7⟩ := hI
        have hi6 : i < 6 := by
          unfold intsTo at hi'
          have := (List.getElem?_eq_some_iff.mp hi').1
          rw [List.length_map, List.length_range] at this
          omega
        obtain ⟨init, x, h1, h2, h3⟩ := wkF_last (zval l) i e.1
        have hxc := (wkF_in (f := zval l) (C := fun a => a ∈ c.map (·.1)) hcl (i + 1) e.1 hstart (x, zval l x) (by rw [h1]; simp)).1
        have hll := wkF_len (zval l) (i + 1) e.1
        have hat := last_concat (f := ePr) h1
        have hpl : ((wkF (zval l) (i + 1) e.1).map ePr).length ≤ 7 := by rw [List.length_map]; omega
        refine ⟨_, _, .name (i := 7) sc_lwalk.nd, ?_⟩
        cases hx : zval l x with
        | rows s =>
          rw [hx] at hat
          refine .skip (.cmp (.eqS (.ixT (d := .str "rows") (.ixT (d := eV (.rows s)) (.ixL (.var (i := 6) rfl) (.neg .int) hat) .int rfl) .int rfl) .str)) (by decide) (.nil ⟨.dat d, ?_, rfl⟩)
          rw [h2 s hx]
          rfl
        | to y =>
          rw [hx] at hat
          have hyc := hcl x y hxc hx
          refine .take (.is (.cmp (.eqS (.ixT (d := .str "to") (.ixT (d := eV (.to y)) (.ixL (.var (i := 6) rfl) (.neg .int) hat) .int rfl) .int rfl) .str)) (by decide)) rfl ?_
          refine .asg (i := 6) (d := ePs (wkF (zval l) (i + 1 + 1) e.1)) (ρ1 := [.dat (zonE l), .dat (eN e.1), .dat (.int (m : Nat)), .od (hadK c), e4, e5, .dat (ePs (wkF (zval l) (i + 1) e.1)), .dat d]) (.is (.addL (.var (i := 6) rfl) (.list (.one (.tup (.cons (.ixT (d := eN y) (.ixT (d := eV (.to y)) (.ixL (.var (i := 6) rfl) (.neg .int) hat) .int rfl) .int rfl) (.one (.ixOD (q := 3) hr rfl (.key (n := y) (.ixT (d := eN y) (.ixT (d := eV (.to y)) (.ixL (.var (i := 6) rfl) (.neg .int) hat) .int rfl) .int rfl)) (depth_nk y) (hlk _ hyc))))))) (by rw [sizeLine_eq]; simp only [List.length_cons, List.length_nil]; omega)) ?_) (.nil (.nil ⟨.dat d, rfl, rfl⟩)) sc_lwalk.nd
          rw [h3 y hx]
          show Dt.lst _ = Dt.lst _
          rw [List.map_append]
          rfl
      · obtain ⟨e7, rfl, _⟩ := hI
        refine .ret (.var (i := 6) rfl) ?_
        unfold intsTo
        rw [List.length_map, List.length_range]
        have e1 : ((m : Int) - 1).toNat + 1 = m := by omega
        rw [e1]
        rfl)
end Rw
namespace Rw
open PySem PySem.Spec PyProof.Rows L2
variable {P : Program} {w : World} {K : PySem.W.Frag} {mg : Str → Option Value} {base : Heap}
abbrev rTE : List Dt → Dt → Prop := fun ds d => ∃ l n, ds = [zonE l, eN n, ePs (wkF (zval l) l.length n)] ∧ OkZ l ∧ n ∈ zNames l ∧ d = .bl true
abbrev nTE : List Str := ["_law_zone_here", "_law_name", "_law_pairs", "_law_word", "_law_last", "_law_one", "_law_value"]
theorem sc_ends : FnScope nTE ["_law_zone_here", "_law_name", "_law_pairs"] (defScope s_ends) := ⟨rfl, rfl, rfl, by decide, rfl, by decide, by decide⟩
theorem nobl_ePr {ns : List Nm} (h : ∀ n ∈ ns, OkN n) {p : Pr} (h1 : p.1 ∈ ns) (h2 : OkV ns p.2) : nobl (ePr p) = true := by
  show (nobl (eN p.1) && (nobl (eV p.2) && true)) = true
  rw [nobl_eN (h _ h1), nobl_eV h h2]
  rfl
theorem dep_ePr (p : Pr) : dep (ePr p) ≤ 3 := by
  show max (dep (eN p.1)) (max (dep (eV p.2)) 0) + 1 ≤ 3
  have := dep_eV p.2
  rw [dep_eN]
  omega
theorem zval_ok {l : ZL} (ok : OkZ l) {n : Nm} (h : n ∈ zNames l) : OkV (zNames l) (zval l n) := by
  obtain ⟨e, he, rfl⟩ := List.mem_map.mp h
  rw [zval_of ok.nd he]
  exact (ok.ok e he).2.2
theorem walk_ok {l : ZL} (ok : OkZ l) {n : Nm} (h : n ∈ zNames l) (k : Nat) : ∀ p ∈ wkF (zval l) k n, p.1 ∈ zNames l ∧ OkV (zNames l) p.2 := fun p hp => by
  have := wkF_in (f := zval l) (C := fun a => a ∈ zNames l) (fun a m ha hm => by
    have := zval_ok ok ha
    rw [hm] at this
    exact this) k n h p hp
  exact ⟨this.1, by rw [this.2]; exact zval_ok ok this.1⟩
theorem ends_def (B : Bs mg) (DC : DefOk P w K mg base "chase_end" 7 3 (spD P w K 3 (rWk fun r => .tup [.str r.2.1, eN r.2.2]))) (F : Fn K mg "_law_told_ends" s_ends) : DefOk P w K mg base "_law_told_ends" 8 3 (spD P w K 3 rTE) :=
  defOk nTE ["_law_zone_here", "_law_name", "_law_pairs"] F sc_ends rfl (fun _ _ _ _ _ _ us h => by
    match us, h with
    | [_, _, _], _ => rfl) (by
    rintro fa cdv A outer s' H E hr ds d hl ⟨l, n, rfl, ok, hn, rfl⟩
    obtain ⟨e, he, hen⟩ := List.mem_map.mp hn
    subst hen
    have hnm : ∀ n ∈ zNames l, OkN n := fun n hn => (ok.nm n hn).1
    obtain ⟨init, x, h1, h2⟩ := walk_end ok he
    have hw := walk_ok ok hn l.length
    have hat := last_concat (f := ePr) h1
    have hxw := hw (x, zval l x) (by rw [h1]; simp)
    have hlen := wkF_len (zval l) l.length e.1
    have hl6 := ok.lz
    refine .unpack (.call DC hr (.cons (.var (i := 0) rfl) (.cons (.var (i := 1) rfl) (.one .str))) ⟨l, e, rfl, ok, he, rfl⟩) (.tup rfl (.cons (.name (i := 3) sc_ends.nd) (.cons (.name (i := 4) sc_ends.nd) .nil)) rfl) ?_
    generalize walkZ l l.length e [] = r at *
    obtain ⟨ch, wd, y⟩ := r
    dsimp only at h2
    generalize wkF (zval l) l.length e.1 = ps at *
    rcases h2 with ⟨z1, z2, s, z3⟩ | ⟨z1, ⟨m, z2⟩, z3⟩
    · subst z1
      subst z2
      rw [z3] at hat hxw
      refine .take (ρ1 := [.dat (zonE l), .dat (eN e.1), .dat (ePs ps), .dat (.str "told"), .dat (eN x), .un, .un]) (.cmp (.eqS (s := "told") (.var (i := 3) rfl) .str)) (show decide (("told" : Str) = "told") = true by decide) ?_
      have hp := plain_of _ (nobl_ePr hnm (p := (x, .rows s)) hxw.1 hxw.2)
      have hd := dep_ePr (x, .rows s)
      refine .ret (.is (.and (k := true) (.is (.cmp (.eqD hr (x := ePr (x, .rows s)) (y := ePr (x, .rows s)) (.ixL (.var (i := 2) rfl) (.neg .int) hat) (.tup (.cons (.var (i := 4) rfl) (.one (.ixT (d := eV (.rows s)) (.ixL (.var (i := 2) rfl) (.neg .int) hat) .int rfl)))) hp hp (by omega) (by omega))) (congrArg Dt.bl (eqd_self (nobl_ePr hnm (p := (x, .rows s)) hxw.1 hxw.2)))) fun _ => .one (.cmp (.eqS (.ixT (d := .str "rows") (.ixT (d := eV (.rows s)) (.ixL (.var (i := 2) rfl) (.neg .int) hat) .int rfl) .int rfl) .str))) (d1 := .bl true) rfl) rfl
    · subst z1
      rw [z2] at hat
      refine .skip (ρ1 := [.dat (zonE l), .dat (eN e.1), .dat (ePs ps), .dat (.str "ring"), .dat (eN y), .un, .un]) (.cmp (.eqS (s := "ring") (.var (i := 3) rfl) .str)) (show decide (("ring" : Str) = "told") = false by decide) ?_
      have hy : OkN y := by
        obtain ⟨p, hp, hpy⟩ := List.mem_map.mp z3
        rw [← hpy]
        exact hnm _ (hw p hp).1
      have hin : ind (eN y) ((ps.map (·.1)).map eN) = true := by
        rw [ind_map (e := eN) (fun a b => eN_inj) (nobl_eN hy) (fun a ha => by
          obtain ⟨p, hp, hpy⟩ := List.mem_map.mp ha
          rw [← hpy]
          exact nobl_eN (hnm _ (hw p hp).1))]
        simp only [decide_eq_true_eq]
        exact z3
      refine .ret (.is (.and (k := decide (("ring" : Str) = "ring")) (.cmp (.eqS (s := "ring") (.var (i := 3) rfl) .str)) fun _ => .and (k := decide (("to" : Str) = "to")) (k' := true) (.cmp (.eqS (.ixT (d := .str "to") (.ixT (d := eV (.to m)) (.ixL (.var (i := 2) rfl) (.neg .int) hat) .int rfl) .int rfl) .str)) fun _ => .one (.is (.cmp (.inD hr (ys := (ps.map (·.1)).map eN) (.var (i := 4) rfl) (.is (.lcF [("_law_one", 5), ("_law_value", 6)] [5, 6] (fun d => match d with | .tup (a :: _) => some a | _ => none) rfl sc_ends.nd (.list (.var (i := 2) rfl)) (by rw [List.length_map, sizeLine_eq]; omega) fun d hd => ?_) ?_) (plain_of _ (nobl_eN hy)) ?_ (by rw [dep_eN]; decide) ?_)) (congrArg Dt.bl hin))) (d1 := .bl true) (congrArg Dt.bl (by decide))) rfl
      · obtain ⟨p, _, rfl⟩ := List.mem_map.mp hd
        exact .map (fun _ _ _ _ _ => .tup rfl (.cons (.name (i := 5) sc_ends.nd) (.cons (.name (i := 6) sc_ends.nd) .nil)) rfl) ((Agree.wiped.set (by decide)).set (by decide)) rfl fun _ _ _ _ _ => .var (i := 5) rfl
      · rw [List.filterMap_map, List.map_map]
        exact congrArg Dt.lst (filterMap_some (fun p : Pr => eN p.1) _)
      · rw [plains_all, List.all_map, List.all_eq_true]
        intro a ha
        obtain ⟨p, hp, hpy⟩ := List.mem_map.mp ha
        rw [← hpy]
        exact plain_of _ (nobl_eN (hnm _ (hw p hp).1))
      · have := deps_eNs (ps.map (·.1))
        show deps ((ps.map (·.1)).map eN) + 1 ≤ 64
        omega)
end Rw
namespace Rw
open PySem PySem.Spec PyProof.Rows L2
/-! what is told hangs on moments and ages alone -/
def sk (t : List GE) : List (Int × Int) := t.map fun e => (e.1, e.2.1)
theorem fIx_sk (t : List GE) (mo : Int) : fIx t mo = (((sk t).drop 1).takeWhile fun e => decide (e.1 ≤ mo)).length := by
  unfold fIx sk
  rw [← List.map_drop, List.takeWhile_map, List.length_map]
  rfl
theorem lastF_sk (t : List GE) (i : Nat) (mo : Int) : lastF t i mo = match (sk t)[i + 1]? with
    | some e => min mo (e.1 - 1)
    | none => mo := by
  unfold lastF sk
  rw [List.getElem?_map]
  cases t[i + 1]? <;> rfl
theorem agAt_sk (t : List GE) (i : Nat) : agAt t i = match (sk t)[i]? with
    | some e => e.2
    | none => 0 := by
  unfold agAt sk
  rw [List.getElem?_map]
  cases t[i]? <;> rfl
theorem fIx_congr {t t2 : List GE} (h : sk t = sk t2) (mo : Int) : fIx t mo = fIx t2 mo := by rw [fIx_sk, fIx_sk, h]
theorem gotL_congr {t t2 : List GE} (h : sk t = sk t2) (lo hi mo : Int) : gotL t lo hi mo = gotL t2 lo hi mo := by
  unfold gotL
  have e : gotB t lo hi mo = gotB t2 lo hi mo := by
    funext i
    unfold gotB
    rw [fIx_congr h, lastF_sk, lastF_sk, agAt_sk, agAt_sk, h]
  rw [e, fIx_congr h]
theorem sk_gt (t : Tl) : sk (gt t) = t.map fun e => (e.1, e.2.1) := by
  unfold sk gt
  rw [List.map_map]
  rfl
theorem told_iff {t : Tl} {lo hi mo : Int} {v : Vl} : v ∈ told t lo hi mo ↔ ∃ i ∈ gotL (gt t) lo hi mo, ∃ e, t[i]? = some e ∧ e.2.2 = v := by
  unfold told
  rw [ded_mem, List.mem_filterMap]
  constructor
  · rintro ⟨i, hi, h⟩
    cases z : t[i]? with
    | none => rw [z] at h; cases h
    | some e => rw [z] at h; exact ⟨i, hi, e, z, Option.some.inj h⟩
  · rintro ⟨i, hi, e, h, rfl⟩
    exact ⟨i, hi, by rw [h]; rfl⟩
theorem valsFor_cases {s : Story} {lo hi mo : Int} {ps : Ps} {n : Nm} {v : Vl} (h : v ∈ valsFor s lo hi ps n mo) : (∃ p ∈ ps, p.1 = n ∧ p.2 = v) ∨ v ∈ toldOf s lo hi n mo := by
  unfold valsFor at h
  split at h
  · rename_i p z
    refine .inl ⟨p, List.mem_of_find?_eq_some z, ?_, (List.mem_singleton.mp h).symm⟩
    have := List.find?_some z
    exact of_decide_eq_true this
  · exact .inr (sortVl_mem.mp h)
theorem tls_told {s : Story} {lo hi mo : Int} {n : Nm} : ∀ i, ∀ ps ∈ tls s lo hi n mo i, ∀ p ∈ ps, p.2 ∈ toldOf s lo hi p.1 mo
  | 0, ps, hps, p, hp => by
    obtain ⟨v, hv, rfl⟩ := List.mem_map.mp hps
    rw [List.mem_singleton.mp hp]
    rcases valsFor_cases hv with ⟨q, hq, _⟩ | h
    · nomatch hq
    · exact h
  | i + 1, ps, hps, p, hp => by
    obtain ⟨qs, hq, hst⟩ := List.mem_flatMap.mp hps
    have ih := tls_told i qs hq
    unfold stepP at hst
    split at hst
    · rw [List.mem_singleton.mp hst] at hp
      exact ih p hp
    · rename_i o _
      obtain ⟨v, hv, rfl⟩ := List.mem_map.mp hst
      rcases List.mem_append.mp hp with z | z
      · exact ih p z
      · rw [List.mem_singleton.mp z]
        rcases valsFor_cases hv with ⟨q, hq2, h1, h2⟩ | h
        · rw [← h1, ← h2]
          exact ih q hq2
        · exact h
def nin {α : Type} [DecidableEq α] (acc : List α) (x : α) : Bool := decide (x ∉ acc)
theorem filt_nin {α : Type} [DecidableEq α] {e : α → Dt} (inj : ∀ a b, e a = e b → a = b) {acc : List α} (ha : ∀ y ∈ acc, nobl (e y) = true) : ∀ l : List α, (∀ x ∈ l, nobl (e x) = true) → (l.map e).filterMap (fun d => if ind d (acc.map e) = true then none else some d) = (l.filter (nin acc)).map e
  | [], _ => rfl
  | x :: l, h => by
    have ih := filt_nin inj ha l fun y hy => h y (.tail _ hy)
    have e1 := ind_map inj (h x (.head _)) ha
    rw [List.map_cons, List.filterMap_cons, List.filter_cons, e1]
    by_cases hx : x ∈ acc
    · rw [if_pos (decide_eq_true hx), if_neg (by unfold nin; simp [hx])]
      exact ih
    · rw [if_neg (by simp [hx]), if_pos (by unfold nin; simp [hx]), List.map_cons, ih]
/-! letters -/
def LETS : Str := "abcdefghijkl"
theorem lets_at {k : Nat} (h : k < 12) : atI LETS.cps.toList (k : Int) = some (97 + k) := by
  refine atI_nat ?_
  have : ∀ k < 12, LETS.cps.toList[k]? = some (97 + k) := by decide +kernel
  exact this k h
def ltr (vs : List Vl) (v : Vl) : Str := ⟨#[97 + idx (eV v) (vs.map eV)]⟩
def ltl (vs : List Vl) (t : Tl) : List GE := t.map fun e => (e.1, e.2.1, .str (ltr vs e.2.2))
theorem sk_ltl (vs : List Vl) (t : Tl) : sk (ltl vs t) = sk (gt t) := by
  rw [sk_gt]
  unfold sk ltl
  rw [List.map_map]
  rfl
def vsOf (t : Tl) : List Vl := ded (t.map (·.2.2))
theorem vsOf_len (t : Tl) : (vsOf t).length ≤ t.length := by
  have := ded_len (t.map (·.2.2))
  rw [List.length_map] at this
  exact this
theorem idx_lt {ns : List Nm} (hn : ∀ n ∈ ns, OkN n) {t : Tl} (hv : ∀ e ∈ t, OkV ns e.2.2) {v : Vl} (h : ∃ e ∈ t, e.2.2 = v) : ind (eV v) ((vsOf t).map eV) = true ∧ idx (eV v) ((vsOf t).map eV) < t.length := by
  obtain ⟨e, he, rfl⟩ := h
  have hm : e.2.2 ∈ vsOf t := (ded_mem _ _).mpr (List.mem_map.mpr ⟨e, he, rfl⟩)
  have hi : ind (eV e.2.2) ((vsOf t).map eV) = true := by
    rw [ind_map (e := eV) (fun a b => eV_inj) (nobl_eV hn (hv e he)) (fun y hy => by
      obtain ⟨e', he', rfl⟩ := List.mem_map.mp ((ded_mem _ _).mp hy)
      exact nobl_eV hn (hv e' he'))]
    exact decide_eq_true hm
  refine ⟨hi, ?_⟩
  obtain ⟨z, hz, _⟩ := idx_spec _ _ hi
  have := (List.getElem?_eq_some_iff.mp hz).1
  rw [List.length_map] at this
  exact Nat.lt_of_lt_of_le this (vsOf_len t)
theorem ltr_ok {ns : List Nm} (hn : ∀ n ∈ ns, OkN n) {t : Tl} (h8 : t.length ≤ 8) (hv : ∀ e ∈ t, OkV ns e.2.2) {v : Vl} (h : ∃ e ∈ t, e.2.2 = v) : OkNode (ltr (vsOf t) v) := by
  have := (idx_lt hn hv h).2
  refine ⟨Nat.le_refl 1, by show 1 ≤ 8; decide, fun c hc => ?_⟩
  have hc : c ∈ [97 + idx (eV v) ((vsOf t).map eV)] := hc
  rw [List.mem_singleton.mp hc]
  omega
theorem ltl_ok {ns : List Nm} (hn : ∀ n ∈ ns, OkN n) {t : Tl} (ok : OkGT (gt t)) (h8 : t.length ≤ 8) (hv : ∀ e ∈ t, OkV ns e.2.2) : OkGT (ltl (vsOf t) t) := by
  obtain ⟨h1, h2, h3, h4, h5, _⟩ := ok
  have ht : ∀ i, (ltl (vsOf t) t)[i]? = (t[i]?).map fun (e : Int × Int × Vl) => ((e.1, e.2.1, Dt.str (ltr (vsOf t) e.2.2)) : GE) := fun i => by unfold ltl; rw [List.getElem?_map]
  refine ⟨fun z => gt_ne h1 (by unfold ltl at z; simpa using z), by unfold ltl; rw [List.length_map]; omega, fun e he => ?_, fun e he => ?_, fun i e e' he he' => ?_, fun e he => ?_⟩
  · rw [ht] at he
    cases z : t[0]? with
    | none => rw [z] at he; cases he
    | some a =>
      rw [z] at he
      cases he
      exact h3 (a.1, a.2.1, eV a.2.2) (by rw [gt_get, z]; rfl)
  · unfold ltl at he
    obtain ⟨a, ha, rfl⟩ := List.mem_map.mp he
    exact h4 (a.1, a.2.1, eV a.2.2) (List.mem_map.mpr ⟨a, ha, rfl⟩)
  · rw [ht] at he he'
    cases z : t[i]? with
    | none => rw [z] at he; cases he
    | some a =>
      cases z' : t[i + 1]? with
      | none => rw [z'] at he'; cases he'
      | some b =>
        rw [z] at he
        rw [z'] at he'
        cases he
        cases he'
        exact h5 i (a.1, a.2.1, eV a.2.2) (b.1, b.2.1, eV b.2.2) (by rw [gt_get, z]; rfl) (by rw [gt_get, z']; rfl)
  · unfold ltl at he
    obtain ⟨a, ha, rfl⟩ := List.mem_map.mp he
    exact ⟨(ltr_ok hn h8 hv ⟨a, ha, rfl⟩).str, Nat.zero_le _⟩
theorem ltl_told {ns : List Nm} (hn : ∀ n ∈ ns, OkN n) {t : Tl} (ok : OkGT (gt t)) (h8 : t.length ≤ 8) (hv : ∀ e ∈ t, OkV ns e.2.2) (lo hi mo : Int) : ∃ ss : List Str, toldD (ltl (vsOf t) t) lo hi mo = ss.map .str ∧ ∀ v ∈ told t lo hi mo, ltr (vsOf t) v ∈ ss := by
  have okl := ltl_ok hn ok h8 hv
  have hg := gotL_congr (sk_ltl (vsOf t) t) lo hi mo
  have ht : ∀ i, (ltl (vsOf t) t)[i]? = (t[i]?).map fun (e : Int × Int × Vl) => ((e.1, e.2.1, Dt.str (ltr (vsOf t) e.2.2)) : GE) := fun i => by unfold ltl; rw [List.getElem?_map]
  have hm : (gotL (ltl (vsOf t) t) lo hi mo).map (vlAt (ltl (vsOf t) t)) = ((gotL (gt t) lo hi mo).map fun i => match t[i]? with | some e => ltr (vsOf t) e.2.2 | none => "z").map Dt.str := by
    rw [hg, List.map_map]
    refine List.map_congr_left fun i hi' => ?_
    have hlt := gotL_lt (t := gt t) ok.ne hi'
    rw [gt_len] at hlt
    show vlAt _ i = Dt.str (match t[i]? with | some e => ltr (vsOf t) e.2.2 | none => "z")
    unfold vlAt
    rw [ht, List.getElem?_eq_getElem hlt]
    rfl
  refine ⟨ded ((gotL (gt t) lo hi mo).map fun i => match t[i]? with | some e => ltr (vsOf t) e.2.2 | none => "z"), ?_, fun v hv' => ?_⟩
  · unfold toldD
    rw [hm, dedD_map (e := Dt.str) (fun a b h => by cases h; rfl)]
    intro x hx
    obtain ⟨i, hi', rfl⟩ := List.mem_map.mp hx
    cases z : t[i]? with
    | none => exact (show nobl (.str "z") = true by decide +kernel)
    | some e => exact (ltr_ok hn h8 hv ⟨e, List.mem_of_getElem? z, rfl⟩).str
  · obtain ⟨i, hi', e, he, rfl⟩ := told_iff.mp hv'
    refine (ded_mem _ _).mpr (List.mem_map.mpr ⟨i, hi', ?_⟩)
    rw [he]
end Rw
namespace Rw
open PySem PySem.Spec PyProof.Rows L2
variable {P : Program} {w : World} {K : PySem.W.Frag} {mg : Str → Option Value} {base : Heap}
abbrev s_parts : Stmt := topS 113
def addP (acc : List Pr) (ps : Ps) : List Pr := acc ++ ps.filter (nin acc)
def ptsAt (L : List Ps) : List Pr := L.foldl addP []
theorem ptsAt_snoc (L : List Ps) (ps : Ps) : ptsAt (L ++ [ps]) = addP (ptsAt L) ps := by unfold ptsAt; rw [List.foldl_append]; rfl
theorem ptsAt_len (L : List Ps) : (∀ ps ∈ L, ps.length ≤ 7) → (ptsAt L).length ≤ 7 * L.length := by
  induction L using rev_ind with
  | h0 => exact fun _ => Nat.le_refl _
  | hs l a ih =>
    intro h
    have h1 := ih fun ps hp => h ps (List.mem_append_left _ hp)
    have h2 := h a (by simp)
    have h3 := List.length_filter_le (nin (ptsAt l)) a
    rw [ptsAt_snoc]
    unfold addP
    rw [List.length_append, List.length_append, List.length_singleton]
    omega
theorem ptsAt_mem (L : List Ps) : ∀ p ∈ ptsAt L, ∃ ps ∈ L, p ∈ ps := by
  induction L using rev_ind with
  | h0 => exact fun p hp => nomatch hp
  | hs l a ih =>
    intro p hp
    rw [ptsAt_snoc] at hp
    rcases List.mem_append.mp hp with z | z
    · obtain ⟨ps, h1, h2⟩ := ih p z
      exact ⟨ps, List.mem_append_left _ h1, h2⟩
    · exact ⟨a, by simp, (List.mem_filter.mp z).1⟩
theorem ePr_inj (a b : Pr) (h : ePr a = ePr b) : a = b := by
  unfold ePr at h
  injection h with h
  injection h with h1 h2
  injection h2 with h2 _
  exact Prod.ext (eN_inj h1) (eV_inj h2)
theorem deps_ePrs (l : List Pr) : deps (l.map ePr) ≤ 3 := deps_le fun x hx => by
  obtain ⟨p, _, rfl⟩ := List.mem_map.mp hx
  exact dep_ePr p
theorem deps_eVs (l : List Vl) : deps (l.map eV) ≤ 2 := deps_le fun x hx => by
  obtain ⟨p, _, rfl⟩ := List.mem_map.mp hx
  exact dep_eV p
theorem plains_map {α : Type} {e : α → Dt} {l : List α} (h : ∀ x ∈ l, nobl (e x) = true) : plains (l.map e) = true := by
  rw [plains_all, List.all_map, List.all_eq_true]
  exact fun x hx => plain_of _ (h x hx)
abbrev rPa : List Dt → Dt → Prop := fun ds d => ∃ s lo hi L mo, ds = [eSt s, ePol lo hi, ePss L, .int mo] ∧ OkStory s ∧ OkPol lo hi ∧ 0 ≤ mo ∧ L.length ≤ 2097152 ∧ (∀ ps ∈ L, ps.length ≤ 7 ∧ ∀ p ∈ ps, p.1 ∈ namesOf s ∧ p.2 ∈ toldOf s lo hi p.1 mo) ∧ d = .bl true
abbrev nPa : List Str := ["_law_story_here", "_law_policy_here", "_law_lists", "_law_moment", "_law_letters", "_law_parts_here", "_law_pairs", "_law_part", "_law_name", "_law_value", "_law_values", "_law_entry", "_law_one", "_law_plain", "_law_start", "_law_age"]
theorem sc_parts : FnScope nPa ["_law_story_here", "_law_policy_here", "_law_lists", "_law_moment"] (defScope s_parts) := ⟨rfl, rfl, rfl, by decide, rfl, by decide, by decide⟩
theorem told_story {s : Story} (ok : OkStory s) {n : Nm} (hn : n ∈ namesOf s) : ∃ t, tlOf s n = some t ∧ (n, t) ∈ s ∧ OkGT (gt t) ∧ t.length ≤ 8 ∧ (∀ e ∈ t, OkV (namesOf s) e.2.2) ∧ ∀ lo hi mo, toldOf s lo hi n mo = told t lo hi mo := by
  obtain ⟨t, ht⟩ := tlOf_some hn
  have hm := tlOf_mem ht
  obtain ⟨h1, h2, h3⟩ := ok.tl _ hm
  exact ⟨t, ht, hm, h1, h2, h3, fun lo hi mo => by unfold toldOf; rw [ht]⟩
theorem parts_def (B : Bs mg) (DM : DefOk P w K mg base "may_tell" 5 3 (spD P w K 3 rMT)) (F : Fn K mg "_law_parts" s_parts) : DefOk P w K mg base "_law_parts" 6 4 (spD P w K 4 rPa) :=
  defOk nPa ["_law_story_here", "_law_policy_here", "_law_lists", "_law_moment"] F sc_parts rfl (fun _ _ _ _ _ _ us h => by
    match us, h with
    | [_, _, _, _], _ => rfl) (by
    rintro fa cdv A outer s' H E hr ds d hl ⟨s, lo, hi, L, mo, rfl, ok, okp, h0, hL, hps, rfl⟩
    have hnm : ∀ n ∈ namesOf s, OkN n := fun n hn => (ok.nm n hn).1
    have hpn : ∀ p : Pr, p.1 ∈ namesOf s ∧ p.2 ∈ toldOf s lo hi p.1 mo → nobl (ePr p) = true ∧ OkV (namesOf s) p.2 := fun p hp => by
      obtain ⟨t, ht, hm, h1, h2, h3, h4⟩ := told_story ok hp.1
      have h5 := hp.2
      rw [h4] at h5
      obtain ⟨e, he, hev⟩ := told_mem h5
      have := h3 e he
      rw [hev] at this
      exact ⟨nobl_ePr hnm hp.1 this, this⟩
    refine .asg (i := 4) (d := .str LETS) .str ?_ sc_parts.nd
    refine .asg (i := 5) (d := .lst ((ptsAt (L.take 0)).map ePr)) (.list .nil) ?_ sc_parts.nd
    refine .for rfl (.list (.var (i := 2) rfl)) (fun i ρ => ∃ e6, ρ = [.dat (eSt s), .dat (ePol lo hi), .dat (ePss L), .dat (.int mo), .dat (.str LETS), .dat (.lst ((ptsAt (L.take i)).map ePr)), e6, .un, .un, .un, .un, .un, .un, .un, .un, .un] ∧ isOwn e6 = false) ⟨.un, rfl, rfl⟩ (fun i d ρ hi' hI => ?_) (fun ρ hI => ?_)
    · obtain ⟨e6, rfl, h6⟩ := hI
      rw [List.getElem?_map] at hi'
      cases q : L[i]? with
      | none => rw [q] at hi'; cases hi'
      | some ps =>
        rw [q] at hi'
        cases hi'
        obtain ⟨hp7, hpp⟩ := hps ps (List.mem_of_getElem? q)
        have hil : i < L.length := (List.getElem?_eq_some_iff.mp q).1
        have hacc : ∀ p ∈ ptsAt (L.take i), nobl (ePr p) = true := fun p hp => by
          obtain ⟨qs, h1, h2⟩ := ptsAt_mem _ p hp
          exact (hpn p ((hps qs (List.mem_of_mem_take h1)).2 p h2)).1
        have hal := ptsAt_len (L.take i) fun ps hp => (hps ps (List.mem_of_mem_take hp)).1
        rw [List.length_take] at hal
        have hnx : ptsAt (L.take (i + 1)) = addP (ptsAt (L.take i)) ps := by rw [List.take_add_one, q]; exact ptsAt_snoc _ _
        rw [hnx]
        unfold addP
        generalize ptsAt (L.take i) = acc at *
        have hfl := List.length_filter_le (nin acc) ps
        refine ⟨_, _, .name (i := 6) sc_parts.nd, ?_⟩
        refine .asg (i := 5) (d := .lst ((acc ++ ps.filter (nin acc)).map ePr)) (ρ1 := [.dat (eSt s), .dat (ePol lo hi), .dat (ePss L), .dat (.int mo), .dat (.str LETS), .dat (.lst (acc.map ePr)), .dat (ePs ps), .un, .un, .un, .un, .un, .un, .un, .un, .un]) (.is (.addL (.var (i := 5) rfl) (.is (.lcF [("_law_part", 7)] [7] (fun d => if ind d (acc.map ePr) = true then none else some d) rfl sc_parts.nd (.list (ds := ps.map ePr) (.var (i := 6) rfl)) (by rw [List.length_map, sizeLine_eq]; omega) fun d hd => ?_) (d1 := .lst ((ps.filter (nin acc)).map ePr)) ?_) ?_) ?_) (.nil ⟨.dat (ePs ps), rfl, rfl⟩) sc_parts.nd
        · obtain ⟨p, hp, rfl⟩ := List.mem_map.mp hd
          have hb := (hpn p (hpp p hp)).1
          have hd3 := dep_ePr p
          have hd4 := deps_ePrs acc
          refine .if (b := !ind (ePr p) (acc.map ePr)) (fun _ _ _ _ _ => .name sc_parts.nd) (Agree.wiped.set (by decide)) (fun _ _ _ _ _ => .cmp (.ninD hr (.var (i := 7) rfl) (.var (i := 5) rfl) (plain_of _ hb) (plains_map hacc) (by omega) (by show deps (acc.map ePr) + 1 ≤ 64; omega))) (fun h => ?_) fun h => ⟨ePr p, ?_, fun _ _ _ _ _ => .var (i := 7) rfl⟩
          · rw [if_pos (by simpa using h)]
          · rw [if_neg (by simpa using h)]
        · rw [filt_nin ePr_inj hacc ps fun p hp => (hpn p (hpp p hp)).1]
        · rw [List.length_map, List.length_map, sizeLine_eq]
          omega
        · rw [List.map_append]
    · obtain ⟨e6, rfl, h6⟩ := hI
      rw [List.length_map, List.take_length]
      have hpts : ∀ p ∈ ptsAt L, p.1 ∈ namesOf s ∧ p.2 ∈ toldOf s lo hi p.1 mo := fun p hp => by
        obtain ⟨qs, h1, h2⟩ := ptsAt_mem _ p hp
        exact (hps qs h1).2 p h2
      generalize ptsAt L = pts at *
      refine .for rfl (.list (.var (i := 5) rfl)) (fun i ρ => ∃ e8 e9 e10 e11 e13, ρ = [.dat (eSt s), .dat (ePol lo hi), .dat (ePss L), .dat (.int mo), .dat (.str LETS), .dat (.lst (pts.map ePr)), e6, .un, e8, e9, e10, e11, .un, e13, .un, .un] ∧ isOwn e8 = false ∧ isOwn e9 = false ∧ isOwn e10 = false ∧ isOwn e11 = false ∧ isOwn e13 = false) ⟨.un, .un, .un, .un, .un, rfl, rfl, rfl, rfl, rfl, rfl⟩ (fun i d ρ hi' hI => ?_) (fun ρ hI => ?_)
      · obtain ⟨e8, e9, e10, e11, e13, rfl, h8, h9, h10, h11, h13⟩ := hI
        rw [List.getElem?_map] at hi'
        cases q : pts[i]? with
        | none => rw [q] at hi'; cases hi'
        | some p =>
          rw [q] at hi'
          cases hi'
          have hp := hpts p (List.mem_of_getElem? q)
          obtain ⟨n, v⟩ := p
          obtain ⟨t, ht, hm, okt, ht8, htv, hto⟩ := told_story ok hp.1
          have hpv := hp.2
          rw [hto] at hpv
          refine ⟨_, _, .tup rfl (.cons (.name (i := 8) sc_parts.nd) (.cons (.name (i := 9) sc_parts.nd) .nil)) rfl, ?_⟩
          refine .asg (i := 10) (d := .lst ((ded ((t.map (·.2.2)).take 0)).map eV)) (.list .nil) ?_ sc_parts.nd
          refine .for rfl (.list (ds := (gt t).map eGE) (.ixSt hr (.var (i := 0) rfl) (.var (i := 8) rfl) ht)) (fun j ρ => ∃ e11, ρ = [.dat (eSt s), .dat (ePol lo hi), .dat (ePss L), .dat (.int mo), .dat (.str LETS), .dat (.lst (pts.map ePr)), e6, .un, .dat (eN n), .dat (eV v), .dat (.lst ((ded ((t.map (·.2.2)).take j)).map eV)), e11, .un, e13, .un, .un] ∧ isOwn e11 = false) ⟨e11, rfl, h11⟩ (fun j d ρ hj hJ => ?_) (fun ρ hJ => ?_)
          · obtain ⟨e11, rfl, h11⟩ := hJ
            rw [List.getElem?_map, gt_get] at hj
            cases q2 : t[j]? with
            | none => rw [q2] at hj; cases hj
            | some e =>
              rw [q2] at hj
              cases hj
              have hev := htv e (List.mem_of_getElem? q2)
              have hnx : ded ((t.map (·.2.2)).take (j + 1)) = if e.2.2 ∈ ded ((t.map (·.2.2)).take j) then ded ((t.map (·.2.2)).take j) else ded ((t.map (·.2.2)).take j) ++ [e.2.2] := by
                rw [List.take_add_one, List.getElem?_map, q2]
                exact ded_snoc _ _
              have hacc : ∀ y ∈ ded ((t.map (·.2.2)).take j), nobl (eV y) = true := fun y hy => by
                obtain ⟨e', he', rfl⟩ := List.mem_map.mp (List.mem_of_mem_take ((ded_mem _ _).mp hy))
                exact nobl_eV hnm (htv e' he')
              have hal := ded_len ((t.map (·.2.2)).take j)
              rw [List.length_take, List.length_map] at hal
              rw [hnx]
              generalize ded ((t.map (·.2.2)).take j) = acc at *
              have hb := nobl_eV hnm hev
              have hind := ind_map (e := eV) (fun a b => eV_inj) hb hacc
              have hd3 := dep_eV e.2.2
              have hd4 := deps_eVs acc
              refine ⟨_, _, .name (i := 11) sc_parts.nd, ?_⟩
              refine .asg (i := 10) (d := .lst ((if e.2.2 ∈ acc then acc else acc ++ [e.2.2]).map eV)) (ρ1 := [.dat (eSt s), .dat (ePol lo hi), .dat (ePss L), .dat (.int mo), .dat (.str LETS), .dat (.lst (pts.map ePr)), e6, .un, .dat (eN n), .dat (eV v), .dat (.lst (acc.map eV)), .dat (eGE (e.1, e.2.1, eV e.2.2)), .un, e13, .un, .un]) (.is (.addL (.var (i := 10) rfl) (.lcF [("_law_one", 12)] [12] (fun _ => if ind (eV e.2.2) (acc.map eV) = true then none else some (eV e.2.2)) rfl sc_parts.nd (.list (ds := [.int 0]) (.list (.one .int))) (by rw [sizeLine_eq]; decide) fun d hd => ?_) ?_) ?_) (.nil ⟨.dat (eGE (e.1, e.2.1, eV e.2.2)), rfl, rfl⟩) sc_parts.nd
              · refine .if (b := !ind (eV e.2.2) (acc.map eV)) (fun _ _ _ _ _ => .name sc_parts.nd) (Agree.wiped.set (by decide)) (fun _ _ _ _ _ => .cmp (.ninD hr (.ixT (d := eV e.2.2) (.var (i := 11) rfl) .int rfl) (.var (i := 10) rfl) (plain_of _ hb) (plains_map hacc) (by omega) (by show deps (acc.map eV) + 1 ≤ 64; omega))) (fun h => ?_) fun h => ⟨eV e.2.2, ?_, fun _ _ _ _ _ => .ixT (d := eV e.2.2) (.var (i := 11) rfl) .int rfl⟩
                · rw [if_pos (by simpa using h)]
                · rw [if_neg (by simpa using h)]
              · have hfl := List.length_filterMap_le (fun _ : Dt => if ind (eV e.2.2) (acc.map eV) = true then none else some (eV e.2.2)) [.int 0]
                rw [List.length_map, sizeLine_eq]
                rw [List.length_singleton] at hfl
                omega
              · rw [hind]
                by_cases hx : e.2.2 ∈ acc
                · rw [if_pos hx]
                  simp [hx]
                · rw [if_neg hx]
                  simp [hx]
          · obtain ⟨e11, rfl, h11⟩ := hJ
            have e1 : ((gt t).map eGE).length = (t.map (·.2.2)).length := by rw [List.length_map, gt_len, List.length_map]
            rw [e1, List.take_length]
            have hvs : ded (t.map (·.2.2)) = vsOf t := rfl
            rw [hvs]
            have hvn : ∀ y ∈ vsOf t, nobl (eV y) = true := fun y hy => by
              obtain ⟨e', he', rfl⟩ := List.mem_map.mp ((ded_mem _ _).mp hy)
              exact nobl_eV hnm (htv e' he')
            have hd4 := deps_eVs (vsOf t)
            have hpl := plains_map hvn
            have hds : dep (.lst ((vsOf t).map eV)) ≤ 64 := by show deps ((vsOf t).map eV) + 1 ≤ 64; omega
            have hls : LETS.length ≤ sizeLine := by decide +kernel
            refine .lcF (i := 13) (ρ1 := [.dat (eSt s), .dat (ePol lo hi), .dat (ePss L), .dat (.int mo), .dat (.str LETS), .dat (.lst (pts.map ePr)), e6, .un, .dat (eN n), .dat (eV v), .dat (.lst ((vsOf t).map eV)), e11, .un, e13, .un, .un]) [("_law_start", 14), ("_law_age", 15), ("_law_part", 7)] [14, 15, 7] (fun d => match d with | .tup [.int a, .int b, x] => some (.tup [.int a, .int b, .str ⟨#[97 + idx x ((vsOf t).map eV)]⟩]) | _ => none) rfl sc_parts.nd (.list (ds := (gt t).map eGE) (.ixSt hr (.var (i := 0) rfl) (.var (i := 8) rfl) ht)) (by rw [List.length_map, gt_len, sizeLine_eq]; omega) (fun d hd => ?_) ?_
            · obtain ⟨g, hg, rfl⟩ := List.mem_map.mp hd
              obtain ⟨e, he, rfl⟩ := List.mem_map.mp hg
              have hix := idx_lt hnm htv ⟨e, he, rfl⟩
              have hd3 : dep (eV e.2.2) ≤ 64 := Nat.le_trans (dep_eV e.2.2) (by decide)
              have hi12 : idx (eV e.2.2) ((vsOf t).map eV) < 12 := by omega
              exact .map (fun _ _ _ _ _ => .tup rfl (.cons (.name (i := 14) sc_parts.nd) (.cons (.name (i := 15) sc_parts.nd) (.cons (.name (i := 7) sc_parts.nd) .nil))) rfl) (((Agree.wiped.set (by decide)).set (by decide)).set (by decide)) rfl fun _ _ _ _ _ => .tup (.cons (.var (i := 14) rfl) (.cons (.var (i := 15) rfl) (.one (.ixS (s := LETS) (.var (i := 4) rfl) (.index hr (.var (i := 10) rfl) (.var (i := 7) rfl) (plain_of _ (nobl_eV hnm (htv e he))) hpl hd3 hds hix.1) hls (lets_at hi12)))))
            have hlt : Dt.lst (((gt t).map eGE).filterMap (fun d => match d with | .tup [.int a, .int b, x] => some (.tup [.int a, .int b, .str ⟨#[97 + idx x ((vsOf t).map eV)]⟩]) | _ => none)) = eGT (ltl (vsOf t) t) := by
              unfold gt eGT ltl
              rw [List.map_map, List.filterMap_map, List.map_map]
              exact congrArg Dt.lst (filterMap_some (fun e : Int × Int × Vl => Dt.tup [.int e.1, .int e.2.1, .str ⟨#[97 + idx (eV e.2.2) ((vsOf t).map eV)]⟩]) _)
            rw [hlt]
            have hvm := told_mem hpv
            have hix : ind (eV v) ((vsOf t).map eV) = true ∧ idx (eV v) ((vsOf t).map eV) < t.length := idx_lt hnm htv hvm
            have hd3 : dep (eV v) ≤ 64 := Nat.le_trans (dep_eV v) (by decide)
            have hi12 : idx (eV v) ((vsOf t).map eV) < 12 := by omega
            obtain ⟨ss, hs1, hs2⟩ := ltl_told hnm okt ht8 htv lo hi mo
            have hsv := hs2 v hpv
            have hvv : nobl (eV v) = true := by
              obtain ⟨e', he', rfl⟩ := hvm
              exact nobl_eV hnm (htv e' he')
            have hcon : (sortS ss).contains (ltr (vsOf t) v) = true := by
              rw [List.contains_iff_mem]
              unfold sortS
              exact (List.mergeSort_perm _ _).mem_iff.mpr hsv
            refine .skip (.cmp (.ninL (s := ltr (vsOf t) v) (ss := sortS ss) (.ixS (s := LETS) (.var (i := 4) rfl) (.index hr (.var (i := 10) rfl) (.var (i := 9) rfl) (plain_of _ hvv) hpl hd3 hds hix.1) hls (lets_at hi12)) (.call DM hr (.cons (.var (i := 13) rfl) (.cons (.var (i := 1) rfl) (.one (.var (i := 3) rfl)))) ⟨ltl (vsOf t) t, lo, hi, mo, ss, rfl, ltl_ok hnm okt ht8 htv, okp, h0, fun e he => ?_, hs1, rfl⟩))) (by rw [hcon]; rfl) (.nil ⟨.dat (eN n), .dat (eV v), .dat (.lst ((vsOf t).map eV)), e11, .dat (eGT (ltl (vsOf t) t)), rfl, rfl, rfl, rfl, h11, rfl⟩)
            unfold ltl at he
            obtain ⟨a, ha, rfl⟩ := List.mem_map.mp he
            exact ⟨_, rfl, ltr_ok hnm ht8 htv ⟨a, ha, rfl⟩⟩
      · obtain ⟨e8, e9, e10, e11, e13, rfl, _⟩ := hI
        exact .ret .bl rfl)
end Rw
namespace Rw
open PySem PySem.Spec PyProof.Rows L2
/-! lists that may be told, and walks -/
def fV (s : Story) (mo : Int) (n : Nm) : Vl := zval (zOf s mo) n
def walkS (s : Story) (mo : Int) (n : Nm) : Ps := wkF (fV s mo) s.length n
theorem fV_at {s : Story} (ok : OkStory s) {n : Nm} {t : Tl} (h : (n, t) ∈ s) (mo : Int) : fV s mo n = (fE t mo).2.2 := by
  have hm : (n, (fE t mo).2.1, (fE t mo).2.2) ∈ zOf s mo := List.mem_map.mpr ⟨(n, t), h, rfl⟩
  exact zval_of (l := zOf s mo) (by rw [zOf_names]; exact ok.nd) hm
theorem fV_ok {s : Story} (ok : OkStory s) (mo : Int) {n : Nm} (h : n ∈ namesOf s) : OkV (namesOf s) (fV s mo n) := by
  obtain ⟨t, ht, hm, h1, h2, h3, _⟩ := told_story ok h
  rw [fV_at ok hm]
  exact h3 _ (fE_mem h1 mo)
theorem fV_cl {s : Story} (ok : OkStory s) (mo : Int) (x m : Nm) (h : x ∈ namesOf s) (hm : fV s mo x = .to m) : m ∈ namesOf s := by
  have := fV_ok ok mo h
  rw [hm] at this
  exact this
theorem together_is {s : Story} (ok : OkStory s) (mo : Int) {p : Pr} (h : p.1 ∈ namesOf s) : togetherP s mo p = true ↔ p.2 = fV s mo p.1 := by
  obtain ⟨t, ht, hm, h1, h2, h3, _⟩ := told_story ok h
  rw [fV_at ok hm]
  unfold togetherP forceV
  rw [ht]
  show decide ((t[fIx (gt t) mo]?).map (·.2.2) = some p.2) = true ↔ _
  rw [fE_at h1 mo, decide_eq_true_eq]
  show some (fE t mo).2.2 = some p.2 ↔ _
  constructor
  · intro h
    exact (Option.some.inj h).symm
  · intro h
    rw [h]
theorem wkF_lto {f : Nm → Vl} {x m : Nm} : ∀ k n, (wkF f k n).getLast? = some (x, .to m) → (wkF f k n).length = k
  | 0, n, h => rfl
  | k + 1, n, h => by
    cases hn : f n with
    | rows s => rw [wkF_rows k hn] at h; cases h
    | to y =>
      rw [wkF_to k hn] at h ⊢
      cases q : wkF f k y with
      | nil =>
        cases k with
        | zero => rfl
        | succ k =>
          exfalso
          obtain ⟨a, b, h1, _⟩ := wkF_last f k y
          rw [q] at h1
          simp at h1
      | cons a r =>
        rw [q, List.getLast?_cons_cons, ← q] at h
        have := wkF_lto k y h
        rw [List.length_cons, ← q, this]
/-- behind a walk -/
theorem behind_wk {f : Nm → Vl} {n : Nm} {k most : Nat} (hk : k + 1 ≤ most) :
    (behind (wkF f (k + 1) n) most = none ∧ wkF f (min (k + 2) most) n = wkF f (k + 1) n) ∨
    (∃ o, behind (wkF f (k + 1) n) most = some o ∧ k + 2 ≤ most ∧ wkF f (k + 2) n = wkF f (k + 1) n ++ [(o, f o)]) := by
  obtain ⟨init, x, h1, h2, h3⟩ := wkF_last f k n
  have hl : (wkF f (k + 1) n).getLast? = some (x, f x) := by rw [h1]; exact List.getLast?_concat
  cases hx : f x with
  | rows s =>
    refine .inl ⟨?_, ?_⟩
    · unfold behind
      rw [hl, hx]
    · rw [hx] at hl
      exact wkF_stop _ _ n (by omega) hl
  | to o =>
    rw [hx] at hl
    have hlen := wkF_lto _ _ hl
    by_cases hm : k + 1 = most
    · refine .inl ⟨?_, ?_⟩
      · unfold behind
        rw [hl]
        show (if (wkF f (k + 1) n).length = most then none else some o) = none
        rw [if_pos (hlen.trans hm)]
      · rw [show min (k + 2) most = k + 1 by omega]
    · refine .inr ⟨o, ?_, by omega, h3 o hx⟩
      unfold behind
      rw [hl]
      show (if (wkF f (k + 1) n).length = most then none else some o) = some o
      rw [if_neg (by rw [hlen]; exact hm)]
theorem min_step {i l : Nat} (h : 1 ≤ l) : min (min (i + 1) l + 1) l = min (i + 1 + 1) l := by omega
/-- a list that agrees with f is the walk by f -/
theorem tls_agree {s : Story} {lo hi mo : Int} {n : Nm} {f : Nm → Vl} (hs : 1 ≤ s.length) : ∀ i, ∀ ps ∈ tls s lo hi n mo i, (∀ p ∈ ps, p.2 = f p.1) → ps = wkF f (min (i + 1) s.length) n
  | 0, ps, hps, h => by
    obtain ⟨v, hv, rfl⟩ := List.mem_map.mp hps
    rw [show min (0 + 1) s.length = 1 by omega, wkF_one]
    have : v = f n := h (n, v) (.head _)
    rw [this]
  | i + 1, ps, hps, h => by
    obtain ⟨qs, hq, hst⟩ := List.mem_flatMap.mp hps
    have ih := tls_agree (f := f) hs i qs hq
    obtain ⟨k, hk⟩ : ∃ k, min (i + 1) s.length = k + 1 := ⟨min (i + 1) s.length - 1, by omega⟩
    rw [hk] at ih
    rw [← min_step hs, hk]
    unfold stepP at hst
    rcases behind_wk (f := f) (n := n) (k := k) (most := s.length) (by omega) with ⟨b1, b2⟩ | ⟨o, b1, b2, b3⟩
    · split at hst
      · rw [List.mem_singleton.mp hst] at h ⊢
        rw [b2]
        exact ih h
      · rename_i o z
        obtain ⟨v, hv, rfl⟩ := List.mem_map.mp hst
        have hq2 := ih fun p hp => h p (List.mem_append_left _ hp)
        rw [hq2, b1] at z
        cases z
    · split at hst
      · rename_i z
        rw [List.mem_singleton.mp hst] at h
        rw [ih h, b1] at z
        cases z
      · rename_i o' z
        obtain ⟨v, hv, rfl⟩ := List.mem_map.mp hst
        have hq2 := ih fun p hp => h p (List.mem_append_left _ hp)
        rw [hq2, b1] at z
        cases z
        rw [show min (k + 1 + 1) s.length = k + 2 by omega, b3, hq2]
        have : v = f o := h (o, v) (by simp)
        rw [this]
/-- the walk by values that may be told is told -/
theorem tls_walk {s : Story} {lo hi mo : Int} {n : Nm} {f : Nm → Vl} (hs : 1 ≤ s.length) (hn : n ∈ namesOf s) (hcl : ∀ x m, x ∈ namesOf s → f x = .to m → m ∈ namesOf s) (ht : ∀ x ∈ namesOf s, f x ∈ toldOf s lo hi x mo) : ∀ i, wkF f (min (i + 1) s.length) n ∈ tls s lo hi n mo i
  | 0 => by
    rw [show min (0 + 1) s.length = 1 by omega, wkF_one]
    refine List.mem_map.mpr ⟨f n, ?_, rfl⟩
    show f n ∈ sortVl _
    exact sortVl_mem.mpr (ht n hn)
  | i + 1 => by
    have ih := tls_walk hs hn hcl ht i
    obtain ⟨k, hk⟩ : ∃ k, min (i + 1) s.length = k + 1 := ⟨min (i + 1) s.length - 1, by omega⟩
    rw [hk] at ih
    rw [← min_step hs, hk]
    refine List.mem_flatMap.mpr ⟨_, ih, ?_⟩
    have hin := wkF_in (f := f) (C := fun x => x ∈ namesOf s) hcl (k + 1) n hn
    unfold stepP
    rcases behind_wk (f := f) (n := n) (k := k) (most := s.length) (by omega) with ⟨b1, b2⟩ | ⟨o, b1, b2, b3⟩
    · rw [b1, b2]
      exact .head _
    · rw [b1, show min (k + 1 + 1) s.length = k + 2 by omega, b3]
      refine List.mem_map.mpr ⟨f o, ?_, rfl⟩
      have ho : o ∈ namesOf s := by
        have := wkF_in (f := f) (C := fun x => x ∈ namesOf s) hcl (k + 2) n hn (o, f o) (by rw [b3]; simp)
        exact this.1
      unfold valsFor
      split
      · rename_i p z
        have h1 := List.mem_of_find?_eq_some z
        have h2' := List.find?_some z
        have h2 : p.1 = o := of_decide_eq_true h2'
        rw [(hin p h1).2, h2]
        exact .head _
      · exact sortVl_mem.mpr (ht o ho)
theorem fIx_now {t : Tl} (ok : OkGT (gt t)) (lo hi mo : Int) : (fE t mo).2.2 ∈ told t lo hi mo := by
  refine told_iff.mpr ⟨fIx (gt t) mo, ?_, fE t mo, fE_at ok mo, rfl⟩
  unfold gotL
  refine List.mem_filter.mpr ⟨List.mem_range.mpr (Nat.lt_succ_self _), ?_⟩
  unfold gotB
  rw [decide_eq_true rfl, Bool.true_or]
theorem fV_told {s : Story} (ok : OkStory s) (lo hi mo : Int) {n : Nm} (h : n ∈ namesOf s) : fV s mo n ∈ toldOf s lo hi n mo := by
  obtain ⟨t, ht, hm, h1, h2, h3, h4⟩ := told_story ok h
  rw [h4, fV_at ok hm]
  exact fIx_now h1 lo hi mo
theorem st_pos {s : Story} (ok : OkStory s) : 1 ≤ s.length := List.length_pos_iff.mpr ok.ne
theorem walk_told {s : Story} (ok : OkStory s) (lo hi mo : Int) {n : Nm} (h : n ∈ namesOf s) : walkS s mo n ∈ toldL s lo hi n mo := by
  have := tls_walk (lo := lo) (hi := hi) (mo := mo) (f := fV s mo) (st_pos ok) h (fun x m => fV_cl ok mo x m) (fun x hx => fV_told ok lo hi mo hx) s.length
  rw [show min (s.length + 1) s.length = s.length by omega] at this
  exact this
theorem walk_in {s : Story} (ok : OkStory s) (mo : Int) {n : Nm} (h : n ∈ namesOf s) : ∀ p ∈ walkS s mo n, p.1 ∈ namesOf s ∧ p.2 = fV s mo p.1 := wkF_in (C := fun x => x ∈ namesOf s) (fun x m => fV_cl ok mo x m) s.length n h
/-- were together: the walk of then -/
theorem all_together {s : Story} (ok : OkStory s) {lo hi mo st : Int} {n : Nm} (h : n ∈ namesOf s) {ps : Ps} (hp : ps ∈ toldL s lo hi n mo) : ps.all (togetherP s st) = true ↔ ps = walkS s st n := by
  have hok := toldL_ok ok h ps hp
  rw [List.all_eq_true]
  constructor
  · intro ha
    have := tls_agree (f := fV s st) (st_pos ok) s.length ps hp fun p hp' => (together_is ok st (hok.ok p hp').1).mp (ha p hp')
    rw [show min (s.length + 1) s.length = s.length by omega] at this
    exact this
  · rintro rfl p hp'
    obtain ⟨h1, h2⟩ := walk_in ok st h p hp'
    exact (together_is ok st h1).mpr h2
theorem torn_is {s : Story} (ok : OkStory s) (lo hi mo : Int) {n : Nm} (h : n ∈ namesOf s) : tornL s lo hi n mo = (toldL s lo hi n mo).filter (nin ((momsTo s mo).map fun st => walkS s st n)) := by
  unfold tornL
  refine List.filter_congr fun ps hps => ?_
  unfold isTorn nin
  rw [Bool.eq_iff_iff]
  simp only [Bool.not_eq_true', decide_eq_true_eq, List.any_eq_false, List.mem_map, not_exists, not_and]
  constructor
  · intro ha st hst he
    exact ha st hst ((all_together ok h hps).mpr he.symm)
  · intro ha st hst he
    exact ha st hst ((all_together ok h hps).mp he).symm
/-! the last start -/
theorem starts_mem {s : Story} {m : Int} : m ∈ startsOf s ↔ ∃ p ∈ s, ∃ e ∈ p.2, e.1 = m := by
  unfold startsOf sortI stM
  rw [(List.mergeSort_perm _ _).mem_iff, ded_mem, List.mem_flatMap]
  constructor
  · rintro ⟨p, hp, hm⟩
    obtain ⟨e, he, hem⟩ := List.mem_map.mp hm
    exact ⟨p, hp, e, he, hem⟩
  · rintro ⟨p, hp, e, he, hem⟩
    exact ⟨p, hp, List.mem_map.mpr ⟨e, he, hem⟩⟩
theorem starts_up (s : Story) : (startsOf s).Pairwise (· < ·) := by
  have h1 : (startsOf s).Pairwise (· ≤ ·) := sortI_pair _
  have h2 : (startsOf s).Nodup := (List.mergeSort_perm (stM s) _).nodup_iff.mpr (ded_nodup _)
  exact (h1.and h2).imp fun h => by omega
theorem zero_start {s : Story} (ok : OkStory s) : (0 : Int) ∈ startsOf s := by
  cases hs : s with
  | nil => exact absurd hs ok.ne
  | cons p r =>
    rw [← hs]
    have hp : p ∈ s := by rw [hs]; exact .head _
    obtain ⟨h1, _, _⟩ := ok.tl p hp
    have hne := gt_ne h1.ne
    cases ht : p.2 with
    | nil => exact absurd ht hne
    | cons e t =>
      have h0 := h1.h0 (e.1, e.2.1, eV e.2.2) (by rw [gt_get, ht]; rfl)
      exact starts_mem.mpr ⟨p, hp, e, by rw [ht]; exact .head _, h0⟩
theorem starts_nn {s : Story} (ok : OkStory s) {m : Int} (h : m ∈ startsOf s) : 0 ≤ m := by
  obtain ⟨p, hp, e, he, rfl⟩ := starts_mem.mp h
  exact ((ok.tl p hp).1.m0 (e.1, e.2.1, eV e.2.2) (List.mem_map.mpr ⟨e, he, rfl⟩)).1
theorem last_start {s : Story} (ok : OkStory s) {mo : Int} (h : 0 ≤ mo) : ∃ init m, momsTo s mo = init ++ [m] ∧ m ≤ mo ∧ m ∈ startsOf s ∧ ∀ x ∈ startsOf s, x ≤ mo → x ≤ m := by
  have h0 : (0 : Int) ∈ momsTo s mo := List.mem_filter.mpr ⟨zero_start ok, decide_eq_true h⟩
  have hne : momsTo s mo ≠ [] := fun z => by rw [z] at h0; cases h0
  have hd := List.dropLast_concat_getLast hne
  have hm := List.getLast_mem hne
  refine ⟨(momsTo s mo).dropLast, (momsTo s mo).getLast hne, hd.symm, of_decide_eq_true (List.mem_filter.mp hm).2, (List.mem_filter.mp hm).1, fun x hx hxm => ?_⟩
  have hxt : x ∈ momsTo s mo := List.mem_filter.mpr ⟨hx, decide_eq_true hxm⟩
  have hup : (momsTo s mo).Pairwise (· < ·) := (starts_up s).sublist List.filter_sublist
  rw [← hd] at hxt hup
  rcases List.mem_append.mp hxt with z | z
  · exact Int.le_of_lt ((List.pairwise_append.mp hup).2.2 x z _ (.head _))
  · rw [List.mem_singleton.mp z]
    exact Int.le_refl _
theorem tw_congr {α : Type} {p q : α → Bool} : ∀ {l : List α}, (∀ a ∈ l, p a = q a) → l.takeWhile p = l.takeWhile q
  | [], _ => rfl
  | a :: l, h => by
    rw [List.takeWhile_cons, List.takeWhile_cons, h a (.head _), tw_congr fun b hb => h b (.tail _ hb)]
theorem fE_same {s : Story} {m mo : Int} (hm : m ≤ mo) (hl : ∀ x ∈ startsOf s, x ≤ mo → x ≤ m) {p : Nm × Tl} (hp : p ∈ s) : fE p.2 m = fE p.2 mo := by
  have e : fIx (gt p.2) m = fIx (gt p.2) mo := by
    unfold fIx
    refine congrArg List.length (tw_congr fun g hg => ?_)
    have hg2 := List.mem_of_mem_drop hg
    obtain ⟨a, ha, rfl⟩ := List.mem_map.mp hg2
    have hs : a.1 ∈ startsOf s := starts_mem.mpr ⟨p, hp, a, ha, rfl⟩
    have := hl a.1 hs
    show decide (a.1 ≤ m) = decide (a.1 ≤ mo)
    rw [decide_eq_decide]
    omega
  unfold fE
  rw [e]
theorem zOf_same {s : Story} {m mo : Int} (hm : m ≤ mo) (hl : ∀ x ∈ startsOf s, x ≤ mo → x ≤ m) : zOf s m = zOf s mo := by
  unfold zOf
  exact List.map_congr_left fun p hp => by rw [fE_same hm hl hp]
theorem walk_same {s : Story} {m mo : Int} (hm : m ≤ mo) (hl : ∀ x ∈ startsOf s, x ≤ mo → x ≤ m) (n : Nm) : walkS s m n = walkS s mo n := by
  have e : fV s m = fV s mo := by
    funext x
    unfold fV
    rw [zOf_same hm hl]
  unfold walkS
  rw [e]
end Rw
namespace Rw
open PySem PySem.Spec PyProof.Rows L2
variable {P : Program} {w : World} {K : PySem.W.Frag} {mg : Str → Option Value} {base : Heap}
abbrev s_at : Stmt := topS 114
theorem list_map_inj {α β : Type} {f : α → β} (h : ∀ a b, f a = f b → a = b) : ∀ {l m : List α}, l.map f = m.map f → l = m
  | [], [], _ => rfl
  | [], b :: m, e => by cases e
  | a :: l, [], e => by cases e
  | a :: l, b :: m, e => by
    rw [List.map_cons, List.map_cons] at e
    injection e with e1 e2
    rw [h _ _ e1, list_map_inj h e2]
theorem ePs_inj (a b : Ps) (h : ePs a = ePs b) : a = b := by
  injection h with h
  exact list_map_inj ePr_inj h
theorem nobl_ePs {ns : List Nm} (h : ∀ n ∈ ns, OkN n) {ps : Ps} (hp : ∀ p ∈ ps, p.1 ∈ ns ∧ OkV ns p.2) : nobl (ePs ps) = true := by
  show nobls (ps.map ePr) = true
  rw [nobls_all, List.all_map, List.all_eq_true]
  exact fun p hp' => nobl_ePr h (hp p hp').1 (hp p hp').2
theorem dep_ePs (ps : Ps) : dep (ePs ps) ≤ 4 := by
  show deps (ps.map ePr) + 1 ≤ 4
  have := deps_ePrs ps
  omega
theorem deps_ePss (l : List Ps) : deps (l.map ePs) ≤ 4 := deps_le fun x hx => by
  obtain ⟨p, _, rfl⟩ := List.mem_map.mp hx
  exact dep_ePs p
theorem nobl_ePss {l : List Ps} (h : ∀ ps ∈ l, nobl (ePs ps) = true) : nobl (ePss l) = true := by
  show nobls (l.map ePs) = true
  rw [nobls_all, List.all_map, List.all_eq_true]
  exact h
def eZs (s : Story) : Dt := .lst ((startsOf s).map fun st => .tup [.int st, zonE (zOf s st)])
theorem filt_moms {s : Story} {mo : Int} (f : Int → Dt) (z : Int → Dt) (g : Dt → Option Dt) (h : ∀ st, g (.tup [.int st, z st]) = if st ≤ mo then some (f st) else none) : ((startsOf s).map fun st => Dt.tup [.int st, z st]).filterMap g = (momsTo s mo).map f := by
  unfold momsTo
  induction startsOf s with
  | nil => rfl
  | cons m l ih =>
    rw [List.map_cons, List.filterMap_cons, List.filter_cons, h]
    by_cases hm : m ≤ mo
    · simp only [hm, if_true, decide_true, List.map_cons, ih]
    · simp only [hm, if_false, decide_false, ih]
      rfl
abbrev rAt : List Dt → Dt → Prop := fun ds d => ∃ s lo hi n mo, ds = [eSt s, ePol lo hi, eN n, .int mo, eZs s] ∧ OkStory s ∧ AgesOk s ∧ OkPol lo hi ∧ n ∈ namesOf s ∧ 0 ≤ mo ∧ d = .bl true
abbrev nAt : List Str := ["_law_story_here", "_law_policy_here", "_law_name", "_law_moment", "_law_zones", "_law_lists", "_law_walks", "_law_due", "_law_start", "_law_zone_here", "_law_pairs"]
theorem sc_at : FnScope nAt ["_law_story_here", "_law_policy_here", "_law_name", "_law_moment", "_law_zones"] (defScope s_at) := ⟨rfl, rfl, rfl, by decide, rfl, by decide, by decide⟩
theorem at_def (B : Bs mg) (DM : DefOk P w K mg base "may_tell_whole" 7 4 (spD P w K 4 (rWh toldL))) (DT : DefOk P w K mg base "torn" 7 4 (spD P w K 4 (rWh tornL))) (DW : DefOk P w K mg base "_law_walk" 8 3 (spD P w K 3 rLW)) (DE : DefOk P w K mg base "_law_told_ends" 8 3 (spD P w K 3 rTE)) (DP : DefOk P w K mg base "_law_parts" 6 4 (spD P w K 4 rPa)) (F : Fn K mg "_law_at" s_at) : DefOk P w K mg base "_law_at" 9 5 (spD P w K 5 rAt) :=
  defOk nAt ["_law_story_here", "_law_policy_here", "_law_name", "_law_moment", "_law_zones"] F sc_at rfl (fun _ _ _ _ _ _ us h => by
    match us, h with
    | [_, _, _, _, _], _ => rfl) (by
    rintro fa cdv A outer s' H E hr ds d hl ⟨s, lo, hi, n, mo, rfl, ok, ha, okp, hn, h0, rfl⟩
    have hr7 := hr.mono (show 7 ≤ 8 by decide)
    have hr6 := hr.mono (show 6 ≤ 8 by decide)
    have hnm : ∀ n ∈ namesOf s, OkN n := fun n hn => (ok.nm n hn).1
    have hsl := starts_len ok
    have hs6 := ok.lz
    have hs1 := st_pos ok
    have hlz : ((startsOf s).map fun st => Dt.tup [.int st, zonE (zOf s st)]).length < sizeLine := by rw [List.length_map, sizeLine_eq]; omega
    have hel : ((eKv s).length : Int) = s.length := by rw [st_len]
    have hzn : ∀ st, n ∈ zNames (zOf s st) := fun st => by rw [zOf_names]; exact hn
    refine .asg (i := 5) (.call DM hr7 (.cons (.var (i := 0) rfl) (.cons (.var (i := 1) rfl) (.cons (.var (i := 2) rfl) (.one (.var (i := 3) rfl))))) ⟨s, lo, hi, n, mo, rfl, ok, okp, hn, h0, rfl⟩) ?_ sc_at.nd
    refine .asg (i := 6) (d := .lst (((momsTo s mo).map fun st => walkS s st n).map ePs)) (ρ1 := [.dat (eSt s), .dat (ePol lo hi), .dat (eN n), .dat (.int mo), .dat (eZs s), .dat (ePss (toldL s lo hi n mo)), .un, .un, .un, .un, .un]) (.is (.lcF [("_law_start", 8), ("_law_zone_here", 9)] [8, 9] (fun d => match d with | .tup [.int st, _] => if st ≤ mo then some (ePs (walkS s st n)) else none | _ => none) rfl sc_at.nd (.list (.var (i := 4) rfl)) hlz fun d hd => ?_) ?_) ?_ sc_at.nd
    · obtain ⟨st, _, rfl⟩ := List.mem_map.mp hd
      refine .if (b := decide (st ≤ mo)) (fun _ _ _ _ _ => .tup rfl (.cons (.name (i := 8) sc_at.nd) (.cons (.name (i := 9) sc_at.nd) .nil)) rfl) ((Agree.wiped.set (by decide)).set (by decide)) (fun _ _ _ _ _ => .cmp (.le (.var (i := 8) rfl) (.var (i := 3) rfl))) (fun h => ?_) fun h => ⟨ePs (walkS s st n), ?_, fun _ _ _ _ _ => .call DW hr (.cons (.var (i := 9) rfl) (.cons (.var (i := 2) rfl) (.one (.lenK B.len (.var (i := 0) rfl))))) ⟨zOf s st, n, s.length, by rw [hel], zOf_ok ok ha st, hzn st, hs1, hs6, rfl⟩⟩
      · show (if st ≤ mo then _ else _) = _
        rw [if_neg (of_decide_eq_false h)]
      · show (if st ≤ mo then _ else _) = _
        rw [if_pos (of_decide_eq_true h)]
    · rw [filt_moms (mo := mo) (fun st => ePs (walkS s st n)) (fun st => zonE (zOf s st)) _ fun st => rfl, List.map_map]
      rfl
    obtain ⟨init, m, hm1, hm2, hm3, hm4⟩ := last_start ok h0
    have htorn := torn_is ok lo hi mo hn
    have hwn : ∀ ps ∈ (momsTo s mo).map fun st => walkS s st n, nobl (ePs ps) = true := fun ps hps => by
      obtain ⟨st, _, rfl⟩ := List.mem_map.mp hps
      exact nobl_ePs hnm fun p hp => ⟨(walk_in ok st hn p hp).1, by rw [(walk_in ok st hn p hp).2]; exact fV_ok ok st (walk_in ok st hn p hp).1⟩
    have hlast : ((momsTo s mo).map fun st => walkS s st n) = (init.map fun st => walkS s st n) ++ [walkS s m n] := by rw [hm1, List.map_append]; rfl
    have hat := last_concat (f := ePs) hlast
    have hml : (momsTo s mo).length ≤ 48 := Nat.le_trans (List.length_filter_le _ _) hsl
    have hwalk : walkS s m n ∈ toldL s lo hi n mo := by rw [walk_same hm2 hm4]; exact walk_told ok lo hi mo hn
    generalize hW : ((momsTo s mo).map fun st => walkS s st n) = W at *
    have hTo := toldL_ok ok (lo := lo) (hi := hi) (mo := mo) hn
    have hTl := told_size ok (lo := lo) (hi := hi) (mo := mo) hn
    have hT7 := (tls_ok ok (lo := lo) (hi := hi) (mo := mo) hn s.length hs6).1
    have hTt : ∀ ps ∈ toldL s lo hi n mo, ∀ p ∈ ps, p.2 ∈ toldOf s lo hi p.1 mo := tls_told s.length
    have hTn : ∀ ps ∈ toldL s lo hi n mo, nobl (ePs ps) = true := fun ps hps => nobl_ePs hnm (hTo ps hps).ok
    have hT7 : ∀ ps ∈ toldL s lo hi n mo, ps.length ≤ 7 := fun ps hps => by
      have := (hT7 ps hps).2
      omega
    have hTorn : rWh tornL [eSt s, ePol lo hi, eN n, .int mo] (ePss (tornL s lo hi n mo)) := ⟨s, lo, hi, n, mo, rfl, ok, okp, hn, h0, rfl⟩
    rw [htorn] at hTorn
    generalize toldL s lo hi n mo = T at *
    have hdW := deps_ePss W
    have hdT := deps_ePss T
    refine .lcF (i := 7) [("_law_pairs", 10)] [10] (fun d => if ind d (W.map ePs) = true then none else some d) rfl sc_at.nd (.list (ds := T.map ePs) (.var (i := 5) rfl)) (by rw [List.length_map, sizeLine_eq]; omega) (fun d hd => ?_) ?_
    · obtain ⟨ps, hps, rfl⟩ := List.mem_map.mp hd
      have hb := hTn ps hps
      have hd4 := dep_ePs ps
      refine .if (b := !ind (ePs ps) (W.map ePs)) (fun _ _ _ _ _ => .name sc_at.nd) (Agree.wiped.set (by decide)) (fun _ _ _ _ _ => .cmp (.ninD hr (.var (i := 10) rfl) (.var (i := 6) rfl) (plain_of _ hb) (plains_map hwn) (by omega) (by show deps (W.map ePs) + 1 ≤ 64; omega))) (fun h => ?_) fun h => ⟨ePs ps, ?_, fun _ _ _ _ _ => .var (i := 10) rfl⟩
      · rw [if_pos (by simpa using h)]
      · rw [if_neg (by simpa using h)]
    rw [filt_nin ePs_inj hwn T hTn]
    have hD : nobl (ePss (T.filter (nin W))) = true := nobl_ePss fun ps hps => hTn ps (List.mem_filter.mp hps).1
    have hDp := plain_of _ hD
    have hdD : dep (ePss (T.filter (nin W))) ≤ 64 := by
      have := deps_ePss (T.filter (nin W))
      show deps ((T.filter (nin W)).map ePs) + 1 ≤ 64
      omega
    have hin : ind (ePs (walkS s m n)) (T.map ePs) = true := by
      rw [ind_map ePs_inj (hTn _ hwalk) hTn]
      simp only [decide_eq_true_eq]
      exact hwalk
    have hdw := dep_ePs (walkS s m n)
    have hdT64 : dep (.lst (T.map ePs)) ≤ 64 := by show deps (T.map ePs) + 1 ≤ 64; omega
    have heq := eqd_self hD
    generalize T.filter (nin W) = Dd at *
    refine .skip (.w (.or (k := false) (.is (.cmp (.neD hr (.call DT hr7 (.cons (.var (i := 0) rfl) (.cons (.var (i := 1) rfl) (.cons (.var (i := 2) rfl) (.one (.var (i := 3) rfl))))) hTorn) (.var (i := 7) rfl) hDp hDp hdD hdD)) (by show (!eqd (ePss Dd) (ePss Dd)) = false; rw [heq]; rfl)) fun _ => .or1 (.is (.cmp (.ninD hr (.ixL (.var (i := 6) rfl) (.neg .int) hat) (.var (i := 5) rfl) (plain_of _ (hTn _ hwalk)) (plains_map hTn) (by omega) hdT64)) (b2 := false) (by rw [hin]; rfl)))) rfl ?_
    have hzl : (zOf s m).length = s.length := by unfold zOf; rw [List.length_map]
    have hlastZ : ((momsTo s mo).map fun st => zonE (zOf s st)) = (init.map fun st => zonE (zOf s st)) ++ [zonE (zOf s m)] := by rw [hm1, List.map_append]; rfl
    have hatZ := last_concat (f := fun d : Dt => d) hlastZ
    rw [List.map_id'] at hatZ
    refine .skip (.is (.not (.val (k := true) (.call DE hr (.cons (.ixL (.is (.lcF [("_law_start", 8), ("_law_zone_here", 9)] [8, 9] (fun d => match d with | .tup [.int st, z] => if st ≤ mo then some z else none | _ => none) rfl sc_at.nd (.list (.var (i := 4) rfl)) hlz fun d hd => ?_) (d1 := .lst ((momsTo s mo).map fun st => zonE (zOf s st))) ?_) (.neg .int) hatZ) (.cons (.var (i := 2) rfl) (.one (.ixL (.var (i := 6) rfl) (.neg .int) hat)))) ⟨zOf s m, n, ?_, zOf_ok ok ha m, hzn m, rfl⟩))) (b2 := false) rfl) rfl ?_
    · obtain ⟨st, _, rfl⟩ := List.mem_map.mp hd
      refine .if (b := decide (st ≤ mo)) (fun _ _ _ _ _ => .tup rfl (.cons (.name (i := 8) sc_at.nd) (.cons (.name (i := 9) sc_at.nd) .nil)) rfl) ((Agree.wiped.set (by decide)).set (by decide)) (fun _ _ _ _ _ => .cmp (.le (.var (i := 8) rfl) (.var (i := 3) rfl))) (fun h => ?_) fun h => ⟨zonE (zOf s st), ?_, fun _ _ _ _ _ => .var (i := 9) rfl⟩
      · show (if st ≤ mo then _ else _) = _
        rw [if_neg (of_decide_eq_false h)]
      · show (if st ≤ mo then _ else _) = _
        rw [if_pos (of_decide_eq_true h)]
    · rw [filt_moms (mo := mo) (fun st => zonE (zOf s st)) (fun st => zonE (zOf s st)) _ fun st => rfl]
    · rw [hzl]
      rfl
    refine .ret (.call DP hr6 (.cons (.var (i := 0) rfl) (.cons (.var (i := 1) rfl) (.cons (.var (i := 5) rfl) (.one (.var (i := 3) rfl))))) ⟨s, lo, hi, T, mo, rfl, ok, okp, h0, hTl, fun ps hps => ⟨hT7 ps hps, fun p hp => ⟨((hTo ps hps).ok p hp).1, hTt ps hps p hp⟩⟩, rfl⟩) rfl)
end Rw
namespace Rw
open PySem PySem.Spec PyProof.Rows L2
variable {P : Program} {w : World} {K : PySem.W.Frag} {mg : Str → Option Value} {base : Heap}
abbrev s_fresh : Stmt := topS 115
/-! where nothing is kept -/
def bareT (t : Tl) : Tl := t.map fun e => (e.1, 0, e.2.2)
def bare (s : Story) : Story := s.map fun p => (p.1, bareT p.2)
theorem bare_names (s : Story) : namesOf (bare s) = namesOf s := by
  unfold bare namesOf
  rw [List.map_map]
  rfl
theorem bareT_gt {t : Tl} (ok : OkGT (gt t)) : OkGT (gt (bareT t)) := by
  obtain ⟨h1, h2, h3, h4, h5, h6⟩ := ok
  have hg : ∀ i, (gt (bareT t))[i]? = ((gt t)[i]?).map fun (e : GE) => ((e.1, 0, e.2.2) : GE) := fun i => by
    rw [gt_get, gt_get]
    unfold bareT
    rw [List.getElem?_map]
    cases t[i]? <;> rfl
  have hl : (gt (bareT t)).length = (gt t).length := by rw [gt_len, gt_len]; unfold bareT; rw [List.length_map]
  have hm : ∀ e ∈ gt (bareT t), ∃ a ∈ gt t, e = (a.1, 0, a.2.2) := fun e he => by
    obtain ⟨i, hi⟩ := List.mem_iff_getElem?.mp he
    rw [hg] at hi
    cases z : (gt t)[i]? with
    | none => rw [z] at hi; cases hi
    | some a => rw [z] at hi; exact ⟨a, List.mem_of_getElem? z, (Option.some.inj hi).symm⟩
  refine ⟨fun z => ?_, by rw [hl]; exact h2, fun e he => ?_, fun e he => ?_, fun i e e' he he' => ?_, fun e he => ?_⟩
  · rw [z] at hl
    exact h1 (List.length_eq_zero_iff.mp hl.symm)
  · rw [hg] at he
    cases z : (gt t)[0]? with
    | none => rw [z] at he; cases he
    | some a => rw [z] at he; cases he; exact h3 a z
  · obtain ⟨a, ha, rfl⟩ := hm e he
    exact ⟨(h4 a ha).1, Int.le_refl 0⟩
  · rw [hg] at he he'
    cases z : (gt t)[i]? with
    | none => rw [z] at he; cases he
    | some a =>
      cases z' : (gt t)[i + 1]? with
      | none => rw [z'] at he'; cases he'
      | some b =>
        rw [z] at he
        rw [z'] at he'
        cases he
        cases he'
        exact h5 i a b z z'
  · obtain ⟨a, ha, rfl⟩ := hm e he
    exact h6 a ha
theorem bare_ok {s : Story} (ok : OkStory s) : OkStory (bare s) := by
  refine ⟨fun z => ok.ne (by unfold bare at z; simpa using z), by unfold bare; rw [List.length_map]; exact ok.lz, by rw [bare_names]; exact ok.nd, by rw [bare_names]; exact ok.nm, fun p hp => ?_⟩
  unfold bare at hp
  obtain ⟨q, hq, rfl⟩ := List.mem_map.mp hp
  obtain ⟨h1, h2, h3⟩ := ok.tl q hq
  refine ⟨bareT_gt h1, by unfold bareT; rw [List.length_map]; exact h2, fun e he => ?_⟩
  rw [bare_names]
  unfold bareT at he
  obtain ⟨a, ha, rfl⟩ := List.mem_map.mp he
  exact h3 a ha
theorem bare_ages (s : Story) : AgesOk (bare s) := fun p hp e he => by
  unfold bare at hp
  obtain ⟨q, hq, rfl⟩ := List.mem_map.mp hp
  unfold bareT at he
  obtain ⟨a, ha, rfl⟩ := List.mem_map.mp he
  show (0 : Int) ≤ 1000000000
  decide
theorem filter_range (k : Nat) : (List.range (k + 1)).filter (fun i => decide (i = k)) = [k] := by
  rw [List.range_succ, List.filter_append]
  have : (List.range k).filter (fun i => decide (i = k)) = [] := by
    rw [List.filter_eq_nil_iff]
    intro a ha
    have := List.mem_range.mp ha
    simp
    omega
  rw [this]
  simp
theorem lastF_le (t : List GE) (i : Nat) (mo : Int) : lastF t i mo ≤ mo := by
  unfold lastF
  split
  · exact Int.min_le_left _ _
  · exact Int.le_refl _
theorem got_bare (t : Tl) (lo hi mo : Int) : gotL (gt (bareT t)) lo hi mo = [fIx (gt (bareT t)) mo] := by
  unfold gotL
  have e : gotB (gt (bareT t)) lo hi mo = fun i => decide (i = fIx (gt (bareT t)) mo) := by
    funext i
    unfold gotB
    have ha : agAt (gt (bareT t)) i = 0 := by
      unfold agAt
      rw [gt_get]
      unfold bareT
      rw [List.getElem?_map]
      cases t[i]? <;> rfl
    rw [ha]
    have hs : spanOf lo hi 0 = 0 := rfl
    rw [hs]
    have := lastF_le (gt (bareT t)) i mo
    rw [decide_eq_false (p := mo < lastF (gt (bareT t)) i mo + 0) (by omega), Bool.or_false]
  rw [e, filter_range]
theorem told_bare {s : Story} (ok : OkStory s) (lo hi mo : Int) {n : Nm} (h : n ∈ namesOf (bare s)) : toldOf (bare s) lo hi n mo = [fV (bare s) mo n] := by
  have okb := bare_ok ok
  obtain ⟨t, ht, hm, h1, h2, h3, h4⟩ := told_story okb h
  rw [h4, fV_at okb hm]
  unfold bare at hm
  obtain ⟨q, hq, hqe⟩ := List.mem_map.mp hm
  have e : t = bareT q.2 := (congrArg Prod.snd hqe).symm
  unfold told
  have hg : gotL (gt t) lo hi mo = [fIx (gt t) mo] := by rw [e]; exact got_bare _ lo hi mo
  rw [hg, List.filterMap_cons, fE_at h1 mo]
  rfl
theorem sortVl_one (v : Vl) : sortVl [v] = [v] := List.mergeSort_singleton v
theorem tls_only {s : Story} {lo hi mo : Int} {n : Nm} {f : Nm → Vl} (hs : 1 ≤ s.length) (hn : n ∈ namesOf s) (hcl : ∀ x m, x ∈ namesOf s → f x = .to m → m ∈ namesOf s) (ht : ∀ x ∈ namesOf s, toldOf s lo hi x mo = [f x]) : ∀ i, tls s lo hi n mo i = [wkF f (min (i + 1) s.length) n]
  | 0 => by
    rw [show min (0 + 1) s.length = 1 by omega, wkF_one]
    show (sortVl (toldOf s lo hi n mo)).map _ = _
    rw [ht n hn, sortVl_one]
    rfl
  | i + 1 => by
    have ih := tls_only hs hn hcl ht i
    obtain ⟨k, hk⟩ : ∃ k, min (i + 1) s.length = k + 1 := ⟨min (i + 1) s.length - 1, by omega⟩
    rw [hk] at ih
    rw [← min_step hs, hk]
    show (tls s lo hi n mo i).flatMap _ = _
    rw [ih, List.flatMap_singleton]
    have hin := wkF_in (f := f) (C := fun x => x ∈ namesOf s) hcl (k + 1) n hn
    unfold stepP
    rcases behind_wk (f := f) (n := n) (k := k) (most := s.length) (by omega) with ⟨b1, b2⟩ | ⟨o, b1, b2, b3⟩
    · rw [b1, b2]
    · rw [b1, show min (k + 1 + 1) s.length = k + 2 by omega, b3]
      have ho : o ∈ namesOf s := by
        have := wkF_in (f := f) (C := fun x => x ∈ namesOf s) hcl (k + 2) n hn (o, f o) (by rw [b3]; simp)
        exact this.1
      have hv : valsFor s lo hi (wkF f (k + 1) n) o mo = [f o] := by
        unfold valsFor
        split
        · rename_i p z
          have h1 := List.mem_of_find?_eq_some z
          have h2' := List.find?_some z
          have h2 : p.1 = o := of_decide_eq_true h2'
          rw [(hin p h1).2, h2]
        · rw [ht o ho, sortVl_one]
      show (valsFor s lo hi (wkF f (k + 1) n) o mo).map _ = _
      rw [hv]
      rfl
theorem toldL_bare {s : Story} (ok : OkStory s) (lo hi mo : Int) {n : Nm} (h : n ∈ namesOf (bare s)) : toldL (bare s) lo hi n mo = [walkS (bare s) mo n] := by
  have okb := bare_ok ok
  have := tls_only (lo := lo) (hi := hi) (mo := mo) (f := fV (bare s) mo) (st_pos okb) h (fun x m => fV_cl okb mo x m) (fun x hx => told_bare ok lo hi mo hx) (bare s).length
  rw [show min ((bare s).length + 1) (bare s).length = (bare s).length by omega] at this
  exact this
theorem first_bare {s : Story} (ok : OkStory s) (lo hi : Int) {n : Nm} (h : n ∈ namesOf (bare s)) : firstT (bare s) lo hi n = none := by
  have okb := bare_ok ok
  unfold firstT
  rw [List.find?_eq_none]
  intro m hm
  have e : tornL (bare s) lo hi n m = [] := by
    rw [torn_is okb lo hi m h, toldL_bare ok lo hi m h, List.filter_cons]
    have hmm : m ∈ momsTo (bare s) m := List.mem_filter.mpr ⟨hm, decide_eq_true (Int.le_refl m)⟩
    have : walkS (bare s) m n ∈ (momsTo (bare s) m).map fun st => walkS (bare s) st n := List.mem_map.mpr ⟨m, hmm, rfl⟩
    rw [if_neg (by unfold nin; simp only [decide_eq_true_eq]; exact fun z => z this)]
    rfl
  rw [e]
  decide
abbrev rFr : List Dt → Dt → Prop := fun ds d => ∃ s lo hi n, ds = [eSt s, ePol lo hi, eN n] ∧ OkStory s ∧ OkPol lo hi ∧ n ∈ namesOf s ∧ d = .bl true
abbrev nFr : List Str := ["_law_story_here", "_law_policy_here", "_law_name", "_law_bare", "_law_one", "_law_start", "_law_age", "_law_value"]
theorem sc_fresh : FnScope nFr ["_law_story_here", "_law_policy_here", "_law_name"] (defScope s_fresh) := ⟨rfl, rfl, rfl, by decide, rfl, by decide, by decide⟩
theorem fresh_def (B : Bs mg) (DS : DefOk P w K mg base "_law_starts" 2 1 (spD P w K 1 rSts)) (DM : DefOk P w K mg base "may_tell_whole" 7 4 (spD P w K 4 (rWh toldL))) (DZ : DefOk P w K mg base "_law_zone" 11 2 (spD P w K 2 rLZ)) (DW : DefOk P w K mg base "_law_walk" 8 3 (spD P w K 3 rLW)) (DF : DefOk P w K mg base "first_torn" 7 3 (spD P w K 3 rFT)) (F : Fn K mg "_law_fresh" s_fresh) : DefOk P w K mg base "_law_fresh" 12 3 (spD P w K 3 rFr) :=
  defOk nFr ["_law_story_here", "_law_policy_here", "_law_name"] F sc_fresh rfl (fun _ _ _ _ _ _ us h => by
    match us, h with
    | [_, _, _], _ => rfl) (by
    rintro fa cdv A outer s' H E hr ds d hl ⟨s, lo, hi, n, rfl, ok, okp, hn, rfl⟩
    have hr2 := hr.mono (show 2 ≤ 11 by decide)
    have hr7 := hr.mono (show 7 ≤ 11 by decide)
    have hr8 := hr.mono (show 8 ≤ 11 by decide)
    have okb := bare_ok ok
    have hnb : n ∈ namesOf (bare s) := by rw [bare_names]; exact hn
    have hnm : ∀ n ∈ namesOf (bare s), OkN n := fun n hn => (okb.nm n hn).1
    have hs6 := ok.lz
    have hbl : (bare s).length = s.length := by unfold bare; rw [List.length_map]
    refine .newD (i := 3) ?_ sc_fresh.nd
    refine .for rfl (.keys (.var (i := 0) rfl)) (fun i ρ => ∃ e4, ρ = [.dat (eSt s), .dat (ePol lo hi), .dat (eN n), .od (eKv ((bare s).take i)), e4, .un, .un, .un] ∧ isOwn e4 = false) ⟨.un, rfl, rfl⟩ (fun i d ρ hi' hI => ?_) (fun ρ hI => ?_)
    · obtain ⟨e4, rfl, h4⟩ := hI
      unfold eKv at hi'
      rw [List.map_map, List.getElem?_map] at hi'
      cases q : s[i]? with
      | none => rw [q] at hi'; cases hi'
      | some p =>
        rw [q] at hi'
        have hd : d = eN p.1 := by
          have := Option.some.inj hi'
          rw [← this]
          exact nkD_nk p.1
        subst hd
        have hpm := List.mem_of_getElem? q
        obtain ⟨okt, h8, _⟩ := ok.tl p hpm
        have htl := tlOf_of ok.nd (show (p.1, p.2) ∈ s from hpm)
        have hbi : (bare s)[i]? = some (p.1, bareT p.2) := by unfold bare; rw [List.getElem?_map, q]; rfl
        have hnx : (bare s).take (i + 1) = (bare s).take i ++ [(p.1, bareT p.2)] := by rw [List.take_add_one, hbi]; rfl
        have hil : i < (bare s).length := (List.getElem?_eq_some_iff.mp hbi).1
        have hfresh : p.1 ∉ namesOf ((bare s).take i) := by
          intro hin
          have hnd := okb.nd
          unfold namesOf at hnd hin
          rw [List.map_take] at hin
          obtain ⟨j, hj1, hj2⟩ := List.mem_take_iff_getElem.mp hin
          have hj3 : ((bare s).map (·.1))[j]? = some p.1 := by rw [← hj2]; exact List.getElem?_eq_getElem (by omega)
          have hj4 : ((bare s).map (·.1))[i]? = some p.1 := by rw [List.getElem?_map, hbi]; rfl
          have := (List.getElem?_inj (by omega) hnd).mp (hj3.trans hj4.symm)
          omega
        rw [hnx]
        have hkl : (eKv ((bare s).take i)).length < sizeLine := by rw [st_len, List.length_take, sizeLine_eq]; omega
        refine ⟨_, _, .name (i := 4) sc_fresh.nd, ?_⟩
        refine .putK (i := 3) (ks := p.1.map .text) (d := eGT (gt (bareT p.2))) (ρ1 := [.dat (eSt s), .dat (ePol lo hi), .dat (eN n), .od (eKv ((bare s).take i)), .dat (eN p.1), .un, .un, .un]) hr2 (.is (.lcF [("_law_start", 5), ("_law_age", 6), ("_law_value", 7)] [5, 6, 7] (fun d => match d with | .tup [a, _, x] => some (.tup [a, .int 0, x]) | _ => none) rfl sc_fresh.nd (.list (ds := (gt p.2).map eGE) (.ixSt hr2 (.var (i := 0) rfl) (.var (i := 4) rfl) htl)) (gt_size okt.lz) fun d hd => ?_) ?_) (.key (n := p.1) (.var (i := 4) rfl)) ⟨_, rfl⟩ rfl (depth_nk p.1) hkl (.nil ⟨.dat (eN p.1), ?_, rfl⟩)
        · obtain ⟨g, hg, rfl⟩ := List.mem_map.mp hd
          exact .map (fun _ _ _ _ _ => .tup rfl (.cons (.name (i := 5) sc_fresh.nd) (.cons (.name (i := 6) sc_fresh.nd) (.cons (.name (i := 7) sc_fresh.nd) .nil))) rfl) (((Agree.wiped.set (by decide)).set (by decide)).set (by decide)) rfl fun _ _ _ _ _ => .tup (.cons (.var (i := 5) rfl) (.cons .int (.one (.var (i := 7) rfl))))
        · unfold eGT gt bareT
          rw [List.filterMap_map, List.filterMap_map, List.map_map, List.map_map]
          exact congrArg Dt.lst (filterMap_some (fun e : Int × Int × Vl => Dt.tup [.int e.1, .int 0, eV e.2.2]) _)
        · have e := dput_new hfresh (bareT p.2)
          show [_, _, _, En.od (dput (eKv ((bare s).take i)) (nk p.1) (eGT (gt (bareT p.2)))), _, _, _, _] = _
          rw [e]
    · obtain ⟨e4, rfl, h4⟩ := hI
      have e1 : ((eKv s).map fun p => nkD p.1).length = (bare s).length := by rw [List.length_map, st_len, hbl]
      rw [e1, List.take_length]
      have hT := fun mo => toldL_bare ok lo hi mo hnb
      have hF := first_bare ok lo hi hnb
      have hel : ((eKv (bare s)).length : Int) = (bare s).length := by rw [st_len]
      have hag := bare_ages s
      have hb6 := okb.lz
      have hb1 := st_pos okb
      generalize bare s = b at *
      refine .for rfl (.list (.call DS hr2 (.one (.ownD (i := 3) rfl)) ⟨b, rfl, okb, rfl⟩)) (fun i ρ => ∃ e5, ρ = [.dat (eSt s), .dat (ePol lo hi), .dat (eN n), .dat (eSt b), e4, e5, .un, .un] ∧ isOwn e5 = false) ⟨.un, rfl, rfl⟩ (fun i d ρ hi' hI => ?_) (fun ρ hI => ?_)
      · obtain ⟨e5, rfl, h5⟩ := hI
        rw [List.getElem?_map] at hi'
        cases q : (startsOf b)[i]? with
        | none => rw [q] at hi'; cases hi'
        | some m =>
          rw [q] at hi'
          cases hi'
          have hm := List.mem_of_getElem? q
          have hm0 := starts_nn okb hm
          have hwn : nobl (ePss [walkS b m n]) = true := nobl_ePss fun ps hps => by
            rw [List.mem_singleton.mp hps]
            exact nobl_ePs hnm fun p hp => ⟨(walk_in okb m hnb p hp).1, by rw [(walk_in okb m hnb p hp).2]; exact fV_ok okb m (walk_in okb m hnb p hp).1⟩
          have hdw : dep (ePss [walkS b m n]) ≤ 64 := by
            have := deps_ePss [walkS b m n]
            show deps ([walkS b m n].map ePs) + 1 ≤ 64
            omega
          refine ⟨_, _, .name (i := 5) sc_fresh.nd, ?_⟩
          refine .skip (.cmp (.neD hr2 (x := ePss [walkS b m n]) (y := ePss [walkS b m n]) (.call DM hr7 (.cons (.var (i := 3) rfl) (.cons (.var (i := 1) rfl) (.cons (.var (i := 2) rfl) (.one (.var (i := 5) rfl))))) ⟨b, lo, hi, n, m, rfl, okb, okp, hnb, hm0, by rw [hT]⟩) (.list (.one (.call DW hr8 (.cons (.call DZ hr (.cons (.var (i := 3) rfl) (.one (.var (i := 5) rfl))) ⟨b, m, rfl, okb, hag, hm0, rfl⟩) (.cons (.var (i := 2) rfl) (.one (.lenK B.len (.var (i := 3) rfl))))) ⟨zOf b m, n, b.length, by rw [hel], zOf_ok okb hag m, by rw [zOf_names]; exact hnb, hb1, hb6, rfl⟩))) (plain_of _ hwn) (plain_of _ hwn) hdw hdw)) (by rw [eqd_self hwn]; rfl) (.nil ⟨.dat (.int m), rfl, rfl⟩)
      · obtain ⟨e5, rfl, h5⟩ := hI
        exact .ret (.is (.cmp (.isN (.call DF hr7 (.cons (.var (i := 3) rfl) (.cons (.var (i := 1) rfl) (.one (.var (i := 2) rfl)))) ⟨b, lo, hi, n, rfl, okb, okp, hnb, rfl⟩))) (by rw [hF]; rfl)) rfl)
end Rw
namespace Rw
open PySem PySem.Spec PyProof.Rows L2
open PySem.W (dataLe dataLt keyToks keyToksAll)
/-! longer names -/
def TU : Nm := ["t", "u"]
def ln (n : Nm) : Nm := n ++ TU
def lv : Vl → Vl
  | .rows s => .rows s
  | .to n => .to (ln n)
def lt (t : Tl) : Tl := t.map fun e => (e.1, e.2.1, lv e.2.2)
def ls (s : Story) : Story := s.map fun p => (ln p.1, lt p.2)
def lp (p : Pr) : Pr := (ln p.1, lv p.2)
theorem ln_inj (a b : Nm) (h : ln a = ln b) : a = b := List.append_cancel_right h
theorem lv_inj (a b : Vl) (h : lv a = lv b) : a = b := by
  cases a with
  | rows s => cases b with
    | rows s' => exact h
    | to n => cases h
  | to n => cases b with
    | rows s' => cases h
    | to m =>
      injection h with h
      rw [ln_inj n m h]
theorem ls_names (s : Story) : namesOf (ls s) = (namesOf s).map ln := by
  unfold ls namesOf
  rw [List.map_map, List.map_map]
  rfl
theorem ls_len (s : Story) : (ls s).length = s.length := by unfold ls; rw [List.length_map]
theorem ok_TU : OkN TU := fun l hl => by
  rcases List.mem_cons.mp hl with z | hl
  · rw [z]; exact okLb_ok (by decide +kernel)
  · rw [List.mem_singleton.mp hl]; exact okLb_ok (by decide +kernel)
def Short (s : Story) : Prop := ∀ n ∈ namesOf s, n.length ≤ 2
theorem lt_gt {t : Tl} {ns : List Nm} (hn : ∀ n ∈ ns, OkN n) (hv : ∀ e ∈ t, OkV ns e.2.2) (ok : OkGT (gt t)) : OkGT (gt (lt t)) := by
  obtain ⟨h1, h2, h3, h4, h5, h6⟩ := ok
  have hg : ∀ i, (gt (lt t))[i]? = (t[i]?).map fun (e : Int × Int × Vl) => ((e.1, e.2.1, eV (lv e.2.2)) : GE) := fun i => by
    rw [gt_get]
    unfold lt
    rw [List.getElem?_map]
    cases t[i]? <;> rfl
  have hl : (gt (lt t)).length = (gt t).length := by rw [gt_len, gt_len]; unfold lt; rw [List.length_map]
  have hm : ∀ e ∈ gt (lt t), ∃ a ∈ t, e = (a.1, a.2.1, eV (lv a.2.2)) := fun e he => by
    obtain ⟨i, hi⟩ := List.mem_iff_getElem?.mp he
    rw [hg] at hi
    cases z : t[i]? with
    | none => rw [z] at hi; cases hi
    | some a => rw [z] at hi; exact ⟨a, List.mem_of_getElem? z, (Option.some.inj hi).symm⟩
  refine ⟨fun z => ?_, by rw [hl]; exact h2, fun e he => ?_, fun e he => ?_, fun i e e' he he' => ?_, fun e he => ?_⟩
  · rw [z] at hl
    exact h1 (List.length_eq_zero_iff.mp hl.symm)
  · rw [hg] at he
    cases z : t[0]? with
    | none => rw [z] at he; cases he
    | some a => rw [z] at he; cases he; exact h3 (a.1, a.2.1, eV a.2.2) (by rw [gt_get, z]; rfl)
  · obtain ⟨a, ha, rfl⟩ := hm e he
    exact h4 (a.1, a.2.1, eV a.2.2) (List.mem_map.mpr ⟨a, ha, rfl⟩)
  · rw [hg] at he he'
    cases z : t[i]? with
    | none => rw [z] at he; cases he
    | some a =>
      cases z' : t[i + 1]? with
      | none => rw [z'] at he'; cases he'
      | some b =>
        rw [z] at he
        rw [z'] at he'
        cases he
        cases he'
        exact h5 i (a.1, a.2.1, eV a.2.2) (b.1, b.2.1, eV b.2.2) (by rw [gt_get, z]; rfl) (by rw [gt_get, z']; rfl)
  · obtain ⟨a, ha, rfl⟩ := hm e he
    have := hv a ha
    have hb : nobl (eV (lv a.2.2)) = true := by
      cases z : a.2.2 with
      | rows s => rw [z] at this; exact nobl_eV hn (v := .rows s) this
      | to n =>
        rw [z] at this
        exact nobl_eV (ns := [ln n]) (fun m hm => by rw [List.mem_singleton.mp hm]; exact (hn n this).append ok_TU) (v := .to (ln n)) (List.mem_singleton.mpr rfl)
    exact ⟨hb, Nat.le_trans (dep_eV _) (by decide)⟩
theorem ls_ok {s : Story} (ok : OkStory s) (sh : Short s) : OkStory (ls s) := by
  refine ⟨fun z => ok.ne (by unfold ls at z; simpa using z), by rw [ls_len]; exact ok.lz, ?_, fun n hn => ?_, fun p hp => ?_⟩
  · rw [ls_names]
    unfold List.Nodup
    rw [List.pairwise_map]
    exact ok.nd.imp fun h z => h (ln_inj _ _ z)
  · rw [ls_names] at hn
    obtain ⟨m, hm, rfl⟩ := List.mem_map.mp hn
    obtain ⟨h1, h2, h3⟩ := ok.nm m hm
    refine ⟨h1.append ok_TU, fun z => h2 (List.append_eq_nil_iff.mp z).1, ?_⟩
    have h4 := sh m hm
    show (m ++ TU).length ≤ 10
    rw [List.length_append]
    have h5 : TU.length = 2 := rfl
    have h6 : List.length m ≤ 2 := h4
    omega
  · unfold ls at hp
    obtain ⟨q, hq, rfl⟩ := List.mem_map.mp hp
    obtain ⟨h1, h2, h3⟩ := ok.tl q hq
    refine ⟨lt_gt (fun n hn => (ok.nm n hn).1) h3 h1, by unfold lt; rw [List.length_map]; exact h2, fun e he => ?_⟩
    unfold lt at he
    obtain ⟨a, ha, rfl⟩ := List.mem_map.mp he
    have := h3 a ha
    rw [ls_names]
    show OkV _ (lv a.2.2)
    cases z : a.2.2 with
    | rows x => rw [z] at this; exact this
    | to m => rw [z] at this; exact List.mem_map.mpr ⟨m, this, rfl⟩
theorem ded_map {α β : Type} [DecidableEq α] [DecidableEq β] {f : α → β} (inj : ∀ a b, f a = f b → a = b) (xs : List α) : ded (xs.map f) = (ded xs).map f := by
  induction xs using rev_ind with
  | h0 => rfl
  | hs l a ih =>
    rw [List.map_append, List.map_cons, List.map_nil, ded_snoc, ded_snoc, ih]
    by_cases h : a ∈ ded l
    · rw [if_pos h, if_pos (List.mem_map.mpr ⟨a, h, rfl⟩)]
    · rw [if_neg h, if_neg (fun z => by
        obtain ⟨b, hb, hba⟩ := List.mem_map.mp z
        rw [inj _ _ hba] at hb
        exact h hb), List.map_append]
      rfl
theorem told_lt (t : Tl) (lo hi mo : Int) : told (lt t) lo hi mo = (told t lo hi mo).map lv := by
  unfold told
  have hg : gotL (gt (lt t)) lo hi mo = gotL (gt t) lo hi mo := gotL_congr (by
    rw [sk_gt, sk_gt]
    unfold lt
    rw [List.map_map]
    rfl) lo hi mo
  rw [hg, ← ded_map lv_inj, List.map_filterMap]
  refine congrArg ded ?_
  refine congrArg (fun z => List.filterMap z _) (funext fun i => ?_)
  unfold lt
  rw [List.getElem?_map]
  cases t[i]? <;> rfl
theorem tlOf_ls (s : Story) (n : Nm) : tlOf (ls s) (ln n) = (tlOf s n).map lt := by
  unfold tlOf ls
  rw [List.find?_map]
  have e : ((fun p : Nm × Tl => decide (p.1 = ln n)) ∘ fun p : Nm × Tl => (ln p.1, lt p.2)) = fun p => decide (p.1 = n) := by
    funext p
    show decide (ln p.1 = ln n) = decide (p.1 = n)
    rw [decide_eq_decide]
    exact ⟨ln_inj _ _, fun h => by rw [h]⟩
  rw [e]
  cases s.find? fun p => decide (p.1 = n) <;> rfl
theorem toldOf_ls (s : Story) (lo hi mo : Int) (n : Nm) : toldOf (ls s) lo hi (ln n) mo = (toldOf s lo hi n mo).map lv := by
  unfold toldOf
  rw [tlOf_ls]
  cases tlOf s n with
  | none => rfl
  | some t => exact told_lt t lo hi mo
def tkV (v : Vl) : List (Int ⊕ List Nat) := keyToks (py (pky v))
theorem tk_lv (a b : Vl) : PyProof.Rows.lexLt PyProof.Rows.itemOrd (tkV (lv a)) (tkV (lv b)) = PyProof.Rows.lexLt PyProof.Rows.itemOrd (tkV a) (tkV b) := by
  have hne : (Sum.inr ("rows" : Str).cps.toList : Int ⊕ List Nat) ≠ Sum.inr ("to" : Str).cps.toList := by decide +kernel
  have hT : ∀ n : Nm, tkV (.to n) = [Sum.inl 1, Sum.inr ("to" : Str).cps.toList, Sum.inl 1, Sum.inr ("" : Str).cps.toList, Sum.inl 1] ++ (keyToksAll (pys (n.reverse.map .str)) ++ [Sum.inl 0]) := fun n => rfl
  have hL : ∀ n : Nm, keyToksAll (pys ((ln n).reverse.map .str)) = [Sum.inl 1, Sum.inr ("u" : Str).cps.toList, Sum.inl 1, Sum.inr ("t" : Str).cps.toList] ++ keyToksAll (pys (n.reverse.map .str)) := fun n => by
    unfold ln
    rw [List.reverse_append]
    rfl
  have hR : ∀ x : Str, tkV (.rows x) = Sum.inl 1 :: Sum.inr ("rows" : Str).cps.toList :: [Sum.inl 1, Sum.inr x.cps.toList, Sum.inl 1, Sum.inl 0, Sum.inl 0] := fun x => rfl
  have hT2 : ∀ n : Nm, tkV (.to n) = Sum.inl 1 :: Sum.inr ("to" : Str).cps.toList :: ([Sum.inl 1, Sum.inr ("" : Str).cps.toList, Sum.inl 1] ++ (keyToksAll (pys (n.reverse.map .str)) ++ [Sum.inl 0])) := fun n => rfl
  cases a with
  | rows x =>
    cases b with
    | rows y => rfl
    | to m =>
      show PyProof.Rows.lexLt PyProof.Rows.itemOrd (tkV (.rows x)) (tkV (.to (ln m))) = PyProof.Rows.lexLt PyProof.Rows.itemOrd (tkV (.rows x)) (tkV (.to m))
      rw [hR, hT2, hT2, PyProof.Rows.lex_self, PyProof.Rows.lex_self]
      exact (PySem.W.lex_atom hne _ _).trans (PySem.W.lex_atom hne _ _).symm
  | to n =>
    cases b with
    | rows y =>
      show PyProof.Rows.lexLt PyProof.Rows.itemOrd (tkV (.to (ln n))) (tkV (.rows y)) = PyProof.Rows.lexLt PyProof.Rows.itemOrd (tkV (.to n)) (tkV (.rows y))
      rw [hR, hT2, hT2, PyProof.Rows.lex_self, PyProof.Rows.lex_self]
      exact (PySem.W.lex_atom hne.symm _ _).trans (PySem.W.lex_atom hne.symm _ _).symm
    | to m =>
      show PyProof.Rows.lexLt PyProof.Rows.itemOrd (tkV (.to (ln n))) (tkV (.to (ln m))) = PyProof.Rows.lexLt PyProof.Rows.itemOrd (tkV (.to n)) (tkV (.to m))
      rw [hT, hT, hT, hT, hL, hL, PySem.W.lex_pre, PySem.W.lex_pre, List.append_assoc, List.append_assoc, PySem.W.lex_pre]
theorem sortVl_lv (l : List Vl) : sortVl (l.map lv) = (sortVl l).map lv := by
  unfold sortVl
  exact (List.map_mergeSort fun a _ b _ => by
    show (!PyProof.Rows.lexLt PyProof.Rows.itemOrd (tkV b) (tkV a)) = (!PyProof.Rows.lexLt PyProof.Rows.itemOrd (tkV (lv b)) (tkV (lv a)))
    rw [tk_lv]).symm
theorem valsFor_ls (s : Story) (lo hi mo : Int) (ps : Ps) (n : Nm) : valsFor (ls s) lo hi (ps.map lp) (ln n) mo = (valsFor s lo hi ps n mo).map lv := by
  unfold valsFor
  rw [List.find?_map]
  have e : ((fun p : Pr => decide (p.1 = ln n)) ∘ lp) = fun p => decide (p.1 = n) := by
    funext p
    show decide (ln p.1 = ln n) = decide (p.1 = n)
    rw [decide_eq_decide]
    exact ⟨ln_inj _ _, fun h => by rw [h]⟩
  rw [e]
  cases ps.find? fun p => decide (p.1 = n) with
  | none =>
    show sortVl (toldOf (ls s) lo hi (ln n) mo) = (sortVl (toldOf s lo hi n mo)).map lv
    rw [toldOf_ls, sortVl_lv]
  | some p => rfl
theorem behind_ls (ps : Ps) (m : Nat) : behind (ps.map lp) m = (behind ps m).map ln := by
  unfold behind
  rw [List.getLast?_map, List.length_map]
  cases ps.getLast? with
  | none => rfl
  | some p =>
    obtain ⟨n, v⟩ := p
    cases v with
    | rows s => rfl
    | to o =>
      show (if ps.length = m then none else some (ln o)) = (if ps.length = m then none else some o).map ln
      split <;> rfl
theorem stepP_ls (s : Story) (lo hi mo : Int) (ps : Ps) : stepP (ls s) lo hi mo (ps.map lp) = (stepP s lo hi mo ps).map fun qs => qs.map lp := by
  unfold stepP
  rw [ls_len, behind_ls]
  cases behind ps s.length with
  | none => rfl
  | some o =>
    show (valsFor (ls s) lo hi (ps.map lp) (ln o) mo).map (fun v => ps.map lp ++ [(ln o, v)]) = ((valsFor s lo hi ps o mo).map fun v => ps ++ [(o, v)]).map fun qs => qs.map lp
    rw [valsFor_ls, List.map_map, List.map_map]
    refine List.map_congr_left fun v _ => ?_
    show ps.map lp ++ [(ln o, lv v)] = (ps ++ [(o, v)]).map lp
    rw [List.map_append]
    rfl
theorem tls_ls (s : Story) (lo hi mo : Int) (n : Nm) : ∀ i, tls (ls s) lo hi (ln n) mo i = (tls s lo hi n mo i).map fun qs => qs.map lp
  | 0 => by
    show (valsFor (ls s) lo hi [] (ln n) mo).map (fun v => [(ln n, v)]) = ((valsFor s lo hi [] n mo).map fun v => [(n, v)]).map fun qs => qs.map lp
    have := valsFor_ls s lo hi mo [] n
    rw [List.map_nil] at this
    rw [this, List.map_map, List.map_map]
    rfl
  | i + 1 => by
    show (tls (ls s) lo hi (ln n) mo i).flatMap _ = ((tls s lo hi n mo i).flatMap _).map _
    rw [tls_ls s lo hi mo n i, List.flatMap_map, List.map_flatMap]
    refine congrArg (fun z => List.flatMap z _) (funext fun ps => ?_)
    exact stepP_ls s lo hi mo ps
theorem toldL_ls (s : Story) (lo hi mo : Int) (n : Nm) : toldL (ls s) lo hi (ln n) mo = (toldL s lo hi n mo).map fun qs => qs.map lp := by
  unfold toldL
  rw [ls_len, tls_ls]
theorem starts_ls (s : Story) : startsOf (ls s) = startsOf s := by
  unfold startsOf stM
  have : (ls s).flatMap moms = s.flatMap moms := by
    unfold ls
    rw [List.flatMap_map]
    refine congrArg (fun z => List.flatMap z s) (funext fun p => ?_)
    unfold moms lt
    rw [List.map_map]
    rfl
  rw [this]
theorem together_ls (s : Story) (mo : Int) (p : Pr) : togetherP (ls s) mo (lp p) = togetherP s mo p := by
  unfold togetherP
  show decide ((tlOf (ls s) (ln p.1)).bind (fun t => forceV t mo) = some (lv p.2)) = _
  rw [tlOf_ls, decide_eq_decide]
  cases tlOf s p.1 with
  | none => exact ⟨fun h => (by cases h), fun h => (by cases h)⟩
  | some t =>
    show forceV (lt t) mo = some (lv p.2) ↔ forceV t mo = some p.2
    have e : forceV (lt t) mo = (forceV t mo).map lv := by
      unfold forceV
      have hf : fIx (gt (lt t)) mo = fIx (gt t) mo := fIx_congr (by
        rw [sk_gt, sk_gt]
        unfold lt
        rw [List.map_map]
        rfl) mo
      rw [hf]
      unfold lt
      rw [List.getElem?_map]
      cases t[fIx (gt t) mo]? <;> rfl
    rw [e]
    cases forceV t mo with
    | none => exact ⟨fun h => (by cases h), fun h => (by cases h)⟩
    | some v => exact ⟨fun h => by rw [lv_inj _ _ (Option.some.inj h)], fun h => by rw [Option.some.inj h]; rfl⟩
theorem torn_ls (s : Story) (lo hi mo : Int) (n : Nm) : tornL (ls s) lo hi (ln n) mo = (tornL s lo hi n mo).map fun qs => qs.map lp := by
  unfold tornL
  rw [toldL_ls, List.filter_map]
  have e : (isTorn (ls s) mo ∘ fun qs : Ps => qs.map lp) = isTorn s mo := by
    funext ps
    show isTorn (ls s) mo (ps.map lp) = isTorn s mo ps
    unfold isTorn momsTo
    rw [starts_ls]
    have : (fun st => (ps.map lp).all (togetherP (ls s) st)) = fun st => ps.all (togetherP s st) := by
      funext st
      rw [List.all_map]
      refine congrArg (fun z => List.all ps z) (funext fun p => ?_)
      exact together_ls s st p
    rw [this]
  rw [e]
theorem first_ls (s : Story) (lo hi : Int) (n : Nm) : firstT (ls s) lo hi (ln n) = firstT s lo hi n := by
  unfold firstT
  rw [starts_ls]
  refine congrArg (fun z => List.find? z (startsOf s)) (funext fun m => ?_)
  rw [torn_ls]
  cases tornL s lo hi n m <;> rfl
end Rw
namespace Rw
open PySem PySem.Spec PyProof.Rows L2
variable {P : Program} {w : World} {K : PySem.W.Frag} {mg : Str → Option Value} {base : Heap}
abbrev s_longer : Stmt := topS 116
theorem eN_ln (n : Nm) : Dt.tup (n.map .str ++ [.str "t", .str "u"]) = eN (ln n) := by
  unfold eN ln
  rw [List.map_append]
  rfl
abbrev rLo : List Dt → Dt → Prop := fun ds d => ∃ s lo hi n mo, ds = [eSt s, ePol lo hi, eN n, .int mo] ∧ OkStory s ∧ Short s ∧ OkPol lo hi ∧ n ∈ namesOf s ∧ 0 ≤ mo ∧ d = .bl true
abbrev nLo : List Str := ["_law_story_here", "_law_policy_here", "_law_name", "_law_moment", "_law_other", "_law_one", "_law_rows", "_law_start", "_law_age", "_law_value", "_law_due", "_law_pairs", "_law_row"]
theorem sc_longer : FnScope nLo ["_law_story_here", "_law_policy_here", "_law_name", "_law_moment"] (defScope s_longer) := ⟨rfl, rfl, rfl, by decide, rfl, by decide, by decide⟩
theorem longer_def (B : Bs mg) (DM : DefOk P w K mg base "may_tell_whole" 7 4 (spD P w K 4 (rWh toldL))) (DF : DefOk P w K mg base "first_torn" 7 3 (spD P w K 3 rFT)) (F : Fn K mg "_law_longer" s_longer) : DefOk P w K mg base "_law_longer" 8 4 (spD P w K 4 rLo) :=
  defOk nLo ["_law_story_here", "_law_policy_here", "_law_name", "_law_moment"] F sc_longer rfl (fun _ _ _ _ _ _ us h => by
    match us, h with
    | [_, _, _, _], _ => rfl) (by
    rintro fa cdv A outer s' H E hr ds d hl ⟨s, lo, hi, n, mo, rfl, ok, sh, okp, hn, h0, rfl⟩
    have okl := ls_ok ok sh
    have hs6 := ok.lz
    have hll := ls_len s
    have hnl : ln n ∈ namesOf (ls s) := by rw [ls_names]; exact List.mem_map.mpr ⟨n, hn, rfl⟩
    have hn10 : ∀ m ∈ namesOf s, (m.map Dt.str).length + ([.str "t", .str "u"] : List Dt).length ≤ sizeLine := fun m hm => by
      have := (ok.nm m hm).2.2
      rw [List.length_map, sizeLine_eq]
      show _ + 2 ≤ _
      omega
    refine .newD (i := 4) ?_ sc_longer.nd
    refine .for rfl (.keys (.var (i := 0) rfl)) (fun i ρ => ∃ e5 e6 e7 e8 e9, ρ = [.dat (eSt s), .dat (ePol lo hi), .dat (eN n), .dat (.int mo), .od (eKv ((ls s).take i)), e5, e6, e7, e8, e9, .un, .un, .un] ∧ isOwn e5 = false ∧ isOwn e6 = false ∧ isOwn e7 = false ∧ isOwn e8 = false ∧ isOwn e9 = false) ⟨.un, .un, .un, .un, .un, rfl, rfl, rfl, rfl, rfl, rfl⟩ (fun i d ρ hi' hI => ?_) (fun ρ hI => ?_)
    · obtain ⟨e5, e6, e7, e8, e9, rfl, h5, h6, h7, h8, h9⟩ := hI
      unfold eKv at hi'
      rw [List.map_map, List.getElem?_map] at hi'
      cases q : s[i]? with
      | none => rw [q] at hi'; cases hi'
      | some p =>
        rw [q] at hi'
        have hd : d = eN p.1 := by
          have := Option.some.inj hi'
          rw [← this]
          exact nkD_nk p.1
        subst hd
        have hpm := List.mem_of_getElem? q
        obtain ⟨okt, h8t, htv⟩ := ok.tl p hpm
        have hpn : p.1 ∈ namesOf s := List.mem_map.mpr ⟨p, hpm, rfl⟩
        have htl := tlOf_of ok.nd (show (p.1, p.2) ∈ s from hpm)
        have hbi : (ls s)[i]? = some (ln p.1, lt p.2) := by unfold ls; rw [List.getElem?_map, q]; rfl
        have hnx : (ls s).take (i + 1) = (ls s).take i ++ [(ln p.1, lt p.2)] := by rw [List.take_add_one, hbi]; rfl
        have hil : i < (ls s).length := (List.getElem?_eq_some_iff.mp hbi).1
        have hfresh : ln p.1 ∉ namesOf ((ls s).take i) := by
          intro hin
          have hnd := okl.nd
          unfold namesOf at hnd hin
          rw [List.map_take] at hin
          obtain ⟨j, hj1, hj2⟩ := List.mem_take_iff_getElem.mp hin
          have hj3 : ((ls s).map (·.1))[j]? = some (ln p.1) := by rw [← hj2]; exact List.getElem?_eq_getElem (by omega)
          have hj4 : ((ls s).map (·.1))[i]? = some (ln p.1) := by rw [List.getElem?_map, hbi]; rfl
          have := (List.getElem?_inj (by omega) hnd).mp (hj3.trans hj4.symm)
          omega
        rw [hnx]
        have hkl : (eKv ((ls s).take i)).length < sizeLine := by rw [st_len, List.length_take, sizeLine_eq]; omega
        refine ⟨_, _, .name (i := 5) sc_longer.nd, ?_⟩
        refine .newL (i := 6) ?_ sc_longer.nd
        refine .for rfl (.list (ds := (gt p.2).map eGE) (.ixSt hr (.var (i := 0) rfl) (.var (i := 5) rfl) htl)) (fun j ρ => ∃ e7 e8 e9, ρ = [.dat (eSt s), .dat (ePol lo hi), .dat (eN n), .dat (.int mo), .od (eKv ((ls s).take i)), .dat (eN p.1), .ol ((gt (lt (p.2.take j))).map eGE), e7, e8, e9, .un, .un, .un] ∧ isOwn e7 = false ∧ isOwn e8 = false ∧ isOwn e9 = false) ⟨e7, e8, e9, rfl, h7, h8, h9⟩ (fun j d ρ hj hJ => ?_) (fun ρ hJ => ?_)
        · obtain ⟨e7, e8, e9, rfl, h7, h8, h9⟩ := hJ
          rw [List.getElem?_map, gt_get] at hj
          cases q2 : p.2[j]? with
          | none => rw [q2] at hj; cases hj
          | some e =>
            rw [q2] at hj
            cases hj
            have hev := htv e (List.mem_of_getElem? q2)
            have hjl : j < p.2.length := (List.getElem?_eq_some_iff.mp q2).1
            have hnx2 : (gt (lt (p.2.take (j + 1)))).map eGE = (gt (lt (p.2.take j))).map eGE ++ [eGE (e.1, e.2.1, eV (lv e.2.2))] := by
              rw [List.take_add_one, q2]
              unfold gt lt
              rw [List.map_append, List.map_append, List.map_append]
              rfl
            rw [hnx2]
            have hsz : ((gt (lt (p.2.take j))).map eGE).length < sizeLine := by
              rw [List.length_map, gt_len]
              unfold lt
              rw [List.length_map, List.length_take, sizeLine_eq]
              omega
            refine ⟨_, _, .tup rfl (.cons (.name (i := 7) sc_longer.nd) (.cons (.name (i := 8) sc_longer.nd) (.cons (.name (i := 9) sc_longer.nd) .nil))) rfl, ?_⟩
            refine .app (i := 6) (d := eGE (e.1, e.2.1, eV (lv e.2.2))) (ρ1 := [.dat (eSt s), .dat (ePol lo hi), .dat (eN n), .dat (.int mo), .od (eKv ((ls s).take i)), .dat (eN p.1), .ol ((gt (lt (p.2.take j))).map eGE), .dat (.int e.1), .dat (.int e.2.1), .dat (eV e.2.2), .un, .un, .un]) rfl (.tup (.cons (.var (i := 7) rfl) (.cons (.var (i := 8) rfl) (.one ?_)))) rfl hsz (.nil ⟨.dat (.int e.1), .dat (.int e.2.1), .dat (eV e.2.2), rfl, rfl, rfl, rfl⟩)
            clear hnx2
            obtain ⟨ea, eb, v⟩ := e
            cases v with
            | rows x => exact .ifE (k := false) (.is (.cmp (.eqS (s := "rows") (.ixT (d := .str "rows") (.var (i := 9) rfl) .int rfl) .str)) (by decide)) (fun h => by cases h) fun _ => .var (i := 9) rfl
            | to m =>
              exact .ifE (k := true) (.is (.cmp (.eqS (s := "to") (.ixT (d := .str "to") (.var (i := 9) rfl) .int rfl) .str)) (by decide)) (fun _ => .tup (.cons .str (.one (.is (.addT (.ixT (d := eN m) (.var (i := 9) rfl) .int rfl) (.tup (.cons .str (.one .str))) (hn10 m hev)) (eN_ln m))))) fun h => by cases h
        · obtain ⟨e7, e8, e9, rfl, h7, h8, h9⟩ := hJ
          have e1 : ((gt p.2).map eGE).length = p.2.length := by rw [List.length_map, gt_len]
          rw [e1, List.take_length]
          refine .putK (i := 4) (ks := (ln p.1).map .text) (d := eGT (gt (lt p.2))) hr (.own (i := 6) rfl) (.key (n := ln p.1) (.is (.addT (.var (i := 5) rfl) (.tup (.cons .str (.one .str))) (hn10 _ hpn)) (eN_ln p.1))) ⟨_, rfl⟩ rfl (depth_nk _) hkl (.nil ⟨.dat (eN p.1), .dat (eGT (gt (lt p.2))), e7, e8, e9, ?_, rfl, rfl, h7, h8, h9⟩)
          have e := dput_new hfresh (lt p.2)
          show [_, _, _, _, En.od (dput (eKv ((ls s).take i)) (nk (ln p.1)) (eGT (gt (lt p.2)))), _, _, _, _, _, _, _, _] = _
          rw [e]
          rfl
    · obtain ⟨e5, e6, e7, e8, e9, rfl, h5, h6, h7, h8, h9⟩ := hI
      have e1 : ((eKv s).map fun p => nkD p.1).length = (ls s).length := by rw [List.length_map, st_len, hll]
      rw [e1, List.take_length]
      have hTl := told_size ok (lo := lo) (hi := hi) (mo := mo) hn
      have hTo := toldL_ok ok (lo := lo) (hi := hi) (mo := mo) hn
      have hTlo := toldL_ok okl (lo := lo) (hi := hi) (mo := mo) hnl
      have hTe := toldL_ls s lo hi mo n
      have hFe := first_ls s lo hi n
      have hcall : rWh toldL [eSt s, ePol lo hi, eN n, .int mo] (ePss (toldL s lo hi n mo)) := ⟨s, lo, hi, n, mo, rfl, ok, okp, hn, h0, rfl⟩
      have hcall2 : rWh toldL [eSt (ls s), ePol lo hi, eN (ln n), .int mo] (ePss (toldL (ls s) lo hi (ln n) mo)) := ⟨ls s, lo, hi, ln n, mo, rfl, okl, okp, hnl, h0, rfl⟩
      have hD : nobl (ePss (toldL (ls s) lo hi (ln n) mo)) = true := nobl_ePss fun ps hps => nobl_ePs (fun n hn => (okl.nm n hn).1) (hTlo ps hps).ok
      have hdD : dep (ePss (toldL (ls s) lo hi (ln n) mo)) ≤ 64 := by
        have := deps_ePss (toldL (ls s) lo hi (ln n) mo)
        show deps ((toldL (ls s) lo hi (ln n) mo).map ePs) + 1 ≤ 64
        omega
      rw [hTe] at hD hdD hcall2
      generalize toldL s lo hi n mo = T at *
      refine .newL (i := 10) ?_ sc_longer.nd
      refine .for rfl (.list (ds := T.map ePs) (.call DM hr (.cons (.var (i := 0) rfl) (.cons (.var (i := 1) rfl) (.cons (.var (i := 2) rfl) (.one (.var (i := 3) rfl))))) hcall)) (fun i ρ => ∃ e5 e9 e11 e12, ρ = [.dat (eSt s), .dat (ePol lo hi), .dat (eN n), .dat (.int mo), .od (eKv (ls s)), e5, e6, e7, e8, e9, .ol (((T.take i).map fun qs => qs.map lp).map ePs), e11, e12] ∧ isOwn e5 = false ∧ isOwn e9 = false ∧ isOwn e11 = false ∧ isOwn e12 = false) ⟨e5, e9, .un, .un, rfl, h5, h9, rfl, rfl⟩ (fun i d ρ hi' hI => ?_) (fun ρ hI => ?_)
      · obtain ⟨e5, e9, e11, e12, rfl, h5, h9, h11, h12⟩ := hI
        rw [List.getElem?_map] at hi'
        cases q : T[i]? with
        | none => rw [q] at hi'; cases hi'
        | some ps =>
          rw [q] at hi'
          cases hi'
          have okps := hTo ps (List.mem_of_getElem? q)
          have hpl := okps.lz
          have hil : i < T.length := (List.getElem?_eq_some_iff.mp q).1
          have hnx : ((T.take (i + 1)).map fun qs => qs.map lp).map ePs = ((T.take i).map fun qs => qs.map lp).map ePs ++ [ePs (ps.map lp)] := by
            rw [List.take_add_one, q, List.map_append, List.map_append]
            rfl
          rw [hnx]
          refine ⟨_, _, .name (i := 11) sc_longer.nd, ?_⟩
          refine .newL (i := 12) ?_ sc_longer.nd
          refine .for rfl (.list (.var (i := 11) rfl)) (fun j ρ => ∃ e5 e9, ρ = [.dat (eSt s), .dat (ePol lo hi), .dat (eN n), .dat (.int mo), .od (eKv (ls s)), e5, e6, e7, e8, e9, .ol (((T.take i).map fun qs => qs.map lp).map ePs), .dat (ePs ps), .ol (((ps.take j).map lp).map ePr)] ∧ isOwn e5 = false ∧ isOwn e9 = false) ⟨e5, e9, rfl, h5, h9⟩ (fun j d ρ hj hJ => ?_) (fun ρ hJ => ?_)
          · obtain ⟨e5, e9, rfl, h5, h9⟩ := hJ
            rw [List.getElem?_map] at hj
            cases q2 : ps[j]? with
            | none => rw [q2] at hj; cases hj
            | some p =>
              rw [q2] at hj
              cases hj
              obtain ⟨hp1, hp2⟩ := okps.ok p (List.mem_of_getElem? q2)
              have hjl : j < ps.length := (List.getElem?_eq_some_iff.mp q2).1
              have hnx2 : ((ps.take (j + 1)).map lp).map ePr = ((ps.take j).map lp).map ePr ++ [ePr (lp p)] := by
                rw [List.take_add_one, q2, List.map_append, List.map_append]
                rfl
              rw [hnx2]
              have hsz : (((ps.take j).map lp).map ePr).length < sizeLine := by rw [List.length_map, List.length_map, List.length_take, sizeLine_eq]; omega
              refine ⟨_, _, .tup rfl (.cons (.name (i := 5) sc_longer.nd) (.cons (.name (i := 9) sc_longer.nd) .nil)) rfl, ?_⟩
              refine .app (i := 12) (d := ePr (lp p)) (ρ1 := [.dat (eSt s), .dat (ePol lo hi), .dat (eN n), .dat (.int mo), .od (eKv (ls s)), .dat (eN p.1), e6, e7, e8, .dat (eV p.2), .ol (((T.take i).map fun qs => qs.map lp).map ePs), .dat (ePs ps), .ol (((ps.take j).map lp).map ePr)]) rfl (.tup (.cons (.is (.addT (.var (i := 5) rfl) (.tup (.cons .str (.one .str))) (hn10 _ hp1)) (eN_ln p.1)) (.one ?_))) rfl hsz (.nil ⟨.dat (eN p.1), .dat (eV p.2), rfl, rfl, rfl⟩)
              clear hnx2
              obtain ⟨pn, v⟩ := p
              cases v with
              | rows x => exact .ifE (k := false) (.is (.cmp (.eqS (s := "rows") (.ixT (d := .str "rows") (.var (i := 9) rfl) .int rfl) .str)) (by decide)) (fun h => by cases h) fun _ => .var (i := 9) rfl
              | to m =>
                exact .ifE (k := true) (.is (.cmp (.eqS (s := "to") (.ixT (d := .str "to") (.var (i := 9) rfl) .int rfl) .str)) (by decide)) (fun _ => .tup (.cons .str (.one (.is (.addT (.ixT (d := eN m) (.var (i := 9) rfl) .int rfl) (.tup (.cons .str (.one .str))) (hn10 m hp2)) (eN_ln m))))) fun h => by cases h
          · obtain ⟨e5, e9, rfl, h5, h9⟩ := hJ
            rw [List.length_map, List.take_length]
            have hsz : (((T.take i).map fun qs => qs.map lp).map ePs).length < sizeLine := by rw [List.length_map, List.length_map, List.length_take, sizeLine_eq]; omega
            exact .app (i := 10) (d := ePs (ps.map lp)) rfl (.own (i := 12) rfl) rfl hsz (.nil ⟨e5, e9, .dat (ePs ps), .dat (ePs (ps.map lp)), rfl, h5, h9, rfl, rfl⟩)
      · obtain ⟨e5, e9, e11, e12, rfl, h5, h9, h11, h12⟩ := hI
        rw [List.length_map, List.take_length]
        have hoi : ∀ o : Option Int, nobl (oI o) = true ∧ dep (oI o) ≤ 64 := fun o => by
          cases o with
          | none => exact ⟨rfl, Nat.zero_le _⟩
          | some i => exact ⟨rfl, Nat.zero_le _⟩
        obtain ⟨ho1, ho2⟩ := hoi (firstT s lo hi n)
        have hf1 : rFT [eSt (ls s), ePol lo hi, eN (ln n)] (oI (firstT s lo hi n)) := ⟨ls s, lo, hi, ln n, rfl, okl, okp, hnl, by rw [hFe]⟩
        have hf2 : rFT [eSt s, ePol lo hi, eN n] (oI (firstT s lo hi n)) := ⟨s, lo, hi, n, rfl, ok, okp, hn, rfl⟩
        refine .skip (ρ1 := [.dat (eSt s), .dat (ePol lo hi), .dat (eN n), .dat (.int mo), .dat (eSt (ls s)), e5, e6, e7, e8, e9, .ol ((T.map fun qs => qs.map lp).map ePs), e11, e12]) (.cmp (.neD hr (.call DF hr (.cons (.ownD (i := 4) rfl) (.cons (.var (i := 1) rfl) (.one (.is (.addT (.var (i := 2) rfl) (.tup (.cons .str (.one .str))) (hn10 _ hn)) (eN_ln n))))) hf1) (.call DF hr (.cons (.var (i := 0) rfl) (.cons (.var (i := 1) rfl) (.one (.var (i := 2) rfl)))) hf2) (plain_of _ ho1) (plain_of _ ho1) ho2 ho2)) (by rw [eqd_self ho1]; rfl) ?_
        have hx := plain_of _ hD
        have hq := eqd_self hD
        exact .ret (.is (.cmp (.eqD hr (x := ePss (T.map fun qs => qs.map lp)) (y := ePss (T.map fun qs => qs.map lp)) (.call DM hr (.cons (.var (i := 4) rfl) (.cons (.var (i := 1) rfl) (.cons (.is (.addT (.var (i := 2) rfl) (.tup (.cons .str (.one .str))) (hn10 _ hn)) (eN_ln n)) (.one (.var (i := 3) rfl))))) hcall2) (.own (i := 10) rfl) hx hx hdD hdD)) (by rw [hq])) rfl)
end Rw
namespace Rw
open PySem PySem.Spec PyProof.Rows L2
section
variable {X : Cx} {ρ ρ1 ρ2 : List En} {a b : Expr} {rest : List Expr} {pos : Pos} {k : Bool}
theorem EV.andT (h : EV X a ρ (.bl true) ρ1) (h2 : EV X (.BoolOp .And (b :: rest) pos) ρ1 (.bl k) ρ2) : EV X (.BoolOp .And (a :: b :: rest) pos) ρ (.bl k) ρ2 := .of (pe_and pe_c pe_c) fun pp F G Hd H σ Q er kk => h pp F G Hd H σ _ er fun v Hd1 H1 e1 er1 r1 => by
  cases r1
  exact ⟨_, rfl, iteT (h2 pp F G Hd1 H1 σ _ er1 (KE.up kk e1))⟩
end
/-- f(own, ..): the list of one's own may change, nothing is said of it -/
def spT (P : Program) (w : World) (K : PySem.W.Frag) (n : Nat) (rel : List Dt → List Dt → Dt → Prop) : Sp := fun vs H Q _ => ∃ p vs' xs Hd pt ds d, vs = .ref p :: vs' ∧ H p = some (.lst xs) ∧ Hd p = none ∧ RepL P w K Hd xs pt ∧ Sub Hd H ∧ RepL P w K Hd vs' ds ∧ ds.length = n ∧
  rel pt ds d ∧ ∀ v H' Hd', (∀ a o, a ≠ p → H a = some o → H' a = some o) → Ex Hd Hd' → Sub Hd' H' → (∀ a, H a ≠ none → Hd a = none → Hd' a = none) → Rep P w K Hd' v d → Q v H'
def FinT (d : Dt) : Ou → Prop
  | .rt d' ρ => d' = d ∧ ∃ pt, ρ[0]? = some (.ol pt)
  | _ => False
variable {P : Program} {w : World} {K : PySem.W.Frag} {mg : Str → Option Value} {base : Heap} {k n : Nat}
theorem defOkT {f : Str} {s : Stmt} {rel : List Dt → List Dt → Dt → Prop} (N ps : List Str) (F : Fn K mg f s) (S : FnScope N ps (defScope s)) (hn : ps.length = n + 1)
    (hb : ∀ kV doc pm an cdv ct us, us.length = ps.length → bindArgs (PySem.W.fnOf f f (defArgs s) (defBody s) (defScope s) .none kV doc pm an cdv ct) ⟨us, []⟩ = pure (ps.zip us))
    (h : ∀ fa cdv A outer s' H E, Room k (A.deeper (envOfC f (defScope s) s'.heap.objs.size fa cdv)) → ∀ pt ds d, ds.length = n → rel pt ds d → SD (cxOf CX0 P w K mg base N f (defScope s) fa cdv A outer s' H E).nox (defBody s) (ρP N pt ds) (FinT d)) :
    DefOk P w K mg base f (k + 1) (n + 1) (spT P w K n rel) := by
  obtain ⟨fa, fd, hm, F⟩ := F.ex
  refine ⟨fa, fd, ps, hn, hm, F.kp, ?_, F.ok S (fun vs H Q E sp => ?_) fun cdv A outer s' H vs Q E hr sp => ?_⟩
  · exact F.binds hb
  · obtain ⟨p, vs', xs, Hd, pt, ds, d, rfl, _, _, _, _, r, hl, _⟩ := sp
    rw [List.length_cons, r.length, hl, hn]
  · obtain ⟨p, vs', xs, Hd, pt, ds, d, rfl, hp, hd, rp, sb, r, hl, hrel, k'⟩ := sp
    refine ⟨_, pss_c, h fa cdv A outer s' H E hr pt ds d hl hrel (some p) (fun a => if a = p then none else H a) Hd Hd H _ _ (.beginP sb hp hd rp r) ⟨?_, ?_, ?_, ?_⟩⟩
    · exact fun σ' Hd' H' ρ' e er q => False.elim q
    · exact fun σ' Hd' H' ρ' e er q => False.elim q
    · exact fun σ' Hd' H' ρ' e er q => False.elim q
    · rintro v σ' Hd' H' ρ' d' e er rv ⟨rfl, pt', q⟩
      refine k' v H' Hd' (fun a o ne ho => er.fr a o (by rw [if_neg ne]; exact ho)) er.gd er.sb (fun a h1 h2 => ?_) rv
      by_cases e : a = p
      · subst e
        obtain ⟨y, z1, a', xs', rfl, _, z3, _⟩ := er.sl 0 _ q
        rw [er.pt a rfl] at z1
        cases z1
        exact z3
      · exact er.sep a (by rw [if_neg e]; exact h1) h2
/-! the first torn moment -/
theorem first_none {s : Story} {lo hi : Int} {n : Nm} (h : firstT s lo hi n = none) : ∀ m ∈ startsOf s, tornL s lo hi n m = [] := fun m hm => by
  unfold firstT at h
  have := List.find?_eq_none.mp h m hm
  cases z : tornL s lo hi n m with
  | nil => rfl
  | cons a r => rw [z] at this; exact absurd rfl this
theorem first_some {s : Story} {lo hi f : Int} {n : Nm} (h : firstT s lo hi n = some f) : f ∈ startsOf s ∧ tornL s lo hi n f ≠ [] ∧ ∀ m ∈ startsOf s, m < f → tornL s lo hi n m = [] := by
  unfold firstT at h
  obtain ⟨hp, as, bs, he, has⟩ := List.find?_eq_some_iff_append.mp h
  have hup := starts_up s
  rw [he] at hup ⊢
  refine ⟨by simp, fun z => by rw [z] at hp; exact absurd hp (by decide), fun m hm hlt => ?_⟩
  rcases List.mem_append.mp hm with z | z
  · have := has m z
    cases q : tornL s lo hi n m with
    | nil => rfl
    | cons a r => rw [q] at this; exact absurd this (by simp)
  · exfalso
    rcases List.mem_cons.mp z with y | y
    · omega
    · have := (List.pairwise_cons.mp (List.pairwise_append.mp hup).2.1).1 m y
      omega
/-! moments are data -/
theorem moms_in {s : Story} {n : Int} : (startsOf s).map Dt.int = (startsOf s).map .int := rfl
def manyN (big : Bool) (p : Pot) : Int × Pot := if big = true then (5 + (draw p 2).1, (draw p 2).2) else (1 + (draw p 4).1, (draw p 4).2)
theorem manyN_b (big : Bool) (p : Pot) : 1 ≤ (manyN big p).1 ∧ (manyN big p).1 ≤ 6 := by
  have a0 := draw_lo p (m := 2) (by decide)
  have a1 := draw_hi p (m := 2) (by decide)
  have b0 := draw_lo p (m := 4) (by decide)
  have b1 := draw_hi p (m := 4) (by decide)
  unfold manyN
  split
  · dsimp only; omega
  · dsimp only; omega
theorem manyN_pot {N : Nat} {p : Pot} (big : Bool) (ok : PotOk N p) : PotOk (N + 1) (manyN big p).2 := by
  unfold manyN
  split
  · exact draw_ok ok 2
  · exact draw_ok ok 4
end Rw
namespace Rw
open PySem PySem.Spec PyProof.Rows L2
variable {P : Program} {w : World} {K : PySem.W.Frag} {mg : Str → Option Value} {base : Heap} {k n : Nat}
abbrev s_turn : Stmt := topS 117
abbrev rTu : List Dt → List Dt → Dt → Prop := fun pt ds d => ∃ p, pt = ePot p ∧ ds = [] ∧ PotOk 100 p ∧ d = .bl true
abbrev nTu : List Str := ["_law_pot_here", "_law_big", "_law_names_here", "_law_policy_here", "_law_story_here", "_law_starts_here", "_law_zones", "_law_turn_here", "_law_name", "_law_near", "_law_moment", "_law_had", "_law_start", "_law_zone_here"]
theorem sc_turn : FnScope nTu ["_law_pot_here"] (defScope s_turn) := ⟨rfl, rfl, rfl, by decide, rfl, by decide, by decide⟩
structure TurnDs (P : Program) (w : World) (K : PySem.W.Frag) (mg : Str → Option Value) (base : Heap) : Prop where
  draw : DefOk P w K mg base "_law_draw" 1 2 (spP P w K 1 rDraw)
  names : DefOk P w K mg base "_law_names" 3 2 (spP P w K 1 rNam)
  policy : DefOk P w K mg base "_law_policy" 2 1 (spP P w K 0 rPolF)
  story : DefOk P w K mg base "_law_story" 2 3 (spP P w K 2 rStF)
  starts : DefOk P w K mg base "_law_starts" 2 1 (spD P w K 1 rSts)
  zone : DefOk P w K mg base "_law_zone" 11 2 (spD P w K 2 rLZ)
  at_ : DefOk P w K mg base "_law_at" 9 5 (spD P w K 5 rAt)
  first : DefOk P w K mg base "first_torn" 7 3 (spD P w K 3 rFT)
  torn : DefOk P w K mg base "torn" 7 4 (spD P w K 4 (rWh tornL))
  fresh : DefOk P w K mg base "_law_fresh" 12 3 (spD P w K 3 rFr)
  longer : DefOk P w K mg base "_law_longer" 8 4 (spD P w K 4 rLo)
theorem turn_def (B : Bs mg) (T : TurnDs P w K mg base) (F : Fn K mg "_law_turn" s_turn) : DefOk P w K mg base "_law_turn" 13 1 (spT P w K 0 rTu) :=
  defOkT nTu ["_law_pot_here"] F sc_turn rfl (fun _ _ _ _ _ _ us h => by
    match us, h with
    | [_], _ => rfl) (by
    rintro fa cdv A outer s' H E hr pt ds d hl ⟨p, rfl, rfl, ok, rfl⟩
    have hr1 := hr.mono (show 1 ≤ 12 by decide)
    have hr2 := hr.mono (show 2 ≤ 12 by decide)
    have hr3 := hr.mono (show 3 ≤ 12 by decide)
    have hr7 := hr.mono (show 7 ≤ 12 by decide)
    have hr8 := hr.mono (show 8 ≤ 12 by decide)
    have hr9 := hr.mono (show 9 ≤ 12 by decide)
    have hr11 := hr.mono (show 11 ≤ 12 by decide)
    have ok1 := draw_ok ok 4
    refine .asg (i := 1) (d := .bl (decide ((draw p 4).1 = 0))) (ρ1 := [.ol (ePot (draw p 4).2), .un, .un, .un, .un, .un, .un, .un, .un, .un, .un, .un, .un, .un]) (.cmp (.eqI (.drw T.draw hr1 .int rfl ⟨_, rfl⟩ ok (by decide) (by decide) (by decide)) .int)) ?_ sc_turn.nd
    generalize decide ((draw p 4).1 = 0) = big
    generalize (draw p 4).2 = p1 at *
    have ok2 := manyN_pot big ok1
    obtain ⟨m1, m6⟩ := manyN_b big p1
    have hmany : ((manyN big p1).1.toNat : Int) = (manyN big p1).1 := by omega
    refine .asg (i := 2) (d := .lst ((namesAt (manyN big p1).1.toNat (manyN big p1).1.toNat (manyN big p1).2).1.map eN)) (ρ1 := [.ol (ePot (namesAt (manyN big p1).1.toNat (manyN big p1).1.toNat (manyN big p1).2).2), .dat (.bl big), .un, .un, .un, .un, .un, .un, .un, .un, .un, .un, .un, .un]) (.callP (i := 0) (pt := ePot (manyN big p1).2) (ρ1 := [.ol (ePot (manyN big p1).2), .dat (.bl big), .un, .un, .un, .un, .un, .un, .un, .un, .un, .un, .un, .un]) (ds := [.int (manyN big p1).1]) T.names hr3 rfl ⟨_, rfl⟩ (.one (.ifE (k := big) (.val (.var (i := 1) rfl)) (fun h => ?_) fun h => ?_)) ⟨(manyN big p1).2, (manyN big p1).1.toNat, rfl, by rw [hmany], by omega, ok2.up (by decide), rfl, rfl⟩) ?_ sc_turn.nd
    · unfold manyN
      rw [if_pos h]
      exact .add .int (.drw T.draw hr1 .int rfl ⟨_, rfl⟩ ok1 (by decide) (by decide) (by decide))
    · unfold manyN
      rw [if_neg (by rw [h]; exact Bool.false_ne_true)]
      exact .add .int (.drw T.draw hr1 .int rfl ⟨_, rfl⟩ ok1 (by decide) (by decide) (by decide))
    generalize hmn : (manyN big p1).1.toNat = many at *
    have hm1 : 1 ≤ many := by omega
    have hm6 : many ≤ 6 := by omega
    generalize (manyN big p1).2 = p2 at *
    have hlen := namesAt_len many p2 many
    obtain ⟨nd, hok⟩ := namesAt_ok hm6 p2 many (Nat.le_refl _)
    have ok3 := (namesAt_pot (many := many) ok2 many).up (show 100 + 1 + 1 + 24 * many ≤ 300 by omega)
    generalize (namesAt many many p2).2 = p3 at *
    generalize (namesAt many many p2).1 = ns at *
    have hne : ns ≠ [] := fun z => by rw [z] at hlen; simp at hlen; omega
    refine .asg (i := 3) (d := ePol (polF p3).1.1 (polF p3).1.2) (ρ1 := [.ol (ePot (polF p3).2), .dat (.bl big), .dat (.lst (ns.map eN)), .un, .un, .un, .un, .un, .un, .un, .un, .un, .un, .un]) (.callP (i := 0) T.policy hr2 rfl ⟨_, rfl⟩ .nil ⟨p3, rfl, rfl, ok3.up (by decide), rfl, rfl⟩) ?_ sc_turn.nd
    have okp := pol_ok p3
    have ok4 := pol_pot ok3
    generalize (polF p3).2 = p4 at *
    generalize (polF p3).1.1 = lo at *
    generalize (polF p3).1.2 = hi at *
    refine .asg (i := 4) (d := eSt (storyF ns big p4).1) (ρ1 := [.ol (ePot (storyF ns big p4).2), .dat (.bl big), .dat (.lst (ns.map eN)), .dat (ePol lo hi), .un, .un, .un, .un, .un, .un, .un, .un, .un, .un]) (.callP (i := 0) T.story hr2 rfl ⟨_, rfl⟩ (.cons (.var (i := 2) rfl) (.one (.var (i := 1) rfl))) ⟨p4, ns, big, rfl, rfl, hne, by omega, nd, hok, ok4.up (by decide), rfl, rfl⟩) ?_ sc_turn.nd
    obtain ⟨oks, hns, hag⟩ := story_ok hne (by omega) nd hok big p4
    have ok5 := (story_pot ns big ok4).up (show 300 + 5 + 2 + 106 * ns.length ≤ 1000 by omega)
    generalize (storyF ns big p4).2 = p5 at *
    generalize (storyF ns big p4).1 = s at *
    have hag : AgesOk s := hag
    have hsh : Short s := fun m hm => by rw [hns] at hm; exact (hok m hm).2.2
    have hsl := starts_len oks
    refine .asg (i := 5) (.call T.starts hr2 (.one (.var (i := 4) rfl)) ⟨s, rfl, oks, rfl⟩) ?_ sc_turn.nd
    refine .lcF (i := 6) [("_law_start", 12)] [12] (fun d => match d with | .int st => some (.tup [.int st, zonE (zOf s st)]) | _ => none) rfl sc_turn.nd (.list (.var (i := 5) rfl)) (by rw [List.length_map, sizeLine_eq]; omega) (fun d hd => ?_) ?_
    · obtain ⟨st, hst, rfl⟩ := List.mem_map.mp hd
      exact .map (fun _ _ _ _ _ => .name sc_turn.nd) (Agree.wiped.set (by decide)) rfl fun _ _ _ _ _ => .tup (.cons (.var (i := 12) rfl) (.one (.call T.zone hr11 (.cons (.var (i := 4) rfl) (.one (.var (i := 12) rfl))) ⟨s, st, rfl, oks, hag, starts_nn oks hst, rfl⟩)))
    have hz : Dt.lst (((startsOf s).map Dt.int).filterMap (fun d => match d with | .int st => some (.tup [.int st, zonE (zOf s st)]) | _ => none)) = eZs s := by
      rw [List.filterMap_map]
      exact congrArg Dt.lst (filterMap_some (fun st : Int => Dt.tup [.int st, zonE (zOf s st)]) _)
    rw [hz]
    have hst1 : 0 < (startsOf s).length := List.length_pos_of_mem (zero_start oks)
    have hnl : 0 < ns.length := by omega
    have hlenN : ((ns.map eN).length : Int) = ns.length := by rw [List.length_map]
    have hlenS : (((startsOf s).map Dt.int).length : Int) = (startsOf s).length := by rw [List.length_map]
    refine .for rfl (.range B.range (n := if big = true then 1 else 4) (.ifE (k := big) (.val (.var (i := 1) rfl)) (fun h => by rw [if_pos h]; exact .int) fun h => by rw [if_neg (by rw [h]; exact Bool.false_ne_true)]; exact .int) (by split <;> decide) (by split <;> decide)) (fun i ρ => ∃ q e7 e8 e9 e10, PotOk (1000 + 10 * i) q ∧ ρ = [.ol (ePot q), .dat (.bl big), .dat (.lst (ns.map eN)), .dat (ePol lo hi), .dat (eSt s), .dat (.lst ((startsOf s).map .int)), .dat (eZs s), e7, e8, e9, e10, .un, .un, .un] ∧ isOwn e7 = false ∧ isOwn e8 = false ∧ isOwn e9 = false ∧ isOwn e10 = false) ⟨p5, .un, .un, .un, .un, ok5, rfl, rfl, rfl, rfl, rfl⟩ (fun i d ρ hi' hI => ?_) (fun ρ hI => ?_)
    · obtain ⟨q, e7, e8, e9, e10, okq, rfl, h7, h8, h9, h10⟩ := hI
      have hi4 : i < 4 := by
        unfold intsTo at hi'
        have := (List.getElem?_eq_some_iff.mp hi').1
        rw [List.length_map, List.length_range] at this
        split at this
        · have e : (1 : Int).toNat = 1 := rfl
          omega
        · have e : (4 : Int).toNat = 4 := rfl
          omega
      have hmn : pick ns [] (draw q ns.length).1 ∈ ns := pick_in [] (draw_lo _ (by omega)) (draw_hi _ (by omega))
      refine ⟨_, _, .name (i := 7) sc_turn.nd, ?_⟩
      refine .asg (i := 8) (d := eN (pick ns [] (draw q ns.length).1)) (ρ1 := [.ol (ePot (draw q ns.length).2), .dat (.bl big), .dat (.lst (ns.map eN)), .dat (ePol lo hi), .dat (eSt s), .dat (.lst ((startsOf s).map .int)), .dat (eZs s), .dat d, e8, e9, e10, .un, .un, .un]) (.ixL (.var (i := 2) rfl) (.drw T.draw hr1 (.is (.lenL B.len (.var (i := 2) rfl)) (congrArg Dt.int hlenN)) rfl ⟨_, rfl⟩ okq (by omega) (by omega) (by omega)) (atI_pick eN ns [] (draw_lo _ (by omega)) (draw_hi _ (by omega)))) ?_ sc_turn.nd
      have okq1 := draw_ok okq ns.length
      generalize pick ns [] (draw q ns.length).1 = nm at *
      generalize (draw q ns.length).2 = q1 at *
      have okq2 := draw_ok okq1 14
      refine .asg (i := 9) (d := .int (pick [0, -1, 1, (draw q1 14).1, 1000000000] 0 (draw (draw q1 14).2 5).1)) (ρ1 := [.ol (ePot (draw (draw q1 14).2 5).2), .dat (.bl big), .dat (.lst (ns.map eN)), .dat (ePol lo hi), .dat (eSt s), .dat (.lst ((startsOf s).map .int)), .dat (eZs s), .dat d, .dat (eN nm), e9, e10, .un, .un, .un]) (.ixL (.list (.cons .int (.cons (.neg .int) (.cons .int (.cons (.drw T.draw hr1 .int rfl ⟨_, rfl⟩ okq1 (by omega) (by decide) (by decide)) (.one (.is (.pow .int .int ⟨by decide, by decide +kernel⟩) (d1 := .int 1000000000) rfl))))))) (.drw T.draw hr1 .int rfl ⟨_, rfl⟩ okq2 (by omega) (by decide) (by decide)) (atI_pick .int [0, -1, 1, (draw q1 14).1, 1000000000] 0 (draw_lo _ (by decide)) (draw_hi _ (by decide)))) ?_ sc_turn.nd
      have okq3 := draw_ok okq2 5
      generalize pick [0, -1, 1, (draw q1 14).1, 1000000000] 0 (draw (draw q1 14).2 5).1 = near at *
      generalize (draw (draw q1 14).2 5).2 = q3 at *
      refine .asg (i := 10) (d := .int (max 0 (pick (startsOf s) 0 (draw q3 (startsOf s).length).1 + near))) (ρ1 := [.ol (ePot (draw q3 (startsOf s).length).2), .dat (.bl big), .dat (.lst (ns.map eN)), .dat (ePol lo hi), .dat (eSt s), .dat (.lst ((startsOf s).map .int)), .dat (eZs s), .dat d, .dat (eN nm), .dat (.int near), e10, .un, .un, .un]) (.is (.max2 rfl B.max (.cons .int (.one (.add (.ixL (.var (i := 5) rfl) (.drw T.draw hr1 (.is (.lenL B.len (.var (i := 5) rfl)) (congrArg Dt.int hlenS)) rfl ⟨_, rfl⟩ okq3 (by omega) (by omega) (by omega)) (atI_pick .int (startsOf s) 0 (draw_lo _ (by omega)) (draw_hi _ (by omega)))) (.var (i := 9) rfl))))) (congrArg Dt.int (max_is _ _))) ?_ sc_turn.nd
      have okq4 := draw_ok okq3 (startsOf s).length
      have hmo : 0 ≤ max 0 (pick (startsOf s) 0 (draw q3 (startsOf s).length).1 + near) := Int.le_max_left _ _
      generalize max 0 (pick (startsOf s) 0 (draw q3 (startsOf s).length).1 + near) = mo at *
      generalize (draw q3 (startsOf s).length).2 = q4 at *
      refine .skip (.is (.not (.val (k := true) (.call T.at_ hr9 (.cons (.var (i := 4) rfl) (.cons (.var (i := 3) rfl) (.cons (.var (i := 8) rfl) (.cons (.var (i := 10) rfl) (.one (.var (i := 6) rfl)))))) ⟨s, lo, hi, nm, mo, rfl, oks, hag, okp, by rw [hns]; exact hmn, hmo, rfl⟩))) (b2 := false) rfl) rfl ?_
      exact .nil ⟨q4, .dat d, .dat (eN nm), .dat (.int near), .dat (.int mo), okq4.up (by omega), rfl, rfl, rfl, rfl, rfl⟩
    · obtain ⟨q, e7, e8, e9, e10, okq, rfl, h7, h8, h9, h10⟩ := hI
      have hi4 : (intsTo (if big = true then (1 : Int) else 4).toNat).length ≤ 4 := by
        unfold intsTo
        rw [List.length_map, List.length_range]
        split <;> decide
      have okq := okq.up (show _ ≤ 2000 by omega)
      have hmn : pick ns [] (draw q ns.length).1 ∈ ns := pick_in [] (draw_lo _ (by omega)) (draw_hi _ (by omega))
      refine .asg (i := 8) (d := eN (pick ns [] (draw q ns.length).1)) (ρ1 := [.ol (ePot (draw q ns.length).2), .dat (.bl big), .dat (.lst (ns.map eN)), .dat (ePol lo hi), .dat (eSt s), .dat (.lst ((startsOf s).map .int)), .dat (eZs s), e7, e8, e9, e10, .un, .un, .un]) (.ixL (.var (i := 2) rfl) (.drw T.draw hr1 (.is (.lenL B.len (.var (i := 2) rfl)) (congrArg Dt.int hlenN)) rfl ⟨_, rfl⟩ okq (by omega) (by omega) (by omega)) (atI_pick eN ns [] (draw_lo _ (by omega)) (draw_hi _ (by omega)))) ?_ sc_turn.nd
      have okq1 := draw_ok okq ns.length
      generalize pick ns [] (draw q ns.length).1 = nm at *
      generalize (draw q ns.length).2 = q1 at *
      have hmn : nm ∈ namesOf s := by rw [hns]; exact hmn
      refine .asg (i := 11) (.call T.first hr7 (.cons (.var (i := 4) rfl) (.cons (.var (i := 3) rfl) (.one (.var (i := 8) rfl)))) ⟨s, lo, hi, nm, rfl, oks, okp, hmn, rfl⟩) ?_ sc_turn.nd
      have hnT : ∀ m, nobl (ePss (tornL s lo hi nm m)) = true := fun m => nobl_ePss fun ps hps => nobl_ePs (fun n hn => (oks.nm n hn).1) (toldL_ok oks hmn ps (List.mem_filter.mp hps).1).ok
      have hdT : ∀ m, dep (ePss (tornL s lo hi nm m)) ≤ 64 := fun m => by
        have := deps_ePss (tornL s lo hi nm m)
        show deps ((tornL s lo hi nm m).map ePs) + 1 ≤ 64
        omega
      have hnil : nobl (.lst []) = true := rfl
      have hcT : ∀ m, 0 ≤ m → rWh tornL [eSt s, ePol lo hi, eN nm, .int m] (ePss (tornL s lo hi nm m)) := fun m hm => ⟨s, lo, hi, nm, m, rfl, oks, okp, hmn, hm, rfl⟩
      have hN := first_none (s := s) (lo := lo) (hi := hi) (n := nm)
      have hS := fun f => first_some (s := s) (lo := lo) (hi := hi) (n := nm) (f := f)
      generalize firstT s lo hi nm = fi at *
      refine .for rfl (.list (.var (i := 6) rfl)) (fun i ρ => ∃ e12 e13, ρ = [.ol (ePot q1), .dat (.bl big), .dat (.lst (ns.map eN)), .dat (ePol lo hi), .dat (eSt s), .dat (.lst ((startsOf s).map .int)), .dat (eZs s), e7, .dat (eN nm), e9, e10, .dat (oI fi), e12, e13] ∧ isOwn e12 = false ∧ isOwn e13 = false) ⟨.un, .un, rfl, rfl, rfl⟩ (fun i d ρ hi' hI => ?_) (fun ρ hI => ?_)
      · obtain ⟨e12, e13, rfl, h12, h13⟩ := hI
        rw [List.getElem?_map] at hi'
        cases z : (startsOf s)[i]? with
        | none => rw [z] at hi'; cases hi'
        | some m =>
          rw [z] at hi'
          cases hi'
          have hm := List.mem_of_getElem? z
          have hm0 := starts_nn oks hm
          refine ⟨_, _, .tup rfl (.cons (.name (i := 12) sc_turn.nd) (.cons (.name (i := 13) sc_turn.nd) .nil)) rfl, ?_⟩
          have hne : tornL s lo hi nm m = [] → (!eqd (ePss (tornL s lo hi nm m)) (.lst [])) = false := fun e => by
            rw [e]
            exact congrArg (!·) (eqd_self (x := .lst []) rfl)
          cases fi with
          | none =>
            refine .skip (ρ1 := [.ol (ePot q1), .dat (.bl big), .dat (.lst (ns.map eN)), .dat (ePol lo hi), .dat (eSt s), .dat (.lst ((startsOf s).map .int)), .dat (eZs s), e7, .dat (eN nm), e9, e10, .dat .non, .dat (.int m), .dat (zonE (zOf s m))]) (.w (.andT (.w (.or (k := true) (k' := false) (.is (.cmp (.isN (.var (i := 11) rfl))) rfl) fun h => by cases h)) (.and1 (.is (.cmp (.neD hr1 (.call T.torn hr7 (.cons (.var (i := 4) rfl) (.cons (.var (i := 3) rfl) (.cons (.var (i := 8) rfl) (.one (.var (i := 12) rfl))))) (hcT m hm0)) (.list .nil) (plain_of _ (hnT m)) rfl (hdT m) (by decide))) (hne (hN rfl m hm)))))) rfl (.nil ⟨.dat (.int m), .dat (zonE (zOf s m)), rfl, rfl, rfl⟩)
          | some f =>
            refine .skip (k := decide (m < f) && false) (ρ1 := [.ol (ePot q1), .dat (.bl big), .dat (.lst (ns.map eN)), .dat (ePol lo hi), .dat (eSt s), .dat (.lst ((startsOf s).map .int)), .dat (eZs s), e7, .dat (eN nm), e9, e10, .dat (.int f), .dat (.int m), .dat (zonE (zOf s m))]) (.w (.and (k := decide (m < f)) (k' := false) (.is (.w (.or (k := false) (k' := decide (m < f)) (.is (.cmp (.isN (.var (i := 11) rfl))) rfl) fun _ => .or1 (.cmp (.lt (.var (i := 12) rfl) (.var (i := 11) rfl))))) (Bool.false_or _)) fun hk => .and1 (.is (.cmp (.neD hr1 (.call T.torn hr7 (.cons (.var (i := 4) rfl) (.cons (.var (i := 3) rfl) (.cons (.var (i := 8) rfl) (.one (.var (i := 12) rfl))))) (hcT m hm0)) (.list .nil) (plain_of _ (hnT m)) rfl (hdT m) (by decide))) (hne ((hS f rfl).2.2 m hm (of_decide_eq_true hk)))))) (Bool.and_false _) (.nil ⟨.dat (.int m), .dat (zonE (zOf s m)), rfl, rfl, rfl⟩)
      · obtain ⟨e12, e13, rfl, h12, h13⟩ := hI
        have hsne : startsOf s ≠ [] := fun z => by rw [z] at hst1; simp at hst1
        have hla := last_concat (f := Dt.int) (List.dropLast_concat_getLast hsne).symm
        have hl0 := starts_nn oks (List.getLast_mem hsne)
        generalize (startsOf s).getLast hsne = la at *
        have hd0 := draw_lo q1 (m := 9) (by decide)
        have fin : ∀ d11, isOwn d11 = false → ∀ {e pos rest}, EV (cxOf CX0 P w K mg base nTu "_law_turn" (defScope s_turn) fa cdv A outer s' H E).nox e [.ol (ePot q1), .dat (.bl big), .dat (.lst (ns.map eN)), .dat (ePol lo hi), .dat (eSt s), .dat (.lst ((startsOf s).map .int)), .dat (eZs s), e7, .dat (eN nm), e9, e10, d11, e12, e13] (.bl true) [.ol (ePot (draw q1 9).2), .dat (.bl big), .dat (.lst (ns.map eN)), .dat (ePol lo hi), .dat (eSt s), .dat (.lst ((startsOf s).map .int)), .dat (eZs s), e7, .dat (eN nm), e9, e10, d11, e12, e13] → SD (cxOf CX0 P w K mg base nTu "_law_turn" (defScope s_turn) fa cdv A outer s' H E).nox (.Return (some e) pos :: rest) [.ol (ePot q1), .dat (.bl big), .dat (.lst (ns.map eN)), .dat (ePol lo hi), .dat (eSt s), .dat (.lst ((startsOf s).map .int)), .dat (eZs s), e7, .dat (eN nm), e9, e10, d11, e12, e13] (FinT (.bl true)) := fun d11 _ e pos rest h => .ret h ⟨rfl, _, rfl⟩
        cases fi with
        | none =>
          refine .skip (ρ1 := [.ol (ePot q1), .dat (.bl big), .dat (.lst (ns.map eN)), .dat (ePol lo hi), .dat (eSt s), .dat (.lst ((startsOf s).map .int)), .dat (eZs s), e7, .dat (eN nm), e9, e10, .dat .non, e12, e13]) (.w (.andF (.is (.cmp (.notN (.var (i := 11) rfl))) rfl))) rfl ?_
          refine fin _ rfl (.andT (.call T.fresh hr (.cons (.var (i := 4) rfl) (.cons (.var (i := 3) rfl) (.one (.var (i := 8) rfl)))) ⟨s, lo, hi, nm, rfl, oks, okp, hmn, rfl⟩) (.one (.call T.longer hr8 (.cons (.var (i := 4) rfl) (.cons (.var (i := 3) rfl) (.cons (.var (i := 8) rfl) (.one (.add (.ixL (.var (i := 5) rfl) (.neg .int) hla) (.drw T.draw hr1 .int rfl ⟨_, rfl⟩ okq1 (by decide) (by decide) (by decide))))))) ⟨s, lo, hi, nm, la + (draw q1 9).1, rfl, oks, hsh, okp, hmn, by omega, rfl⟩)))
        | some f =>
          obtain ⟨hf1, hf2, _⟩ := hS f rfl
          have hf0 := starts_nn oks hf1
          have hin : (!ind (.int f) ((startsOf s).map .int)) = false := by
            rw [ind_int]
            simp [hf1]
          have hne : eqd (ePss (tornL s lo hi nm f)) (.lst []) = false := eqd_ne (hnT f) rfl fun z => by
            injection z with z
            exact hf2 (List.map_eq_nil_iff.mp z)
          refine .skip (ρ1 := [.ol (ePot q1), .dat (.bl big), .dat (.lst (ns.map eN)), .dat (ePol lo hi), .dat (eSt s), .dat (.lst ((startsOf s).map .int)), .dat (eZs s), e7, .dat (eN nm), e9, e10, .dat (.int f), e12, e13]) (.w (.andT (.is (.cmp (.notN (.var (i := 11) rfl))) rfl) (.and1 (.w (.or (k := false) (k' := false) (.is (.cmp (.ninD hr1 (.var (i := 11) rfl) (.var (i := 5) rfl) rfl (plains_ints _) (Nat.zero_le _) (by show deps ((startsOf s).map .int) + 1 ≤ 64; rw [deps_ints]; decide))) hin) fun _ => .or1 (.is (.cmp (.eqD hr1 (.call T.torn hr7 (.cons (.var (i := 4) rfl) (.cons (.var (i := 3) rfl) (.cons (.var (i := 8) rfl) (.one (.var (i := 11) rfl))))) (hcT f hf0)) (.list .nil) (plain_of _ (hnT f)) rfl (hdT f) (by decide))) hne)))))) rfl ?_
          refine fin _ rfl (.andT (.call T.fresh hr (.cons (.var (i := 4) rfl) (.cons (.var (i := 3) rfl) (.one (.var (i := 8) rfl)))) ⟨s, lo, hi, nm, rfl, oks, okp, hmn, rfl⟩) (.one (.call T.longer hr8 (.cons (.var (i := 4) rfl) (.cons (.var (i := 3) rfl) (.cons (.var (i := 8) rfl) (.one (.add (.ixL (.var (i := 5) rfl) (.neg .int) hla) (.drw T.draw hr1 .int rfl ⟨_, rfl⟩ okq1 (by decide) (by decide) (by decide))))))) ⟨s, lo, hi, nm, la + (draw q1 9).1, rfl, oks, hsh, okp, hmn, by omega, rfl⟩))))
end Rw
namespace Rw
open PySem PySem.Spec PyProof.Rows L2
abbrev s_pot : Stmt := topS 101
abbrev s_law : Stmt := topS 118
section
variable {X : Cx} {ρ ρ' ρ1 ρ2 : List En} {e a b c tg : Expr} {es : List Expr} {p pos : Pos} {ds pt : List Dt} {d : Dt} {i : Int} {k : Bool} {sa rest : List Stmt}
theorem EV.lenF (hm : X.mg "len" = none) (ha : EV X e ρ (.fls ds) ρ') (hg : Gl X "len" := by rfl) (he : starEach (e :: []) X.env = (false, eval e X.env) :: starEach [] X.env := by rfl) : EV X (.Call (.Name "len" p) [e] [] pos) ρ (.int (ds.length : Int)) ρ' :=
  .callB call_len_seq PySem.boot_len hm (.one ha he) (fun pp F G Hd H σ ρ vs Q er r k => by
    obtain ⟨v, rfl, r1⟩ := r.one
    cases r1 with
    | fls h l =>
      refine ⟨_, _, rfl, .inl (er.sb.sql h), ?_⟩
      rw [l.length]
      exact k.now er (.int _)) hg (by decide) (by decide) he (by rfl)
theorem EV.ixF (ha : EV X a ρ (.fls ds) ρ1) (hb : EV X b ρ1 (.int i) ρ2) (h : atI ds i = some d) (hs : PlainIx b := by exact fun _ _ => rfl) : EV X (.Subscript a b pos) ρ d ρ2 :=
  .ix ix_list ha hb (fun pp F G Hd H σ ρ vx vy Q er r1 r2 k => by
    cases r2
    cases r1 with
    | fls h1 l1 =>
      obtain ⟨v, e, r⟩ := atI_rep l1 h
      exact ⟨_, _, _, v, rfl, rfl, er.sb.sql h1, e, k.now er r⟩) hs
theorem EI.fls (h : EV X e ρ (.fls ds) ρ1) : EI X tg e ρ ds ρ1 := .of (pi_list pe_c) fun pp F G Hd H σ R er k => h pp F G Hd H σ _ er fun v Hd1 H1 e1 er1 r1 => by
  cases r1 with
  | @fls a xs _ ha l =>
    refine ⟨a, rfl, ⟨xs, er1.sb.sql ha⟩, k _ Hd1 H1 e1 er1 ⟨fun i d H Hd e2 sb hi => ?_, fun i H Hd e2 sb hi => ?_⟩⟩
    · have hs : SqL X.K H a xs := sb.sql (e2.sql ha)
      obtain ⟨v, hv, rv⟩ := l.get hi
      refine ⟨⟨xs, v, hs, hv⟩, fun x H' y => ?_⟩
      obtain ⟨eH, y⟩ := y
      have := (y xs hs).symm.trans hv
      cases this
      exact ⟨eH, rv.mono e2⟩
    · exact ⟨xs, sb.sql (e2.sql ha), by rw [l.length]; exact hi⟩
/-- a block that hands back a new list -/
def FR (X : Cx) (st : List Stmt) (ρ : List En) (pt : List Dt) : Prop := ∀ pp F G Hd H σ (D : Ends), XR X pp F G Hd H σ ρ →
  (∀ p xs Hd' H' σ' ρ', Ex Hd Hd' → XR X pp F G Hd' H' σ' ρ' → H' p = none → XRepL X Hd' xs pt → D.rt (.ref p) (upd H' p (.lst xs))) → cS X st D σ H
theorem FR.ret {lp : Pos} (h : EA X es ρ pt ρ1) (hl : pt.length ≤ 1000 := by exact Nat.le_of_ble_eq_true rfl) : FR X (.Return (some (.List es lp)) pos :: rest) ρ pt := fun pp F G Hd H σ D er k pins s I =>
  (pss_cons (ps_ret (pe_lst pa_c)) pss_c).run pins s σ H D I (h pp F G Hd H σ _ er fun vs Hd1 H1 e1 er1 r1 => ⟨by rw [r1.length, sizeLine_eq]; omega, fun a ha => k a vs Hd1 H1 σ ρ1 e1 er1 ha r1⟩)
theorem FR.asg {i : Nat} {x : Str} (h : EV X e ρ d ρ1) (hk : FR X rest (ρ1.set i (.dat d)) pt) (hN : X.N.Nodup) (hi : X.N[i]? = some x := by rfl) (h0 : i ≠ 0 := by decide) (hx : Loc X.env.scope x := by first | exact Or.inl rfl | exact Or.inr rfl) (hs : swapsWith e (some (.Name x p)) pos.line X.env = pure false := by rfl)
    (hf : X.fn x = true ∨ X.env.scope.names.lookup x = some .local := by first | exact .inl rfl | exact .inr rfl) : FR X (.Assign [.Name x p] e pos :: rest) ρ pt := fun pp F G Hd H σ D er k pins s I =>
  (pss_cons (ps_set hN hi hx pe_c hs hf) pss_c).run pins s σ H D I (h pp F G Hd H σ _ er fun v Hd1 H1 e1 er1 r1 => hk pp F G Hd1 H1 _ D (er1.set r1 h0) fun p xs Hd' H' σ' ρ' e' => k p xs Hd' H' σ' ρ' (e1.trans e'))
theorem FR.whenJ (ρ2 : List En) (h : ET X c ρ k ρ1) (h1 : k = true → SD X sa ρ1 (fun o => o = .nx ρ2)) (h2 : k = false → ρ1 = ρ2) (hk : FR X rest ρ2 pt) : FR X (.If c sa [] pos :: rest) ρ pt := fun pp F G Hd H σ D er kk pins s I => by
  refine (pss_cons (ps_if pt_c pss_c pss_c) pss_c).run pins s σ H D I (h pp F G Hd H σ _ er fun Hd1 H1 e1 er1 => ?_)
  have dk : DK X pp F G Hd1 (fun o => o = .nx ρ2) { D with nx := cS X rest D } := by
    refine ⟨fun σ' Hd' H' ρ' e' er' ho => ?_, fun σ' Hd' H' ρ' e' er' ho => ?_, fun σ' Hd' H' ρ' e' er' ho => ?_, fun v σ' Hd' H' ρ' d e' er' r ho => ?_⟩
    · cases ho
      exact hk pp F G Hd' H' σ' D er' fun p xs Hd2 H2 σ2 ρ3 e2 => kk p xs Hd2 H2 σ2 ρ3 ((e1.trans e').trans e2)
    · cases ho
    · cases ho
    · cases ho
  cases k with
  | true => exact iteT (h1 rfl pp F G Hd1 H1 σ _ er1 dk)
  | false => exact iteF ((SD.nil (P := fun o => o = .nx ρ2) (by rw [h2 rfl])) pp F G Hd1 H1 σ _ er1 dk)
end
/-- hands back a new list of one's own -/
def spF (P : Program) (w : World) (K : PySem.W.Frag) (n : Nat) (rel : List Dt → List Dt → Prop) : Sp := fun vs H Q _ => ∃ Hd ds pt, Sub Hd H ∧ RepL P w K Hd vs ds ∧ ds.length = n ∧ rel ds pt ∧
  ∀ p xs H' Hd', Ex H H' → Ex Hd Hd' → Sub Hd' H' → (∀ a, H a ≠ none → Hd a = none → Hd' a = none) → H' p = none → RepL P w K Hd' xs pt → Q (.ref p) (upd H' p (.lst xs))
variable {P : Program} {w : World} {K : PySem.W.Frag} {mg : Str → Option Value} {base : Heap} {k n : Nat}
theorem defOkF {f : Str} {s : Stmt} {rel : List Dt → List Dt → Prop} (N ps : List Str) (F : Fn K mg f s) (S : FnScope N ps (defScope s)) (hn : ps.length = n)
    (hb : ∀ kV doc pm an cdv ct us, us.length = ps.length → bindArgs (PySem.W.fnOf f f (defArgs s) (defBody s) (defScope s) .none kV doc pm an cdv ct) ⟨us, []⟩ = pure (ps.zip us))
    (h : ∀ fa cdv A outer s' H E, Room k (A.deeper (envOfC f (defScope s) s'.heap.objs.size fa cdv)) → ∀ ds pt, ds.length = n → rel ds pt → FR (cxOf CX0 P w K mg base N f (defScope s) fa cdv A outer s' H E).nox (defBody s) (ρ0 N ds) pt) :
    DefOk P w K mg base f (k + 1) n (spF P w K n rel) := by
  obtain ⟨fa, fd, hm, F⟩ := F.ex
  refine ⟨fa, fd, ps, hn, hm, F.kp, ?_, F.ok S (fun vs H Q E sp => ?_) fun cdv A outer s' H vs Q E hr sp => ?_⟩
  · exact F.binds hb
  · obtain ⟨Hd, ds, pt, _, r, hl, _⟩ := sp
    rw [r.length, hl, hn]
  · obtain ⟨Hd, ds, pt, sb, r, hl, hrel, k'⟩ := sp
    exact ⟨_, pss_c, h fa cdv A outer s' H E hr ds pt hl hrel none H Hd Hd H _ _ (.begin sb r) fun p xs Hd' H' σ' ρ' e er hp rp => k' p xs H' Hd' er.fr er.gd er.sb er.sep hp rp⟩
section
variable {X : Cx} {ρ ρ1 : List En} {e : Expr} {es : List Expr} {p1 p2 pos pos2 : Pos} {ds : List Dt} {pt : Pot} {relF : List Dt → List Dt → Prop}
theorem EV.turnPot (DT : XDef X "_law_turn" 13 1 (spT X.prog X.w X.K 0 rTu)) (DP : XDef X "_law_pot" 1 2 (spF X.prog X.w X.K 2 relF)) (hr : Room 13 X.A) (ha : EA X (e :: es) ρ ds ρ1) (hrel : relF ds (ePot pt)) (ok : PotOk 100 pt) (hn : ds.length = 2 := by rfl)
    (hg : Gl X "_law_turn" := by rfl) (hg2 : Gl X "_law_pot" := by rfl)
    (he : starEach (.Call (.Name "_law_pot" p2) (e :: es) [] pos2 :: []) X.env = (false, eval (.Call (.Name "_law_pot" p2) (e :: es) [] pos2) X.env) :: starEach [] X.env := by rfl)
    (he2 : starEach (e :: es) X.env = (false, eval e X.env) :: starEach es X.env := by rfl) (hpl : (backTo pos (starEach [] X.env)).any (·.1) = false := by rfl) (hpl2 : (backTo pos2 (starEach es X.env)).any (·.1) = false := by rfl) :
    EV X (.Call (.Name "_law_turn" p1) [.Call (.Name "_law_pot" p2) (e :: es) [] pos2] [] pos) ρ (.bl true) ρ1 := by
  obtain ⟨fa1, fd1, ps1, hl1, hm1, hk1, hb1, F1⟩ := DT.ex
  obtain ⟨fa2, fd2, ps2, hl2, hm2, hk2, hb2, F2⟩ := DP.ex
  refine .of (pe_call F1 hr hg hm1 hk1 hb1 .nil pass0 (pa_cons (pe_call F2 (hr.mono (by decide)) hg2 hm2 hk2 hb2 .nil pass0 pa_c (by decide) he2 hpl2) pa_nil he) (by decide) he hpl) fun pp F G Hd H σ Q er k => ?_
  refine ha pp F G Hd H σ _ er fun vs Hd1 H1 e1 er1 r1 => ?_
  refine ⟨Hd1, ds, ePot pt, er1.sb, by rw [List.append_nil]; exact r1, hn, hrel, fun a xs H2 Hd2 eH eHd sb2 sp2 hp rp => ?_⟩
  have hda : Hd2 a = none := sb2.back hp
  have h1a : H1 a = none := eH.back hp
  refine ⟨a, [], xs, Hd2, ePot pt, [], .bl true, rfl, upd_same, hda, rp, fun b o hb => ?_, .nil, rfl, ⟨pt, rfl, rfl, ok, rfl⟩, fun v H3 Hd3 e3 eHd3 sb3 sp3 rv => ?_⟩
  · have ne : b ≠ a := fun z => by rw [z, hda] at hb; cases hb
    rw [upd_ne ne]
    exact sb2 b o hb
  · refine k v Hd3 H3 (e1.trans (eHd.trans eHd3)) (er1.called (fun b o hb => ?_) (eHd.trans eHd3) sb3 fun b hb hd => ?_) rv
    · have ne : b ≠ a := fun z => by rw [z, h1a] at hb; cases hb
      exact e3 b o ne (by rw [upd_ne ne]; exact eH b o hb)
    · have hb2 := sp2 b hb hd
      refine sp3 b ?_ hb2
      by_cases ne : b = a
      · subst ne
        rw [upd_same]
        exact Option.some_ne_none _
      · rw [upd_ne ne]
        cases q : H1 b with
        | none => exact absurd q hb
        | some o => rw [eH b o q]; exact Option.some_ne_none _
end
/-! the pot -/
def cellF (ns : List Int) (k : Int) : Int := if k < ns.length then ns.getD k.toNat 0 else 3 + 5 * k
def totF (ns : List Int) : Int := (ns.map fun x => x % (10 ^ 31 + 33)).sum
def potF (ns : List Int) (k : Int) : Pot := (max 0 (cellF ns k - 10 ^ 18), ((if cellF ns k < 0 then -cellF ns k else cellF ns k) * 61 + 7 * totF ns + k) % (10 ^ 37 + 43), 0)
theorem potF_ok (ns : List Int) (k : Int) : PotOk 100 (potF ns k) := by
  have h0 := Int.emod_nonneg ((if cellF ns k < 0 then -cellF ns k else cellF ns k) * 61 + 7 * totF ns + k) (show (10 ^ 37 + 43 : Int) ≠ 0 by decide)
  have h1 := Int.emod_lt_of_pos ((if cellF ns k < 0 then -cellF ns k else cellF ns k) * 61 + 7 * totF ns + k) (show (0 : Int) < 10 ^ 37 + 43 by decide)
  have h2 : (10 ^ 37 + 43 : Int) < 2 ^ 130 := by decide
  exact ⟨h0, Int.lt_trans h1 h2, Int.le_refl 0, (by decide : (0 : Int) ≤ ((100 : Nat) : Int))⟩
abbrev rPt : List Dt → List Dt → Prop := fun ds pt => ∃ ns k, ds = [.fls (ns.map .int), .int k] ∧ ns.length ≤ 63 ∧ 0 ≤ k ∧ pt = ePot (potF ns k)
abbrev nPt : List Str := ["_law_script", "_law_k", "_law_cell", "_law_total", "_law_other"]
theorem sc_pot : FnScope nPt ["_law_script", "_law_k"] (defScope s_pot) := ⟨rfl, rfl, rfl, by decide, rfl, by decide, by decide⟩
theorem pot_def (B : Bs mg) (F : Fn K mg "_law_pot" s_pot) : DefOk P w K mg base "_law_pot" 1 2 (spF P w K 2 rPt) :=
  defOkF nPt ["_law_script", "_law_k"] F sc_pot rfl (fun _ _ _ _ _ _ us h => by
    match us, h with
    | [_, _], _ => rfl) (by
    rintro fa cdv A outer s' H E hr ds pt hl ⟨ns, k, rfl, h63, h0, rfl⟩
    have hll : ((ns.map Dt.int).length : Int) = ns.length := by rw [List.length_map]
    refine .asg (i := 2) (d := .int (3 + 5 * k)) (ρ1 := [.dat (.fls (ns.map .int)), .dat (.int k), .un, .un, .un]) (.add .int (.mul .int (.var (i := 1) rfl) (.inl (by decide)))) ?_ sc_pot.nd
    refine .whenJ [.dat (.fls (ns.map .int)), .dat (.int k), .dat (.int (cellF ns k)), .un, .un] (k := decide (k < ns.length)) (.is (.cmp (.lt (.var (i := 1) rfl) (.lenF B.len (.var (i := 0) rfl)))) (by rw [hll])) (fun h => ?_) (fun h => ?_) ?_
    · have h := of_decide_eq_true h
      unfold cellF
      rw [if_pos h]
      exact .asg (i := 2) (d := .int (ns.getD k.toNat 0)) (ρ1 := [.dat (.fls (ns.map .int)), .dat (.int k), .dat (.int (3 + 5 * k)), .un, .un]) (.ixF (.var (i := 0) rfl) (.var (i := 1) rfl) (atI_pick .int ns 0 h0 h)) (.nil rfl) sc_pot.nd
    · unfold cellF
      rw [if_neg (of_decide_eq_false h)]
      rfl
    refine .asg (i := 3) (d := .int (totF ns)) (ρ1 := [.dat (.fls (ns.map .int)), .dat (.int k), .dat (.int (cellF ns k)), .un, .un]) (.sum (ns := ns.map fun x => x % (10 ^ 31 + 33)) rfl B.sum (.is (.lcF [("_law_other", 4)] [4] (fun d => match d with | .int x => some (.int (x % (10 ^ 31 + 33))) | _ => none) rfl sc_pot.nd (.fls (.var (i := 0) rfl)) (by rw [List.length_map, sizeLine_eq]; omega) fun d hd => ?_) ?_)) ?_ sc_pot.nd
    · obtain ⟨x, _, rfl⟩ := List.mem_map.mp hd
      exact .map (fun _ _ _ _ _ => .name sc_pot.nd) (Agree.wiped.set (by decide)) rfl fun _ _ _ _ _ => .mod (.toInt B.int (.var (i := 4) rfl)) (.add (.pow .int .int ⟨by decide, by decide +kernel⟩) .int) (by decide)
    · rw [List.filterMap_map, List.map_map]
      exact congrArg Dt.lst (filterMap_some (fun x : Int => Dt.int (x % (10 ^ 31 + 33))) _)
    exact .ret (.cons (.is (.max2 rfl B.max (.cons .int (.one (.sub (.var (i := 2) rfl) (.pow .int .int ⟨by decide, by decide +kernel⟩))))) (congrArg Dt.int (max_is _ _))) (.cons (.mod (.toInt B.int (.add (.add (.mul (.abs B.abs (.var (i := 2) rfl)) .int (.inr (by decide))) (.mul .int (.var (i := 3) rfl) (.inl (by decide)))) (.var (i := 1) rfl))) (.add (.pow .int .int ⟨by decide, by decide +kernel⟩) .int) (by decide)) (.one .int))))
/-! the law -/
def spLaw (K : PySem.W.Frag) : Sp := fun vs H Q _ => ∃ (a : Addr) (ns : List Int), vs = [.ref a] ∧ SqL K H a (ns.map V.int) ∧ ns.length ≤ 63 ∧ ∀ H', Q (.bl true) H'
abbrev nLaw : List Str := ["_law_script", "_law_k"]
theorem sc_law : FnScope nLaw ["_law_script"] (defScope s_law) := ⟨rfl, rfl, rfl, by decide, rfl, by decide, by decide⟩
theorem law_body (B : Bs mg) (DT : DefOk P w K mg base "_law_turn" 13 1 (spT P w K 0 rTu)) (DP : DefOk P w K mg base "_law_pot" 1 2 (spF P w K 2 rPt)) : ∀ fa cdv A outer s' H E, Room 13 (A.deeper (envOfC "law" (defScope s_law) s'.heap.objs.size fa cdv)) → ∀ ns : List Int, ns.length ≤ 63 → SD (cxOf CX0 P w K mg base nLaw "law" (defScope s_law) fa cdv A outer s' H E).nox (defBody s_law) (ρ0 nLaw [.fls (ns.map .int)]) (Fin (.bl true)) := by
  intro fa cdv A outer s' H E hr ns h63
  have hll : ((ns.map Dt.int).length : Int) = ns.length := by rw [List.length_map]
  refine .for rfl (.range B.range (n := max 1 (min 3 ns.length)) (.is (.max2 rfl B.max (.cons .int (.one (.is (.min2 rfl B.min (.cons .int (.one (.lenF B.len (.var (i := 0) rfl))))) (congrArg Dt.int (min_is _ _)))))) (congrArg Dt.int ((max_is _ _).trans (by rw [hll])))) (by omega) (by omega)) (fun i ρ => ∃ e1, ρ = [.dat (.fls (ns.map .int)), e1] ∧ isOwn e1 = false) ⟨.un, rfl, rfl⟩ (fun i d ρ hi' hI => ?_) (fun ρ hI => ?_)
  · obtain ⟨e1, rfl, h1⟩ := hI
    unfold intsTo at hi'
    rw [List.getElem?_map] at hi'
    cases q : (List.range (max 1 (min 3 (ns.length : Int))).toNat)[i]? with
    | none => rw [q] at hi'; cases hi'
    | some j =>
      rw [q] at hi'
      cases hi'
      refine ⟨_, _, .name (i := 1) sc_law.nd, ?_⟩
      exact .skip (.is (.not (.val (k := true) (.turnPot DT DP hr (.cons (.var (i := 0) rfl) (.one (.var (i := 1) rfl))) ⟨ns, (j : Int), rfl, h63, by omega, rfl⟩ (potF_ok ns j)))) (b2 := false) rfl) rfl (.nil ⟨.dat (.int j), rfl, rfl⟩)
  · obtain ⟨e1, rfl, h1⟩ := hI
    exact .ret .bl rfl
end Rw
set_option maxHeartbeats 0
namespace Rw
open PySem PySem.Spec PyProof.Rows L2
/-! what the head's look tells -/
theorem fun_of {K : PySem.W.Frag} {x q : Str} {s : Stmt} {f : Addr} {fd : FuncData} (F : FunD K x q (defArgs s) (defBody s) (defScope s) [] [] f fd) : Fun K x q s f fd := by
  obtain ⟨⟨oc, od, dV, kV, doc, pm, an, cdv, ct, osl, e, l, c, hd, _⟩, kp⟩ := F
  rcases hd with ⟨_, z⟩ | ⟨z, _⟩
  · rw [z] at e
    exact ⟨⟨oc, od, kV, doc, pm, an, cdv, ct, osl, e, l, c⟩, kp⟩
  · exact absurd rfl z
section
variable {P : Program} {w : World} {K : PySem.W.Frag} {h : Heap} {mg : Str → Option Value} {base : Heap}
theorem says_of (c : obsR K = valR) : He.SaysD fa fn K ∧ moreB K = true ∧ apexW K = apexD.val := ⟨congrArg (fun z : AlR => z.1) c, congrArg (fun z : AlR => z.2.1) c, congrArg (fun z : AlR => z.2.2) c⟩
theorem fnAt (X : K.In h) (G : h.Ns mainGlobals mg) (c : He.SaysD fa fn K) (i : Nat) {x : Str} {t : Nat} (h1 : fn[i]? = some (dfn t x)) (h2 : fa[i]? = some (.glo x)) : Fn K mg x (topS t) := by
  obtain ⟨fd, F⟩ := c.def_ i h1
  exact ⟨⟨_, fd, He.glo_ok X G (c.fact i h2), fun_of F⟩⟩
theorem mnAt (c : He.SaysD fa fn K) (i j : Nat) {x q : Str} {t : Nat} (h1 : fn[i]? = some (dme t x q)) (h2 : fa[j]? = some (.meth "Zone" x)) : Mn K x (s_Zone t) := by
  obtain ⟨fd, F⟩ := c.def_ i h1
  exact ⟨⟨_, fd, q, He.meth_ok (c.fact j h2), fun_of F⟩⟩
theorem mkAt (c : He.SaysD fa fn K) (i j : Nat) {q : Str} {t : Nat} (h1 : fn[i]? = some (dme t "__init__" q)) (h2 : fa[j]? = some (.mkr "Zone")) : ∃ f fd q, Mk K (He.ga K "Zone") f ∧ Fun K "__init__" q (s_Zone t) f fd := by
  obtain ⟨fd, F⟩ := c.def_ i h1
  exact ⟨_, fd, q, He.mkr_ok (c.fact j h2), fun_of F⟩
theorem bsAt (X : K.In h) (G : h.Ns mainGlobals mg) (c : He.SaysD fa fn K) : Bs mg := ⟨He.free_ok X G (c.fact 79 rfl), He.free_ok X G (c.fact 80 rfl), He.free_ok X G (c.fact 81 rfl), He.free_ok X G (c.fact 82 rfl), He.free_ok X G (c.fact 83 rfl), He.free_ok X G (c.fact 84 rfl), He.free_ok X G (c.fact 85 rfl), He.free_ok X G (c.fact 86 rfl), He.free_ok X G (c.fact 87 rfl), He.free_ok X G (c.fact 88 rfl), He.free_ok X G (c.fact 89 rfl), He.free_ok X G (c.fact 90 rfl), He.free_ok X G (c.fact 91 rfl), He.free_ok X G (c.fact 92 rfl), He.free_ok X G (c.fact 93 rfl), He.free_ok X G (c.fact 94 rfl)⟩
theorem zcAt (c : He.SaysD fa fn K) : ZC K := ⟨He.cls_ok (c.fact 105 rfl), He.noat_ok (c.fact 107 rfl), He.noat_ok (c.fact 108 rfl), He.noat_ok (c.fact 109 rfl), He.noat_ok (c.fact 110 rfl), He.noat_ok (c.fact 111 rfl), He.noat_ok (c.fact 112 rfl), He.noat_ok (c.fact 113 rfl), He.noat_ok (c.fact 114 rfl)⟩
theorem giAt (X : K.In h) (G : h.Ns mainGlobals mg) (c : He.SaysD fa fn K) (j : Nat) {x : Str} {i : Int} (h2 : fa[j]? = some (.int x i)) : GInt mg x i := ⟨He.int_ok X G (c.fact j h2)⟩
theorem gsAt (X : K.In h) (G : h.Ns mainGlobals mg) (c : He.SaysD fa fn K) (j : Nat) {x z : Str} (h2 : fa[j]? = some (.str x z)) : GStr mg x z := ⟨He.str_ok X G (c.fact j h2)⟩
theorem gtAt (X : K.In h) (G : h.Ns mainGlobals mg) (c : He.SaysD fa fn K) (j : Nat) {x : Str} {vs : List He.Dv} {ss : List Str} (h2 : fa[j]? = some (.glo x)) (t : He.tupB K x vs = true) (e : vs.map (He.Dv.v K) = ss.map V.str) : GTup K mg x ss := ⟨⟨_, He.glo_ok X G (c.fact j h2), fun H => e ▸ He.tupB_ok t H⟩⟩
theorem eqO_is {a b : Option (Option Value)} (h : He.eqO a b = true) : a = b := He.eqO_ok h
theorem funAt {a : Addr} {d : He.DefD} (hd : d.dfl = []) (hk : d.kwd = []) (e : (match K.lookup a with
  | some ⟨_, _, .func fd, _⟩ => (some (fd.name, fd.qualname, fd.params, fd.body, fd.scope, fd.globals, fd.closure, fd.builtins) : He.FnW)
  | _ => none) = d.val) (c : okAt K a d = true) : ∃ fd, FunD K d.name d.qual d.params d.body d.scope [] [] a fd := by
  unfold okAt at c
  obtain ⟨kp, c⟩ := Bool.and_eq_true_iff.mp c
  cases q : K.lookup a with
  | none => rw [q] at c; cases c
  | some o =>
    rw [q] at c e
    obtain ⟨oc, od, dt, osl⟩ := o
    cases dt with
    | func fd =>
      obtain ⟨c1, c2⟩ := Bool.and_eq_true_iff.mp c
      have hdv := He.dflB_ok c2
      cases fd
      have e1 := Option.some.inj e
      injection e1 with e1 e2
      injection e2 with e2 e3
      injection e3 with e3 e4
      injection e4 with e4 e5
      injection e5 with e5 e6
      injection e6 with e6 e7
      injection e7 with e7 e8
      dsimp only at e1 e2 e3 e4 e5 e6 e7 e8 c1 hdv
      subst e1 e2 e3 e4 e5 e6 e7 e8
      exact ⟨_, ⟨oc, od, _, _, _, _, _, _, _, osl, rfl, q, c1, hdv, .inl rfl⟩, kp⟩
    | _ => cases c
abbrev s_apex : Stmt := s_Zone 4
theorem sc_apex : FnScope ["self"] ["self"] (defScope s_apex) := ⟨rfl, rfl, rfl, by decide, rfl, by decide, by decide⟩
theorem propAt (C : ZC K) (hb : propB K = true) (hw : apexW K = apexD.val) : PropOk K P w mg base "apex" "_apex" 1 := by
  unfold propB at hb
  obtain ⟨h1, hb⟩ := Bool.and_eq_true_iff.mp hb
  obtain ⟨h2, hb⟩ := Bool.and_eq_true_iff.mp hb
  obtain ⟨h3, hb⟩ := Bool.and_eq_true_iff.mp hb
  obtain ⟨h4, hb⟩ := Bool.and_eq_true_iff.mp hb
  obtain ⟨fd, FD⟩ := funAt (K := K) (a := apexG K) (d := apexD) rfl rfl hw hb
  have F : Fun K "apex" "Zone.apex" s_apex (apexG K) fd := fun_of FD
  have hr : ∃ rest, PySem.W.recIn K (apexP K) "property" = some (.ref (apexG K) :: rest) := by
    unfold recB at h4
    cases q : PySem.W.recIn K (apexP K) "property" with
    | none => rw [q] at h4; cases h4
    | some l =>
      rw [q] at h4
      cases l with
      | nil => cases h4
      | cons u r =>
        cases u with
        | ref g => exact ⟨r, by rw [of_decide_eq_true h4]⟩
        | _ => cases h4
  refine ⟨⟨apexP K, apexG K, fd, C.cls, ⟨eqO_is h1, eqO_is h2, of_decide_eq_true h3, hr⟩, F.binds fun _ _ _ _ _ _ us hu => by
    match us, hu with
    | [_], _ => rfl, ?_⟩⟩
  obtain ⟨oc, od, kV, doc, pm, an, cdv, ct, osl, rfl, lk, hcd⟩ := F.ex
  exact fn_getter (k := 0) lk hcd sc_apex rfl rfl C.cls C.apex
theorem law_fn {f : Addr} {fd : FuncData} (F : Fun K "law" "law" s_law f fd) (B : Bs mg) (DT : DefOk P w K mg base "_law_turn" 13 1 (spT P w K 0 rTu)) (DP : DefOk P w K mg base "_law_pot" 1 2 (spF P w K 2 rPt)) : FnOk P w K mg base CX0 14 f fd ["_law_script"] (spLaw K) := by
  refine F.ok sc_law (fun vs H Q E h => ?_) fun cdv A outer s' H vs Q E hr h => ?_
  · obtain ⟨a, ns, rfl, _⟩ := h
    rfl
  · obtain ⟨a, ns, rfl, hS, h63, hQ⟩ := h
    have ha : (fun b => if b = a then H a else none : Hp) a = H a := if_pos rfl
    have sb : Sub (fun b => if b = a then H a else none) H := fun b o e => by
      have e : (if b = a then H a else none) = some o := e
      by_cases z : b = a
      · rw [if_pos z, ← z] at e
        exact .inl e
      · rw [if_neg z] at e
        cases e
    have hd : SqL K (fun b => if b = a then H a else none) a (ns.map V.int) := by
      rcases hS with (z | ⟨od, z⟩) | z
      · exact .inl (.inl (ha.trans z))
      · exact .inl (.inr ⟨od, ha.trans z⟩)
      · exact .inr z
    refine ⟨_, pss_c, law_body B DT DP f cdv A outer s' H E hr ns h63 none H _ _ H _ _ (.begin sb (.cons (.fls hd (RepL.of_ints ns)) .nil)) ⟨?_, ?_, ?_, ?_⟩⟩
    · intro σ' Hd' H' ρ' e er q
      cases q
    · exact fun σ' Hd' H' ρ' e er q => False.elim q
    · exact fun σ' Hd' H' ρ' e er q => False.elim q
    · rintro v σ' Hd' H' ρ' d e er rv rfl
      cases rv
      exact hQ H'
end
end Rw
namespace Rw
open PySem PySem.Spec PyProof.Rows L2
theorem all_defs {P : Program} {w : World} {K : PySem.W.Frag} {h : Heap} {mg : Str → Option Value} {base : Heap} (X : K.In h) (G : h.Ns mainGlobals mg) (cc : obsR K = valR) : DefOk P w K mg base "_law_turn" 13 1 (spT P w K 0 rTu) ∧ DefOk P w K mg base "_law_pot" 1 2 (spF P w K 2 rPt) ∧ Bs mg := by
  obtain ⟨c, hm, hw⟩ := says_of cc
  unfold moreB at hm
  obtain ⟨t1, hm⟩ := Bool.and_eq_true_iff.mp hm
  obtain ⟨t2, hp⟩ := Bool.and_eq_true_iff.mp hm
  have B := bsAt X G c
  have C := zcAt c
  have PA := propAt (P := P) (w := w) (mg := mg) (base := base) C hp hw
  have T_KINDS := gtAt (ss := KINDS) X G c 103 rfl t1 rfl
  have T_NAMED := gtAt (ss := NAMED) X G c 104 rfl t2 rfl
  have D_is_label := is_label_ok (P := P) (w := w) (K := K) (mg := mg) (base := base) B (giAt X G c 95 rfl) (gsAt X G c 101 rfl) (fnAt X G c 0 rfl rfl)
  have D_is_name := is_name_ok (P := P) (w := w) (K := K) (mg := mg) (base := base) B D_is_label (fnAt X G c 1 rfl rfl)
  have D_is_asked := is_asked_ok (P := P) (w := w) (K := K) (mg := mg) (base := base) B D_is_name (fnAt X G c 2 rfl rfl)
  have D_name_key := name_key_ok (P := P) (w := w) (K := K) (mg := mg) (base := base) (fnAt X G c 3 rfl rfl)
  have D_stands_under := stands_under_ok (P := P) (w := w) (K := K) (mg := mg) (base := base) B (fnAt X G c 4 rfl rfl)
  have D_size_of := size_of_ok (P := P) (w := w) (K := K) (mg := mg) (base := base) B (fnAt X G c 5 rfl rfl)
  have D_is_kind := is_kind_ok (P := P) (w := w) (K := K) (mg := mg) (base := base) B T_KINDS (fnAt X G c 6 rfl rfl)
  have D_is_below := is_below_ok (P := P) (w := w) (K := K) (mg := mg) (base := base) B (fnAt X G c 7 rfl rfl)
  have D_is_plain_text := is_plain_text_ok (P := P) (w := w) (K := K) (mg := mg) (base := base) B (giAt X G c 98 rfl) (fnAt X G c 8 rfl rfl)
  have D_fits_kind := fits_kind_ok (P := P) (w := w) (K := K) (mg := mg) (base := base) B T_NAMED (giAt X G c 96 rfl) (giAt X G c 97 rfl) D_is_plain_text D_is_asked D_is_below (fnAt X G c 9 rfl rfl)
  have D_is_record := is_record_ok (P := P) (w := w) (K := K) (mg := mg) (base := base) B (giAt X G c 96 rfl) D_is_name D_is_kind D_is_below D_fits_kind (fnAt X G c 10 rfl rfl)
  have D_data_key := data_key_ok (P := P) (w := w) (K := K) (mg := mg) (base := base) T_NAMED D_name_key (fnAt X G c 11 rfl rfl)
  have D_record_key := record_key_ok (P := P) (w := w) (K := K) (mg := mg) (base := base) D_name_key D_data_key (fnAt X G c 12 rfl rfl)
  have D_need_records := need_records_ok (P := P) (w := w) (K := K) (mg := mg) (base := base) D_is_record (fnAt X G c 13 rfl rfl)
  have D_ordered_records := ordered_records_ok (P := P) (w := w) (K := K) (mg := mg) (base := base) B D_record_key (fnAt X G c 14 rfl rfl)
  have D_need_like_ages := need_like_ages_ok (P := P) (w := w) (K := K) (mg := mg) (base := base) B (fnAt X G c 15 rfl rfl)
  have D_checked_records := checked_records_ok (P := P) (w := w) (K := K) (mg := mg) (base := base) D_need_records D_ordered_records D_need_like_ages (fnAt X G c 16 rfl rfl)
  have D_grouped := grouped_ok (P := P) (w := w) (K := K) (mg := mg) (base := base) B (fnAt X G c 17 rfl rfl)
  have D_is_integer := is_integer_ok (P := P) (w := w) (K := K) (mg := mg) (base := base) B (fnAt X G c 18 rfl rfl)
  have D_is_count := is_count_ok (P := P) (w := w) (K := K) (mg := mg) (base := base) D_is_integer (fnAt X G c 19 rfl rfl)
  have D_is_node := is_node_ok (P := P) (w := w) (K := K) (mg := mg) (base := base) B (gsAt X G c 102 rfl) (fnAt X G c 20 rfl rfl)
  have D_is_policy := is_policy_ok (P := P) (w := w) (K := K) (mg := mg) (base := base) B D_is_count (fnAt X G c 21 rfl rfl)
  have D_need_moment := need_moment_ok (P := P) (w := w) (K := K) (mg := mg) (base := base) D_is_count (fnAt X G c 22 rfl rfl)
  have D_need_asked := need_asked_ok (P := P) (w := w) (K := K) (mg := mg) (base := base) D_is_asked (fnAt X G c 23 rfl rfl)
  have D_need_kind := need_kind_ok (P := P) (w := w) (K := K) (mg := mg) (base := base) D_is_kind (fnAt X G c 24 rfl rfl)
  have D_need_policy := need_policy_ok (P := P) (w := w) (K := K) (mg := mg) (base := base) D_is_policy (fnAt X G c 25 rfl rfl)
  have D_span_of := span_of_ok (P := P) (w := w) (K := K) (mg := mg) (base := base) B (fnAt X G c 26 rfl rfl)
  have D_has_moments := has_moments_ok (P := P) (w := w) (K := K) (mg := mg) (base := base) B D_is_count (fnAt X G c 27 rfl rfl)
  have D_need_timeline := need_timeline_ok (P := P) (w := w) (K := K) (mg := mg) (base := base) B D_has_moments D_is_node (fnAt X G c 28 rfl rfl)
  have D_force_index := force_index_ok (P := P) (w := w) (K := K) (mg := mg) (base := base) B (fnAt X G c 29 rfl rfl)
  have D_last_force := last_force_ok (P := P) (w := w) (K := K) (mg := mg) (base := base) B (fnAt X G c 30 rfl rfl)
  have D_got_moments := got_moments_ok (P := P) (w := w) (K := K) (mg := mg) (base := base) B D_force_index D_last_force D_span_of (fnAt X G c 31 rfl rfl)
  have D_told_values := told_values_ok (P := P) (w := w) (K := K) (mg := mg) (base := base) D_got_moments (fnAt X G c 32 rfl rfl)
  have D_may_tell := may_tell_ok (P := P) (w := w) (K := K) (mg := mg) (base := base) B D_need_timeline D_need_policy D_need_moment D_told_values (fnAt X G c 33 rfl rfl)
  have D_is_part := is_part_ok (P := P) (w := w) (K := K) (mg := mg) (base := base) B D_is_node D_is_asked (fnAt X G c 34 rfl rfl)
  have D_is_thread := is_thread_ok (P := P) (w := w) (K := K) (mg := mg) (base := base) B D_has_moments D_is_part (fnAt X G c 35 rfl rfl)
  have D_need_story := need_story_ok (P := P) (w := w) (K := K) (mg := mg) (base := base) B D_is_asked D_is_thread (fnAt X G c 36 rfl rfl)
  have D_need_story_name := need_story_name_ok (P := P) (w := w) (K := K) (mg := mg) (base := base) D_need_asked (fnAt X G c 37 rfl rfl)
  have D_part_key := part_key_ok (P := P) (w := w) (K := K) (mg := mg) (base := base) (fnAt X G c 38 rfl rfl)
  have D_name_behind := name_behind_ok (P := P) (w := w) (K := K) (mg := mg) (base := base) B (fnAt X G c 39 rfl rfl)
  have D_values_for := values_for_ok (P := P) (w := w) (K := K) (mg := mg) (base := base) B D_told_values D_part_key (fnAt X G c 40 rfl rfl)
  have D_told_lists := told_lists_ok (P := P) (w := w) (K := K) (mg := mg) (base := base) B D_values_for D_name_behind (fnAt X G c 41 rfl rfl)
  have D_were_together := were_together_ok (P := P) (w := w) (K := K) (mg := mg) (base := base) D_force_index (fnAt X G c 42 rfl rfl)
  have D_starts := starts_ok (P := P) (w := w) (K := K) (mg := mg) (base := base) B (fnAt X G c 43 rfl rfl)
  have D_torn_lists := torn_lists_ok (P := P) (w := w) (K := K) (mg := mg) (base := base) B D_starts D_told_lists D_were_together (fnAt X G c 44 rfl rfl)
  have D_may_tell_whole := may_tell_whole_ok (P := P) (w := w) (K := K) (mg := mg) (base := base) D_need_story D_need_policy D_need_story_name D_need_moment D_told_lists (fnAt X G c 45 rfl rfl)
  have D_torn := torn_ok (P := P) (w := w) (K := K) (mg := mg) (base := base) D_need_story D_need_policy D_need_story_name D_need_moment D_torn_lists (fnAt X G c 46 rfl rfl)
  have D_first_torn := first_torn_ok (P := P) (w := w) (K := K) (mg := mg) (base := base) B D_need_story D_need_policy D_need_story_name D_starts D_torn_lists (fnAt X G c 47 rfl rfl)
  have M_kept_set := kept_set_ok (P := P) (w := w) (K := K) (mg := mg) (base := base) C (mnAt c 80 116 rfl rfl)
  have M_kept_nearest := kept_nearest_ok (P := P) (w := w) (K := K) (mg := mg) (base := base) C (mnAt c 81 117 rfl rfl)
  have M_handed_on := handed_on_ok (P := P) (w := w) (K := K) (mg := mg) (base := base) B C (mnAt c 82 118 rfl rfl)
  have D_need_inside := need_inside_ok (P := P) (w := w) (K := K) (mg := mg) (base := base) PA D_need_asked D_stands_under (fnAt X G c 48 rfl rfl)
  have D_found_source := found_source_ok (P := P) (w := w) (K := K) (mg := mg) (base := base) M_handed_on M_kept_nearest (fnAt X G c 49 rfl rfl)
  have D_source_answer := source_answer_ok (P := P) (w := w) (K := K) (mg := mg) (base := base) M_kept_set (fnAt X G c 50 rfl rfl)
  have D_found_answer := found_answer_ok (P := P) (w := w) (K := K) (mg := mg) (base := base) D_source_answer D_found_source (fnAt X G c 51 rfl rfl)
  have D_next_name := next_name_ok (P := P) (w := w) (K := K) (mg := mg) (base := base) (fnAt X G c 52 rfl rfl)
  have D_stop_word := stop_word_ok (P := P) (w := w) (K := K) (mg := mg) (base := base) B (giAt X G c 99 rfl) (giAt X G c 100 rfl) PA D_stands_under D_size_of (fnAt X G c 53 rfl rfl)
  have D_walked := walked_ok (P := P) (w := w) (K := K) (mg := mg) (base := base) D_need_inside D_need_kind D_found_answer D_next_name D_stop_word (fnAt X G c 54 rfl rfl)
  have D_chase := chase_ok (P := P) (w := w) (K := K) (mg := mg) (base := base) D_walked (fnAt X G c 55 rfl rfl)
  have D_chase_end := chase_end_ok (P := P) (w := w) (K := K) (mg := mg) (base := base) D_walked (fnAt X G c 56 rfl rfl)
  have D_kinds_by_name := kinds_by_name_ok (P := P) (w := w) (K := K) (mg := mg) (base := base) D_ordered_records (fnAt X G c 57 rfl rfl)
  have D_ones_above := ones_above_ok (P := P) (w := w) (K := K) (mg := mg) (base := base) B (fnAt X G c 58 rfl rfl)
  have D_faults_at := faults_at_ok (P := P) (w := w) (K := K) (mg := mg) (base := base) B (fnAt X G c 59 rfl rfl)
  have D_found_faults := found_faults_ok (P := P) (w := w) (K := K) (mg := mg) (base := base) B D_kinds_by_name D_name_key D_faults_at D_ones_above (fnAt X G c 60 rfl rfl)
  have KO := keep_name_ok (P := P) (w := w) (K := K) (mg := mg) (base := base) B C (mnAt c 79 115 rfl rfl)
  have IN := init_ok' (P := P) (w := w) (K := K) (mg := mg) (base := base) B C KO D_need_asked D_checked_records D_stands_under D_found_faults D_grouped D_ones_above (He.glo_ok X G (c.fact 78 rfl)) (mkAt c 78 106 rfl rfl)
  have D__law_draw := draw_def (P := P) (w := w) (K := K) (mg := mg) (base := base) B (fnAt X G c 62 rfl rfl)
  have D__law_label := label_def (P := P) (w := w) (K := K) (mg := mg) (base := base) B D__law_draw (fnAt X G c 63 rfl rfl)
  have D__law_policy := policy_def (P := P) (w := w) (K := K) (mg := mg) (base := base) B D__law_draw (fnAt X G c 64 rfl rfl)
  have D__law_names := names_def (P := P) (w := w) (K := K) (mg := mg) (base := base) B D__law_draw D__law_label (fnAt X G c 65 rfl rfl)
  have D__law_story := story_def (P := P) (w := w) (K := K) (mg := mg) (base := base) B D__law_draw (fnAt X G c 66 rfl rfl)
  have D__law_force := force_def (P := P) (w := w) (K := K) (mg := mg) (base := base) (fnAt X G c 67 rfl rfl)
  have D__law_starts := lstarts_def (P := P) (w := w) (K := K) (mg := mg) (base := base) B (fnAt X G c 68 rfl rfl)
  have D__law_zone := lzone_def (P := P) (w := w) (K := K) (mg := mg) (base := base) IN D__law_force (fnAt X G c 69 rfl rfl)
  have D__law_walk := lwalk_def (P := P) (w := w) (K := K) (mg := mg) (base := base) B D_chase (fnAt X G c 70 rfl rfl)
  have D__law_told_ends := ends_def (P := P) (w := w) (K := K) (mg := mg) (base := base) B D_chase_end (fnAt X G c 71 rfl rfl)
  have D__law_parts := parts_def (P := P) (w := w) (K := K) (mg := mg) (base := base) B D_may_tell (fnAt X G c 72 rfl rfl)
  have D__law_at := at_def (P := P) (w := w) (K := K) (mg := mg) (base := base) B D_may_tell_whole D_torn D__law_walk D__law_told_ends D__law_parts (fnAt X G c 73 rfl rfl)
  have D__law_fresh := fresh_def (P := P) (w := w) (K := K) (mg := mg) (base := base) B D__law_starts D_may_tell_whole D__law_zone D__law_walk D_first_torn (fnAt X G c 74 rfl rfl)
  have D__law_longer := longer_def (P := P) (w := w) (K := K) (mg := mg) (base := base) B D_may_tell_whole D_first_torn (fnAt X G c 75 rfl rfl)
  have TD : TurnDs P w K mg base := ⟨D__law_draw, D__law_names, D__law_policy, D__law_story, D__law_starts, D__law_zone, D__law_at, D_first_torn, D_torn, D__law_fresh, D__law_longer⟩
  have D__law_turn := turn_def (P := P) (w := w) (K := K) (mg := mg) (base := base) B TD (fnAt X G c 76 rfl rfl)
  have D__law_pot := pot_def (P := P) (w := w) (K := K) (mg := mg) (base := base) B (fnAt X G c 61 rfl rfl)
  exact ⟨D__law_turn, D__law_pot, B⟩
theorem law_facts {P : Program} {w : World} {K : PySem.W.Frag} {h : Heap} {mg : Str → Option Value} {f : Addr} (X : K.In h) (G : h.Ns mainGlobals mg) (hf : mg ("law" : Str) = some (.ref f)) (cc : obsR K = valR) :
    ∃ fd : FuncData, (∀ (s : Shared) (v : Value), BindsTo s fd ⟨[v], []⟩ [("_law_script", v)]) ∧ ∀ base : Heap, K.In base → base.Ns mainGlobals mg → FnOk P w K mg base CX0 14 f fd ["_law_script"] (spLaw K) := by
  have c := (says_of cc).1
  obtain ⟨fd, F⟩ := c.def_ 77 (d := dfn 118 "law") rfl
  have e := hf.symm.trans (He.glo_ok X G (c.fact 77 (f := .glo "law") rfl))
  cases e
  have b := FunD.bindsA (ps := ["_law_script"]) F fun _ _ _ _ _ _ us hl => match us, hl with | [_], _ => rfl
  exact ⟨fd, fun s v => b s [v] rfl, fun base Xb Gb => by
    obtain ⟨DT, DP, B⟩ := all_defs (P := P) (w := w) (base := base) X G cc
    exact law_fn (fun_of F) B DT DP⟩
end Rw
namespace Rw
open PySem PySem.Spec PyProof.Rows L2
theorem map3 {α β γ δ : Type} {o : Option α} {f : α → β} {g : α → γ} {h : α → δ} {b : β} {c : γ} {d : δ} (h1 : o.map f = some b) (h2 : o.map g = some c) (h3 : o.map h = some d) : o.map (fun s => (f s, g s, h s)) = some (b, c, d) := by
  cases o with
  | none => cases h1
  | some s =>
    have e1 : f s = b := Option.some.inj h1
    have e2 : g s = c := Option.some.inj h2
    have e3 : h s = d := Option.some.inj h3
    show some (f s, g s, h s) = _
    rw [e1, e2, e3]
theorem runs (w : World) : HandSHeadRun.RunEq R qv hk ob 7000 loose w := fun os => map3 (run1 w os) (run2 w os) (run3 w os)
end Rw
open PySem PySem.W PySem.Calls PyProof.Rows
theorem PySem.Challenge.cw_rootward_k89_whole_torn_chains_and_zones_holds : PySem.Challenge.rw_rootward_k89_whole_torn_chains_and_zones.Holds := by
  w_on; o_law
  refine HandSHeadRun.head_any (r := Rw.R) (q := Rw.qv) (H := Rw.hk) (ob := Rw.ob) (M := 7000) (loose := Rw.loose) (d := HandSHeadRun.topDef Rw.R.prog 118) (kwd := []) Rw.ob_eq ?e ?f Rw.runs ?d1 ?d2 ?d3 ?d4 ?d5 ?d6 ⟨rfl, rfl, rfl, rfl, rfl, ?d7⟩ ?hw ?hc
  case e => kernel_rfl
  case f => intro s; kernel_rfl
  case d1 => kernel_rfl
  case d2 => kernel_rfl
  case d3 => kernel_rfl
  case d4 => rfl
  case d5 => first | assumption | decide +kernel
  case d6 => decide +kernel
  case d7 => decide +kernel
  case hw => w_witness2
  case hc =>
    refine L2.walk_ofE (l := PySem.Challenge.rw_rootward_k89_whole_torn_chains_and_zones) (n := 63) (k := 14) (x := "_law_script") (CX := L2.CX0) rfl (by decide) (by kernel_rfl) ⟨rfl, by decide, by decide⟩ ?F (fun _ _ _ _ z => z)
    intro w mg f h Y G hf
    obtain ⟨K, KX, cc⟩ := Y
    have hn : (HandSHeadRun.topDef Rw.R.prog 118).name = ("law" : PySem.Str) := by kernel_rfl
    have hl : mg ("law" : PySem.Str) = some (.ref f) := by
      rw [← hn]
      exact hf
    obtain ⟨fd, hb, hF⟩ := Rw.law_facts (P := (PySem.Challenge.rw_rootward_k89_whole_torn_chains_and_zones).prog) (w := w) KX G hl cc
    exact ⟨K, fd, Rw.spLaw K, KX, hb, fun H a ns h63 _ hS => ⟨a, ns, rfl, hS, h63, fun _ => rfl⟩, hF⟩
