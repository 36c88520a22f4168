import PyProof.Rows.All
import Wide.All
import OpenK.AllK
import Wide.FinOn
import HandS.ForMost
import HandS.ForExc
import KE.KStateDown
import Lean
import HandS.Defaults
import HandS.Head0
import HandS.Head1
import HandS.Head2
import HandS.HeadEnd
import HandS.HeadHook1
import HandS.HeadHook2
import PySem.Challenge.RW_nearercamps_k54_whole_what_tells_two_pie
import KE.KeyNested
import KE.KDictKeyed
import HandS.IsInst
import HandS.Zip
import HandS.TupAny
import HandS.TupMul
import HandS.Wide
import HandS.Iter
import KE.GoesEnum
import HandS.Deep
import HandS.TupSets
import HandS.Set
import HandS.SetFor
import HandS.Strs
import KE.SortData
import HandS.Flow
import HandS.Conv
import HandS.Style
import KE.KDictSum
import KE.KDictCopyH
import HandS.TupLen
import HandS.DictComp
import HandS.ExcOwn
import HandS.WordsExc
import PyProof.ExcClass2
import HandS.ExcIs
set_option Elab.async false
set_option linter.all false
set_option autoImplicit false
set_option maxRecDepth 100000
set_option maxHeartbeats 0
/-! K54: the head's run, ahead of all else -/
namespace K54H
open PySem PySem.Spec PyProof.Rows L2
def top (i : Nat) : Stmt := PySem.Challenge.pw_nearercamps_k54_whole_what_tells_two_pie.main.body.getD i (.Pass ⟨0, 0, 0, 0⟩)
def dD (x : Str) (i : Nat) : He.DefD := ⟨(x, none), x, x, defArgs (top i), defBody (top i), defScope (top i), [], []⟩
def fn1 : List He.DefD := [dD "is_number" 3, dD "tuple_of" 4, dD "is_tuple_of" 5, dD "is_lot" 7, dD "is_looks" 8, dD "all_lots" 9, dD "_is_within" 10, dD "joined" 11, dD "lookers_within" 12, dD "stand_still" 13, dD "behind_looks" 14, dD "_apart" 16, dD "all_camps" 17, dD "in_order" 18, dD "_within" 19, dD "are_within" 20, dD "greatest_camps" 21, dD "led" 22, dD "count_in" 24, dD "piece_looks" 25, dD "table_of_looks" 26, dD "piece_table" 27, dD "pieces_alike" 28, dD "keeps_round" 29, dD "telling_looks" 30, dD "first_unlike" 31, dD "surrounding" 32, dD "is_surrounding" 33, dD "_law_box" 35, dD "_law_take" 36, dD "_law_cells" 37]
def fn2 : List He.DefD := [dD "_law_of" 38, dD "_law_same" 39, dD "_law_lists" 40, dD "_law_lot" 41, dD "_law_looks" 42, dD "_law_within" 43, dD "_law_lots_of" 44, dD "_law_camps_of" 45, dD "_law_is_whole" 46, dD "_law_is_row" 47, dD "_law_bent" 48, dD "_law_piece" 49, dD "_law_behind" 50, dD "_law_still" 51, dD "_law_row_looks" 52, dD "_law_led" 53, dD "_law_in" 54, dD "_law_are_in" 55, dD "_law_great" 56, dD "_law_table" 57, dD "_law_keeps" 58, dD "_law_free" 59, dD "_law_few" 60, dD "_law_told" 61, dD "_law_are_looks" 62, dD "_law_tells" 63, dD "_law_case_right" 64, dD "_law_by_hand_right" 65, dD "_law_right" 66, dD "law" 67]
def fn : List He.DefD := fn1 ++ fn2
def fa1 : List He.Fa := [.glo "is_number", .glo "tuple_of", .glo "is_tuple_of", .glo "is_lot", .glo "is_looks", .glo "all_lots", .glo "_is_within", .glo "joined", .glo "lookers_within", .glo "stand_still", .glo "behind_looks", .glo "_apart", .glo "all_camps", .glo "in_order", .glo "_within", .glo "are_within", .glo "greatest_camps", .glo "led", .glo "count_in", .glo "piece_looks", .glo "table_of_looks", .glo "piece_table", .glo "pieces_alike", .glo "keeps_round", .glo "telling_looks", .glo "first_unlike", .glo "surrounding", .glo "is_surrounding", .glo "_law_box", .glo "_law_take", .glo "_law_cells"]
def fa2 : List He.Fa := [.glo "_law_of", .glo "_law_same", .glo "_law_lists", .glo "_law_lot", .glo "_law_looks", .glo "_law_within", .glo "_law_lots_of", .glo "_law_camps_of", .glo "_law_is_whole", .glo "_law_is_row", .glo "_law_bent", .glo "_law_piece", .glo "_law_behind", .glo "_law_still", .glo "_law_row_looks", .glo "_law_led", .glo "_law_in", .glo "_law_are_in", .glo "_law_great", .glo "_law_table", .glo "_law_keeps", .glo "_law_free", .glo "_law_few", .glo "_law_told", .glo "_law_are_looks", .glo "_law_tells", .glo "_law_case_right", .glo "_law_by_hand_right", .glo "_law_right", .glo "law"]
def fa3 : List He.Fa := [.free "len", .free "range", .free "tuple", .free "list", .free "set", .free "sorted", .free "isinstance", .free "all", .free "any", .free "enumerate", .free "zip", .free "int", .free "bool", .free "str", .free "abs", .free "ValueError"]
def fa4 : List He.Fa := [.glo "CanNot", .exc "CanNot", .exm "CanNot" "CanNot" true]
def fa : List He.Fa := fa1 ++ fa2 ++ fa3 ++ fa4
/-- what the error's class must say besides -/
def errT (K : PySem.W.Frag) : Bool :=
  He.eqO (PySem.W.findIn K (.ref (He.ga K "CanNot")) "__getattribute__") (some (some (.builtin "BaseException.__getattribute__"))) &&
  (He.eqO (PySem.W.findIn K (.ref (He.ga K "CanNot")) "__getattr__") (some none) &&
  (PySem.W.hasDictIn K (He.ga K "CanNot") &&
  (He.eqO (PySem.W.findIn K (.ref (He.ga K "CanNot")) "__class__") (some (some (.builtin "object.__class__"))) &&
  (He.eqO (PySem.W.specialIn K (.builtin "object.__class__") "__get__") (some (some (.builtin "getset_descriptor.__get__"))) &&
  (decide (PySem.W.takesIn K (.builtin "object.__class__") = some true) &&
  (decide (PySem.W.mroIn K (He.ga K "CanNot") (.type "object") = some true) &&
  decide (PySem.W.kitOne K (.ref (He.ga K "CanNot")) (.type "ValueError") = some true)))))))
def obG (g : Addr → Option Obj) : Bool × He.AlD := (errT (He.frG g (He.asD g 4)), He.obsD fa fn (He.frG g (He.asD g 4)))
def hk : PySem.W.Hook where
  α := Bool × He.AlD
  obs := fun s => obG s.heap.get?
  val := fun _ => (true, He.valD fn)
  says := fun _ h => ∃ K : PySem.W.Frag, K.In h ∧ errT K = true ∧ He.SaysD fa fn K
  of := fun _ _ e => ⟨_, He.frG_in, congrArg (fun z : Bool × He.AlD => z.1) e, congrArg (fun z : Bool × He.AlD => z.2) e⟩
  keeps := fun _ _ _ ⟨K, hK, c⟩ k => ⟨K, PySem.W.Frag.In.keeps hK k, c⟩
abbrev R : PySem.W.OpenRow := PySem.W.OpenLaw.row PySem.Challenge.rw_nearercamps_k54_whole_what_tells_two_pie
def ob (s : PySem.W.SharedT) : Bool × He.AlD := obG (HandSHeadRun.getT s)
theorem ob_eq (s : PySem.W.SharedT) : ob s = hk.obs s.abs := by
  have e : HandSHeadRun.getT s = s.abs.heap.get? := funext fun a => HandSHeadRun.getT_eq s a
  show obG (HandSHeadRun.getT s) = obG s.abs.heap.get?
  rw [e]
def nms0 : List PySem.Str := ["CanNot", "is_number", "tuple_of", "is_tuple_of", "is_lot", "is_looks", "all_lots", "_is_within", "joined", "lookers_within", "stand_still", "behind_looks", "_apart", "all_camps", "in_order", "_within", "are_within", "greatest_camps", "led", "count_in"]
def nms1 : List PySem.Str := ["piece_looks", "table_of_looks", "piece_table", "pieces_alike", "keeps_round", "telling_looks", "first_unlike", "surrounding", "is_surrounding", "_law_box", "_law_take", "_law_cells", "_law_of", "_law_same", "_law_lists", "_law_lot", "_law_looks", "_law_within", "_law_lots_of", "_law_camps_of"]
def nms2 : List PySem.Str := ["_law_is_whole", "_law_is_row", "_law_bent", "_law_piece", "_law_behind", "_law_still", "_law_row_looks", "_law_led", "_law_in", "_law_are_in", "_law_great", "_law_table", "_law_keeps", "_law_free", "_law_few", "_law_told", "_law_are_looks", "_law_tells", "_law_case_right", "_law_by_hand_right"]
def nms3 : List PySem.Str := ["_law_right"]
def nms : List PySem.Str := nms0 ++ nms1 ++ nms2 ++ nms3
theorem run (w : World) : HandSHeadRun.RunEq R (PySem.W.view R.prog [67]) hk ob 4000 nms w := by
  intro os
  kernel_rfl
end K54H
set_option Elab.async false
set_option linter.all false
set_option autoImplicit false
set_option maxRecDepth 100000
set_option maxHeartbeats 1000000
/-! K54, the data layer, 1: tuple data on the abstract heap; what the slots of a def hold -/
namespace K54
open PySem PySem.Spec PyProof.Rows L2

/-! ### heaps: the tuples stay -/
def TupEx (H H' : Hp) : Prop := ∀ a xs, Rd H a (.tup xs) → Rd H' a (.tup xs)
theorem TupEx.refl (H : Hp) : TupEx H H := fun _ _ h => h
theorem TupEx.trans {H H1 H2 : Hp} (a : TupEx H H1) (b : TupEx H1 H2) : TupEx H H2 := fun p xs h => b p xs (a p xs h)
theorem rdSame {H H' : Hp} (e : Same H H') {a : Addr} {u : HO} (h : Rd H a u) : Rd H' a u := by
  rcases h with h | ⟨o, h⟩
  · exact .inl (e _ _ h)
  · exact .inr ⟨o, e _ _ h⟩
theorem TupEx.of {H H' : Hp} (e : Same H H') : TupEx H H' := fun _ _ h => rdSame e h
theorem TupEx.sqT {K : PySem.W.Frag} {H H' : Hp} (e : TupEx H H') {a : Addr} {xs : List V} (h : SqT K H a xs) : SqT K H' a xs := by
  rcases h with h | h
  · exact .inl (e _ _ h)
  · exact .inr h
theorem sqTSame {K : PySem.W.Frag} {H H' : Hp} (e : Same H H') {a : Addr} {xs : List V} (h : SqT K H a xs) : SqT K H' a xs := (TupEx.of e).sqT h
/-- an object that is no tuple is written -/
theorem TupEx.write {H : Hp} {a : Addr} {o : HO} (h : ∀ xs, ¬ Rd H a (.tup xs)) : TupEx H (upd H a o) := fun b xs q => by
  by_cases e : b = a
  · subst e
    exact absurd q (h xs)
  · rcases q with q | ⟨u, q⟩
    · exact .inl (by rw [upd_ne e]; exact q)
    · exact .inr ⟨u, by rw [upd_ne e]; exact q⟩
theorem sameNew {H : Hp} {p : Addr} {o : HO} (h : H p = none) : Same H (upd H p o) := fun b x e => by
  rw [upd_ne (ne_of_none e h)]
  exact e
theorem lstNoTup {H : Hp} {a : Addr} {vs : List V} (h : H a = some (.lst vs)) : ∀ xs, ¬ Rd H a (.tup xs) := fun xs q => by
  rcases q with q | ⟨u, q⟩
  · rw [h] at q; cases q
  · rw [h] at q; cases q
theorem extNoTup {H : Hp} {a : Addr} {f : Heap → Prop} (h : H a = some (.ext f)) : ∀ xs, ¬ Rd H a (.tup xs) := fun xs q => by
  rcases q with q | ⟨u, q⟩
  · rw [h] at q; cases q
  · rw [h] at q; cases q

/-! ### a value reads as tuple data -/
mutual
inductive TD (K : PySem.W.Frag) (H : Hp) : V → PyData → Prop
  | non : TD K H .non .none
  | bl (b : Bool) : TD K H (.bl b) (.bool b)
  | int (i : Int) : TD K H (.int i) (.int i)
  | str (x : Str) : TD K H (.str x) (.str x)
  | tup {a : Addr} {xs : List V} {ds : List PyData} : SqT K H a xs → TDs K H xs ds → TD K H (.ref a) (.tuple ds)
inductive TDs (K : PySem.W.Frag) (H : Hp) : List V → List PyData → Prop
  | nil : TDs K H [] []
  | cons {v : V} {vs : List V} {d : PyData} {ds : List PyData} : TD K H v d → TDs K H vs ds → TDs K H (v :: vs) (d :: ds)
end
section
variable {K : PySem.W.Frag} {H H' : Hp}
mutual
theorem TD.mono (e : TupEx H H') : ∀ (d : PyData) (v : V), TD K H v d → TD K H' v d
  | .none, _, h => by cases h; exact .non
  | .bool _, _, h => by cases h; exact .bl _
  | .int _, _, h => by cases h; exact .int _
  | .str _, _, h => by cases h; exact .str _
  | .list _, _, h => by cases h
  | .tuple ds, _, h => by
    cases h with
    | tup h1 h2 => exact .tup (e.sqT h1) (TDs.mono e ds _ h2)
  | .dict _, _, h => by cases h
theorem TDs.mono (e : TupEx H H') : ∀ (ds : List PyData) (vs : List V), TDs K H vs ds → TDs K H' vs ds
  | [], _, h => by cases h; exact .nil
  | d :: ds, _, h => by
    cases h with
    | cons h1 h2 => exact .cons (TD.mono e d _ h1) (TDs.mono e ds _ h2)
end
theorem TD.at (e : TupEx H H') {v : V} {d : PyData} (h : TD K H v d) : TD K H' v d := TD.mono e d v h
theorem TDs.at (e : TupEx H H') {vs : List V} {ds : List PyData} (h : TDs K H vs ds) : TDs K H' vs ds := TDs.mono e ds vs h
theorem TD.ex (e : Same H H') {v : V} {d : PyData} (h : TD K H v d) : TD K H' v d := TD.mono (.of e) d v h
theorem TDs.ex (e : Same H H') {vs : List V} {ds : List PyData} (h : TDs K H vs ds) : TDs K H' vs ds := TDs.mono (.of e) ds vs h
theorem TDs.length : ∀ {vs : List V} {ds : List PyData}, TDs K H vs ds → vs.length = ds.length
  | _, [], h => by cases h; rfl
  | _, _ :: ds, h => by
    cases h with
    | cons _ h2 => rw [List.length_cons, List.length_cons, TDs.length h2]
theorem TDs.get : ∀ {vs : List V} {ds : List PyData} {i : Nat} {d : PyData}, TDs K H vs ds → ds[i]? = some d → ∃ v, vs[i]? = some v ∧ TD K H v d
  | _, [], _, _, _, e => by simp at e
  | _, _ :: _, 0, _, h, e => by
    cases h with
    | cons h1 _ => simp at e; subst e; exact ⟨_, rfl, h1⟩
  | _, _ :: ds, i + 1, _, h, e => by
    cases h with
    | cons _ h2 =>
      obtain ⟨v, q, r⟩ := TDs.get (i := i) h2 (by simpa using e)
      exact ⟨v, by simpa using q, r⟩
theorem TDs.got : ∀ {vs : List V} {ds : List PyData} {i : Nat} {v : V}, TDs K H vs ds → vs[i]? = some v → ∃ d, ds[i]? = some d ∧ TD K H v d
  | _, [], _, _, h, e => by cases h; simp at e
  | _, _ :: _, 0, _, h, e => by
    cases h with
    | cons h1 _ => simp at e; subst e; exact ⟨_, rfl, h1⟩
  | _, _ :: ds, i + 1, _, h, e => by
    cases h with
    | cons _ h2 =>
      obtain ⟨v, q, r⟩ := TDs.got (i := i) h2 (by simpa using e)
      exact ⟨v, by simpa using q, r⟩
theorem TDs.append : ∀ {vs ws : List V} {ds es : List PyData}, TDs K H vs ds → TDs K H ws es → TDs K H (vs ++ ws) (ds ++ es)
  | _, _, [], _, h, k => by cases h; exact k
  | _, _, _ :: _, _, h, k => by
    cases h with
    | cons h1 h2 => exact .cons h1 (TDs.append h2 k)
theorem TDs.drop : ∀ (n : Nat) {vs : List V} {ds : List PyData}, TDs K H vs ds → TDs K H (vs.drop n) (ds.drop n)
  | 0, _, _, h => h
  | _ + 1, _, [], h => by cases h; exact .nil
  | n + 1, _, _ :: _, h => by
    cases h with
    | cons _ h2 => exact TDs.drop n h2
theorem TDs.take : ∀ (n : Nat) {vs : List V} {ds : List PyData}, TDs K H vs ds → TDs K H (vs.take n) (ds.take n)
  | 0, _, _, _ => .nil
  | _ + 1, _, [], h => by cases h; exact .nil
  | n + 1, _, _ :: _, h => by
    cases h with
    | cons h1 h2 => exact .cons h1 (TDs.take n h2)
theorem TDs.set : ∀ (n : Nat) {vs : List V} {ds : List PyData} {v : V} {d : PyData}, TDs K H vs ds → TD K H v d → TDs K H (vs.set n v) (ds.set n d)
  | _, _, [], _, _, h, _ => by cases h; exact .nil
  | 0, _, _ :: _, _, _, h, k => by
    cases h with
    | cons _ h2 => exact .cons k h2
  | n + 1, _, _ :: _, _, _, h, k => by
    cases h with
    | cons h1 h2 => exact .cons h1 (TDs.set n h2 k)
/-- ints -/
theorem TDs.ints : ∀ {vs : List V} {is : List Int}, TDs K H vs (is.map .int) → vs = is.map V.int
  | _, [], h => by
    have h' : TDs K H _ [] := h
    cases h'; rfl
  | _, i :: is, h => by
    have h' : TDs K H _ (.int i :: is.map .int) := h
    cases h' with
    | cons h1 h2 =>
      cases h1
      rw [TDs.ints h2]; rfl
theorem TDs.ofInts : ∀ (is : List Int), TDs K H (is.map V.int) (is.map .int)
  | [] => .nil
  | i :: is => .cons (.int i) (TDs.ofInts is)
theorem TDs.bools : ∀ {vs : List V} {bs : List Bool}, TDs K H vs (bs.map .bool) → vs = bs.map V.bl
  | _, [], h => by
    have h' : TDs K H _ [] := h
    cases h'; rfl
  | _, b :: bs, h => by
    have h' : TDs K H _ (.bool b :: bs.map .bool) := h
    cases h' with
    | cons h1 h2 =>
      cases h1
      rw [TDs.bools h2]; rfl
theorem TDs.ofBools : ∀ (bs : List Bool), TDs K H (bs.map V.bl) (bs.map .bool)
  | [] => .nil
  | b :: bs => .cons (.bl b) (TDs.ofBools bs)
mutual
/-- tuple data is data -/
theorem TD.dp : ∀ (d : PyData) (v : V), TD K H v d → Dp K H v d
  | .none, _, h => by cases h; exact .non
  | .bool _, _, h => by cases h; exact .bl _
  | .int _, _, h => by cases h; exact .int _
  | .str _, _, h => by cases h; exact .str _
  | .list _, _, h => by cases h
  | .tuple ds, _, h => by
    cases h with
    | tup h1 h2 => exact .tup h1 (TDs.dps ds _ h2)
  | .dict _, _, h => by cases h
theorem TDs.dps : ∀ (ds : List PyData) (vs : List V), TDs K H vs ds → DpAll K H vs ds
  | [], _, h => by cases h; exact .nil
  | d :: ds, _, h => by
    cases h with
    | cons h1 h2 => exact .cons (TD.dp d _ h1) (TDs.dps ds _ h2)
end
theorem sqLSame (e : Same H H') {a : Addr} {xs : List V} (h : SqL K H a xs) : SqL K H' a xs := by
  rcases h with h | h
  · exact .inl (rdSame e h)
  · exact .inr h
mutual
theorem dpMono (e : Same H H') : ∀ (d : PyData) (v : V), Dp K H v d → Dp K H' v d
  | .none, _, h => by cases h; exact .non
  | .bool _, _, h => by cases h; exact .bl _
  | .int _, _, h => by cases h; exact .int _
  | .str _, _, h => by cases h; exact .str _
  | .list ds, _, h => by
    cases h with
    | lst h1 h2 => exact .lst (sqLSame e h1) (dpsMono e ds _ h2)
  | .tuple ds, _, h => by
    cases h with
    | tup h1 h2 => exact .tup (sqTSame e h1) (dpsMono e ds _ h2)
  | .dict _, _, h => by cases h
theorem dpsMono (e : Same H H') : ∀ (ds : List PyData) (vs : List V), DpAll K H vs ds → DpAll K H' vs ds
  | [], _, h => by cases h; exact .nil
  | d :: ds, _, h => by
    cases h with
    | cons h1 h2 => exact .cons (dpMono e d _ h1) (dpsMono e ds _ h2)
end
theorem dpEx (e : Same H H') {d : PyData} {v : V} (h : Dp K H v d) : Dp K H' v d := dpMono e d v h
theorem dpsEx (e : Same H H') {ds : List PyData} {vs : List V} (h : DpAll K H vs ds) : DpAll K H' vs ds := dpsMono e ds vs h
end

/-! ### dicts whose keys are nested tuples, each told True -/
def NDO (P : Program) (w : World) (a : Addr) (rows : List (NestedKey × Addr)) : HO := .ext fun h => (a == sysModules) = false ∧ ∃ o es ep, h.get? a = some o ∧ o.ExactDict ∧ o.data = .dict es ep ∧ es.toList = rows.map fun r => entryOfKey (nestedKind P w) (r.1, r.2, Value.bool true)

/-! ### what a def owns -/
inductive Own where
  | lst (ds : List PyData)
  | dct (ks : List NestedKey)
  | urn (u : Addr) (c : Nat)
def OwnOk (P : Program) (w : World) (K : PySem.W.Frag) (H : Hp) (a : Addr) : Own → Prop
  | .lst ds => ∃ vs, H a = some (.lst vs) ∧ TDs K H vs ds
  | .dct ks => ∃ rows, H a = some (NDO P w a rows) ∧ rows.map (·.1) = ks ∧ ks.Nodup ∧ ∀ r ∈ rows, TD K H (.ref r.2) r.1.data ∧ r.1.depth ≤ 8
  | .urn u c => (∃ x y z : Int, H a = some (.lst [.int x, .int y, .int z]) ∧ 0 ≤ z ∧ z ≤ c) ∧ a = u
inductive Cell where
  | un
  | dat (d : PyData)
  | gd (d : PyData)
  | rdl (ds : List PyData)
  | own (o : Own)
section
variable {P : Program} {w : World} {K : PySem.W.Frag} {H H' H0 Hb : Hp}
theorem OwnOk.some {a : Addr} {o : Own} (h : OwnOk P w K H a o) : ∃ u, H a = some u := by
  cases o with
  | lst ds => obtain ⟨_, h, _⟩ := h; exact ⟨_, h⟩
  | dct ks => obtain ⟨_, h, _⟩ := h; exact ⟨_, h⟩
  | urn u c => obtain ⟨⟨_, _, _, h, _⟩, _⟩ := h; exact ⟨_, h⟩
theorem OwnOk.noTup {a : Addr} {o : Own} (h : OwnOk P w K H a o) : ∀ xs, ¬ Rd H a (.tup xs) := by
  cases o with
  | lst ds => obtain ⟨_, h, _⟩ := h; exact lstNoTup h
  | dct ks => obtain ⟨_, h, _⟩ := h; exact extNoTup h
  | urn u c => obtain ⟨⟨_, _, _, h, _⟩, _⟩ := h; exact lstNoTup h
theorem OwnOk.stay {a : Addr} {o : Own} (h : OwnOk P w K H a o) (e : ∀ u, H a = Option.some u → H' a = Option.some u) (t : TupEx H H') : OwnOk P w K H' a o := by
  cases o with
  | lst ds => obtain ⟨vs, h, r⟩ := h; exact ⟨vs, e _ h, r.at t⟩
  | dct ks => obtain ⟨rows, h, h1, h2, r⟩ := h; exact ⟨rows, e _ h, h1, h2, fun q hq => ⟨(r q hq).1.at t, (r q hq).2⟩⟩
  | urn u c => obtain ⟨⟨x, y, z, h, r⟩, q⟩ := h; exact ⟨⟨x, y, z, e _ h, r⟩, q⟩
/-- a slot and what is known of it -/
def CellOk (P : Program) (w : World) (K : PySem.W.Frag) (H0 H : Hp) (x : Option V) : Cell → Prop
  | .un => True
  | .dat d => ∃ v, x = Option.some v ∧ TD K H v d
  | .gd d => ∃ v, x = Option.some v ∧ Dp K H0 v d
  | .rdl ds => ∃ a vs, x = Option.some (.ref a) ∧ H0 a = Option.some (.lst vs) ∧ TDs K H0 vs ds
  | .own o => ∃ a, x = Option.some (.ref a) ∧ H0 a = none ∧ OwnOk P w K H a o
def OwnAt (σ : L2.St) (Γ : List Cell) (i : Nat) (a : Addr) : Prop := σ[i]? = some (some (.ref a)) ∧ ∃ o, Γ[i]? = some (.own o)
structure EnvOk (P : Program) (w : World) (K : PySem.W.Frag) (H0 H : Hp) (σ : L2.St) (Γ : List Cell) : Prop where
  ex : Same H0 H
  len : σ.length = Γ.length
  at_ : ∀ (i : Nat) (c : Cell) (x : Option V), Γ[i]? = some c → σ[i]? = some x → CellOk P w K H0 H x c
  apart : ∀ (i j : Nat) (a : Addr), OwnAt σ Γ i a → OwnAt σ Γ j a → i = j
theorem CellOk.stay {x : Option V} {c : Cell} (h : CellOk P w K H0 H x c) (e : ∀ a o, x = Option.some (.ref a) → c = .own o → ∀ u, H a = Option.some u → H' a = Option.some u) (t : TupEx H H') : CellOk P w K H0 H' x c := by
  cases c with
  | un => trivial
  | dat d => obtain ⟨v, h, r⟩ := h; exact ⟨v, h, r.at t⟩
  | gd d => exact h
  | rdl ds => exact h
  | own o => obtain ⟨a, h, n, r⟩ := h; exact ⟨a, h, n, r.stay (e a o h rfl) t⟩
theorem EnvOk.mono {σ : L2.St} {Γ : List Cell} (ok : EnvOk P w K H0 H σ Γ) (e : Same H H') : EnvOk P w K H0 H' σ Γ :=
  ⟨ok.ex.trans e, ok.len, fun i c x h1 h2 => (ok.at_ i c x h1 h2).stay (fun a _ _ _ u q => e a u q) (.of e), ok.apart⟩
theorem EnvOk.get {σ : L2.St} {Γ : List Cell} (ok : EnvOk P w K H0 H σ Γ) {i : Nat} {c : Cell} (h : Γ[i]? = some c) : ∃ x, σ[i]? = some x ∧ CellOk P w K H0 H x c := by
  have hl : i < σ.length := by rw [ok.len]; exact (List.getElem?_eq_some_iff.mp h).1
  exact ⟨σ[i], List.getElem?_eq_getElem hl, ok.at_ i c _ h (List.getElem?_eq_getElem hl)⟩
theorem EnvOk.dat {σ : L2.St} {Γ : List Cell} (ok : EnvOk P w K H0 H σ Γ) {i : Nat} {d : PyData} (h : Γ[i]? = some (.dat d)) : ∃ v, σ[i]? = some (some v) ∧ TD K H v d := by
  obtain ⟨x, e, v, rfl, r⟩ := ok.get h
  exact ⟨v, e, r⟩
theorem EnvOk.gd {σ : L2.St} {Γ : List Cell} (ok : EnvOk P w K H0 H σ Γ) {i : Nat} {d : PyData} (h : Γ[i]? = some (.gd d)) : ∃ v, σ[i]? = some (some v) ∧ Dp K H v d := by
  obtain ⟨x, e, v, rfl, r⟩ := ok.get h
  exact ⟨v, e, dpEx ok.ex r⟩
theorem EnvOk.rdl {σ : L2.St} {Γ : List Cell} (ok : EnvOk P w K H0 H σ Γ) {i : Nat} {ds : List PyData} (h : Γ[i]? = some (.rdl ds)) : ∃ a vs, σ[i]? = some (some (.ref a)) ∧ H0 a = Option.some (.lst vs) ∧ TDs K H0 vs ds := by
  obtain ⟨x, e, a, vs, rfl, r⟩ := ok.get h
  exact ⟨a, vs, e, r⟩
theorem EnvOk.own {σ : L2.St} {Γ : List Cell} (ok : EnvOk P w K H0 H σ Γ) {i : Nat} {o : Own} (h : Γ[i]? = some (.own o)) : ∃ a, σ[i]? = some (some (.ref a)) ∧ H0 a = none ∧ OwnOk P w K H a o := by
  obtain ⟨x, e, a, rfl, r⟩ := ok.get h
  exact ⟨a, e, r⟩
/-- an owned place is tracked, and was not at the base -/
theorem EnvOk.ownAt {σ : L2.St} {Γ : List Cell} (ok : EnvOk P w K H0 H σ Γ) {i : Nat} {a : Addr} (h : OwnAt σ Γ i a) : H0 a = none ∧ ∃ o, Γ[i]? = some (.own o) ∧ OwnOk P w K H a o := by
  obtain ⟨e, o, h⟩ := h
  obtain ⟨b, e', n, r⟩ := ok.own h
  rw [e] at e'
  cases e'
  exact ⟨n, o, h, r⟩
theorem getSetC {α : Type} {l : List α} {i j : Nat} {x y : α} (h : (l.set i x)[j]? = some y) : (j = i ∧ y = x ∧ i < l.length) ∨ (j ≠ i ∧ l[j]? = some y) := by
  by_cases e : j = i
  · subst e
    by_cases hl : j < l.length
    · rw [List.getElem?_set_self hl] at h
      cases h
      exact .inl ⟨rfl, rfl, hl⟩
    · rw [List.getElem?_eq_none (by rw [List.length_set]; omega)] at h
      cases h
  · rw [List.getElem?_set_ne (Ne.symm e)] at h
    exact .inr ⟨e, h⟩
/-- a slot is given a value and a cell: c is true of v, and if v is owned it is new -/
theorem EnvOk.put {σ : L2.St} {Γ : List Cell} (ok : EnvOk P w K H0 H σ Γ) {i : Nat} {v : V} {c : Cell} (h : CellOk P w K H0 H (some v) c)
    (n : ∀ a o, v = .ref a → c = .own o → ∀ j, j ≠ i → ¬ OwnAt σ Γ j a) : EnvOk P w K H0 H (σ.set i (some v)) (Γ.set i c) := by
  refine ⟨ok.ex, by rw [List.length_set, List.length_set, ok.len], fun j c' x h1 h2 => ?_, fun j k a hj hk => ?_⟩
  · rcases getSetC h1 with ⟨e1, e2, _⟩ | ⟨e1, e2⟩
    · rcases getSetC h2 with ⟨_, e4, _⟩ | ⟨e3, _⟩
      · rw [e2, e4]; exact h
      · exact absurd e1 e3
    · rcases getSetC h2 with ⟨e3, _, _⟩ | ⟨_, e4⟩
      · exact absurd e3 e1
      · exact ok.at_ j c' x e2 e4
  · obtain ⟨j1, oj, j2⟩ := hj
    obtain ⟨k1, oK, k2⟩ := hk
    rcases getSetC j1 with ⟨a1, a2, _⟩ | ⟨a1, a2⟩
    · rcases getSetC k1 with ⟨b1, b2, _⟩ | ⟨b1, b2⟩
      · rw [a1, b1]
      · rcases getSetC j2 with ⟨_, c2, _⟩ | ⟨c1, _⟩
        · rcases getSetC k2 with ⟨d1, _, _⟩ | ⟨_, d2⟩
          · exact absurd d1 b1
          · exact absurd ⟨b2, _, d2⟩ (n a oj (Option.some.inj a2.symm) c2.symm k b1)
        · exact absurd a1 c1
    · rcases getSetC k1 with ⟨b1, b2, _⟩ | ⟨b1, b2⟩
      · rcases getSetC k2 with ⟨_, d2, _⟩ | ⟨d1, _⟩
        · rcases getSetC j2 with ⟨c1, _, _⟩ | ⟨_, c2⟩
          · exact absurd c1 a1
          · exact absurd ⟨a2, _, c2⟩ (n a oK (Option.some.inj b2.symm) d2.symm j a1)
        · exact absurd b1 d1
      · rcases getSetC j2 with ⟨c1, _, _⟩ | ⟨_, c2⟩
        · exact absurd c1 a1
        · rcases getSetC k2 with ⟨d1, _, _⟩ | ⟨_, d2⟩
          · exact absurd d1 b1
          · exact ok.apart j k a ⟨a2, _, c2⟩ ⟨b2, _, d2⟩
theorem EnvOk.putD {σ : L2.St} {Γ : List Cell} (ok : EnvOk P w K H0 H σ Γ) {i : Nat} {v : V} {d : PyData} (h : TD K H v d) : EnvOk P w K H0 H (σ.set i (some v)) (Γ.set i (.dat d)) :=
  ok.put ⟨v, rfl, h⟩ fun _ _ _ e => by cases e
theorem EnvOk.putG {σ : L2.St} {Γ : List Cell} (ok : EnvOk P w K H0 H σ Γ) {i : Nat} {v : V} {d : PyData} (h : Dp K H0 v d) : EnvOk P w K H0 H (σ.set i (some v)) (Γ.set i (.gd d)) :=
  ok.put ⟨v, rfl, h⟩ fun _ _ _ e => by cases e
theorem EnvOk.putR {σ : L2.St} {Γ : List Cell} (ok : EnvOk P w K H0 H σ Γ) {i : Nat} {a : Addr} {vs : List V} {ds : List PyData} (h : H0 a = Option.some (.lst vs)) (r : TDs K H0 vs ds) : EnvOk P w K H0 H (σ.set i (some (.ref a))) (Γ.set i (.rdl ds)) :=
  ok.put ⟨a, vs, rfl, h, r⟩ fun _ _ _ e => by cases e
/-- something new is owned -/
theorem EnvOk.putO {σ : L2.St} {Γ : List Cell} (ok : EnvOk P w K H0 H σ Γ) (e : Same H H') {i : Nat} {a : Addr} {o : Own} (n : H a = none) (h : OwnOk P w K H' a o) : EnvOk P w K H0 H' (σ.set i (some (.ref a))) (Γ.set i (.own o)) := by
  refine (ok.mono e).put ⟨a, rfl, ok.ex.free n, h⟩ fun b o' e1 e2 j _ hj => ?_
  cases e1
  obtain ⟨_, o2, _, r⟩ := ok.ownAt hj
  obtain ⟨u, hu⟩ := r.some
  rw [n] at hu
  cases hu
/-- what is owned at slot i is written -/
theorem EnvOk.write {σ : L2.St} {Γ : List Cell} (ok : EnvOk P w K H0 H σ Γ) {i : Nat} {a : Addr} {o' : Own} {u : HO} (h : OwnAt σ Γ i a) (r : OwnOk P w K (upd H a u) a o') : EnvOk P w K H0 (upd H a u) σ (Γ.set i (.own o')) := by
  obtain ⟨n, o, hi, ro⟩ := ok.ownAt h
  have t : TupEx H (upd H a u) := TupEx.write ro.noTup
  refine ⟨fun b x e => ?_, by rw [List.length_set, ok.len], fun j c x h1 h2 => ?_, fun j k b hj hk => ?_⟩
  · have nb : b ≠ a := ne_of_none e n
    rw [upd_ne nb]
    exact ok.ex b x e
  · rcases getSetC h1 with ⟨e1, e2, _⟩ | ⟨e1, e2⟩
    · subst e1 e2
      rw [h.1] at h2
      cases h2
      exact ⟨a, rfl, n, r⟩
    · refine (ok.at_ j c x e2 h2).stay (fun b o2 x1 x2 v hv => ?_) t
      have nb : b ≠ a := fun z => e1 (ok.apart j i b ⟨by rw [h2, x1], o2, by rw [e2, x2]⟩ (by rw [z]; exact h))
      rw [upd_ne nb]
      exact hv
  · have back : ∀ j, OwnAt σ (Γ.set i (.own o')) j b → OwnAt σ Γ j b := fun j hj => by
      obtain ⟨j1, oj, j2⟩ := hj
      rcases getSetC j2 with ⟨e1, _, _⟩ | ⟨_, e2⟩
      · exact ⟨j1, o, by rw [e1]; exact hi⟩
      · exact ⟨j1, oj, e2⟩
    exact ok.apart j k b (back j hj) (back k hk)
/-- less is known -/
inductive CLe : Cell → Cell → Prop
  | un (c : Cell) : CLe c .un
  | eq (c : Cell) : CLe c c
  | urn {u : Addr} {c c' : Nat} : c ≤ c' → CLe (.own (.urn u c)) (.own (.urn u c'))
def ELe (Γ Γ' : List Cell) : Prop := Γ.length = Γ'.length ∧ ∀ (i : Nat) (c' : Cell), Γ'[i]? = some c' → ∃ c, Γ[i]? = some c ∧ CLe c c'
theorem ELe.refl (Γ : List Cell) : ELe Γ Γ := ⟨rfl, fun _ c h => ⟨c, h, .eq c⟩⟩
theorem ELe.nil : ELe [] [] := ELe.refl []
theorem ELe.cons {c c' : Cell} {Γ Γ' : List Cell} (h : CLe c c') (r : ELe Γ Γ') : ELe (c :: Γ) (c' :: Γ') := by
  refine ⟨by rw [List.length_cons, List.length_cons, r.1], fun i d e => ?_⟩
  cases i with
  | zero => simp at e; subst e; exact ⟨c, rfl, h⟩
  | succ i =>
    obtain ⟨c2, a, b⟩ := r.2 i d (by simpa using e)
    exact ⟨c2, by simpa using a, b⟩
theorem EnvOk.wk {σ : L2.St} {Γ Γ' : List Cell} (ok : EnvOk P w K H0 H σ Γ) (l : ELe Γ Γ') : EnvOk P w K H0 H σ Γ' := by
  refine ⟨ok.ex, by rw [ok.len, l.1], fun i c' x h1 h2 => ?_, fun i j a hi hj => ?_⟩
  · obtain ⟨c, e, q⟩ := l.2 i c' h1
    have r := ok.at_ i c x e h2
    cases q with
    | un => trivial
    | eq => exact r
    | urn hc =>
      obtain ⟨a, e1, n, ⟨x1, y1, z1, e2, p1, p2⟩, e3⟩ := r
      exact ⟨a, e1, n, ⟨x1, y1, z1, e2, p1, by omega⟩, e3⟩
  · have back : ∀ i, OwnAt σ Γ' i a → OwnAt σ Γ i a := fun i hi => by
      obtain ⟨i1, o, i2⟩ := hi
      obtain ⟨c, e, q⟩ := l.2 i _ i2
      cases q with
      | eq => exact ⟨i1, o, e⟩
      | urn hc => exact ⟨i1, _, e⟩
    exact ok.apart i j a (back i hi) (back j hj)
/-- all that is not owned becomes the base -/
theorem EnvOk.max {σ : L2.St} {Γ : List Cell} (ok : EnvOk P w K H0 H σ Γ) : ∃ Hb, Same H0 Hb ∧ Same Hb H ∧ EnvOk P w K Hb H σ Γ ∧ (∀ a u, H a = some u → (∀ i, ¬ OwnAt σ Γ i a) → Hb a = some u) ∧ TupEx H Hb := by
  classical
  refine ⟨fun a => if ∃ i, OwnAt σ Γ i a then none else H a, fun a u e => ?_, fun a u e => ?_, ⟨fun a u e => ?_, ok.len, fun i c x h1 h2 => ?_, ok.apart⟩, fun a u e h => ?_, fun a xs q => ?_⟩
  · have hn : ¬ ∃ i, OwnAt σ Γ i a := fun ⟨i, hi⟩ => by
      have := (ok.ownAt hi).1
      rw [e] at this
      cases this
    show (if ∃ i, OwnAt σ Γ i a then none else H a) = some u
    rw [if_neg hn]
    exact ok.ex a u e
  · have e' : (if ∃ i, OwnAt σ Γ i a then none else H a) = some u := e
    split at e'
    · cases e'
    · exact e'
  · have e' : (if ∃ i, OwnAt σ Γ i a then none else H a) = some u := e
    split at e'
    · cases e'
    · exact e'
  · have s0 : Same H0 (fun a => if ∃ i, OwnAt σ Γ i a then none else H a) := fun a u e => by
      have hn : ¬ ∃ i, OwnAt σ Γ i a := fun ⟨i, hi⟩ => by
        have := (ok.ownAt hi).1
        rw [e] at this
        cases this
      show (if ∃ i, OwnAt σ Γ i a then none else H a) = some u
      rw [if_neg hn]
      exact ok.ex a u e
    have r := ok.at_ i c x h1 h2
    cases c with
    | un => trivial
    | dat d => exact r
    | gd d => obtain ⟨v, e, q⟩ := r; exact ⟨v, e, dpEx s0 q⟩
    | rdl ds => obtain ⟨a, vs, e, q, q2⟩ := r; exact ⟨a, vs, e, s0 _ _ q, q2.ex s0⟩
    | own o =>
      obtain ⟨a, e, n, q⟩ := r
      refine ⟨a, e, ?_, q⟩
      show (if ∃ i, OwnAt σ Γ i a then none else H a) = none
      exact if_pos ⟨i, by rw [h2, e], o, h1⟩
  · show (if ∃ i, OwnAt σ Γ i a then none else H a) = some u
    rw [if_neg (fun ⟨i, hi⟩ => h i hi)]
    exact e
  · have hn : ¬ ∃ i, OwnAt σ Γ i a := fun ⟨i, hi⟩ => by
      obtain ⟨_, o, _, r⟩ := ok.ownAt hi
      exact r.noTup xs q
    rcases q with q | ⟨o, q⟩
    · exact .inl (by show (if ∃ i, OwnAt σ Γ i a then none else H a) = _; rw [if_neg hn]; exact q)
    · exact .inr ⟨o, by show (if ∃ i, OwnAt σ Γ i a then none else H a) = _; rw [if_neg hn]; exact q⟩
/-- the base grows by all that is new in H1, and by all tuples; what stood in H and is no tuple stays outside -/
theorem EnvOk.grow {σ : L2.St} {Γ : List Cell} {H1 : Hp} (ok : EnvOk P w K H0 H σ Γ) (e : Same H H1) : ∃ Hb, Same H0 Hb ∧ Same Hb H1 ∧ EnvOk P w K Hb H1 σ Γ ∧ (∀ a u, H1 a = some u → H a = none → Hb a = some u) ∧ TupEx H1 Hb ∧ (∀ a u, H a = some u → (∀ xs, ¬ Rd H a (.tup xs)) → H0 a = none → Hb a = none) := by
  classical
  have key : ∀ a u, H0 a = some u → ¬ ((∃ u, H a = some u ∧ ∀ xs, ¬ Rd H a (.tup xs)) ∧ H0 a = none) := fun a u h z => by
    rw [h] at z
    cases z.2
  have ok1 := ok.mono e
  have sub : Same (fun a => if (∃ u, H a = some u ∧ ∀ xs, ¬ Rd H a (.tup xs)) ∧ H0 a = none then none else H1 a) H1 := fun a u h => by
    have h' : (if (∃ u, H a = some u ∧ ∀ xs, ¬ Rd H a (.tup xs)) ∧ H0 a = none then none else H1 a) = some u := h
    split at h'
    · cases h'
    · exact h'
  have s0 : Same H0 (fun a => if (∃ u, H a = some u ∧ ∀ xs, ¬ Rd H a (.tup xs)) ∧ H0 a = none then none else H1 a) := fun a u h => by
    show (if _ then none else H1 a) = some u
    rw [if_neg (key a u h)]
    exact ok1.ex a u h
  refine ⟨fun a => if (∃ u, H a = some u ∧ ∀ xs, ¬ Rd H a (.tup xs)) ∧ H0 a = none then none else H1 a, s0, sub, ⟨sub, ok.len, fun i c x h1 h2 => ?_, ok.apart⟩, fun a u h n => ?_, fun a xs q => ?_, fun a u h nt n => ?_⟩
  · have r := ok1.at_ i c x h1 h2
    cases c with
    | un => trivial
    | dat d => exact r
    | gd d => obtain ⟨v, e, q⟩ := r; exact ⟨v, e, dpEx s0 q⟩
    | rdl ds => obtain ⟨a, vs, e, q, q2⟩ := r; exact ⟨a, vs, e, s0 _ _ q, q2.ex s0⟩
    | own o =>
      obtain ⟨a, ea, n, q⟩ := r
      refine ⟨a, ea, ?_, q⟩
      show (if _ then none else H1 a) = none
      have own0 : OwnAt σ Γ i a := ⟨by rw [h2, ea], o, h1⟩
      obtain ⟨n0, o', _, q0⟩ := ok.ownAt own0
      obtain ⟨u, hu⟩ := q0.some
      rw [if_pos ⟨⟨u, hu, q0.noTup⟩, n0⟩]
  · show (if _ then none else H1 a) = some u
    rw [if_neg fun ⟨⟨u', h', _⟩, _⟩ => by rw [n] at h'; cases h']
    exact h
  · have nt : ¬ ((∃ u, H a = some u ∧ ∀ xs, ¬ Rd H a (.tup xs)) ∧ H0 a = none) := fun ⟨⟨u, hu, hn⟩, _⟩ => by
      have h1 := e a u hu
      refine hn xs ?_
      rcases q with q | ⟨o, q⟩
      · rw [h1] at q; exact .inl (by rw [hu, q])
      · rw [h1] at q; exact .inr ⟨o, by rw [hu, q]⟩
    rcases q with q | ⟨o, q⟩
    · exact .inl (by show (if _ then none else H1 a) = _; rw [if_neg nt]; exact q)
    · exact .inr ⟨o, by show (if _ then none else H1 a) = _; rw [if_neg nt]; exact q⟩
  · show (if _ then none else H1 a) = none
    rw [if_pos ⟨⟨u, h, nt⟩, n⟩]
/-- a value that is none of the owned places -/
theorem EnvOk.fresh {σ : L2.St} {Γ : List Cell} (ok : EnvOk P w K H0 H σ Γ) {a : Addr} (n : H a = none) : ∀ i, ¬ OwnAt σ Γ i a := fun i hi => by
  obtain ⟨_, o, _, r⟩ := ok.ownAt hi
  obtain ⟨u, hu⟩ := r.some
  rw [n] at hu
  cases hu
end
end K54
set_option Elab.async false
set_option linter.all false
set_option autoImplicit false
set_option maxRecDepth 100000
set_option maxHeartbeats 1000000
/-! K54, the data layer, 2: judgements over syntax, told in data; expressions -/
namespace K54
open PySem PySem.Spec PyProof.Rows L2

/-! ### weakening -/
theorem PE.wk {X : Cx} {e : Expr} {t t' : TE} (h : PE X e t) (i : ∀ σ H Q, t' σ H Q → t σ H Q) : PE X e t' := ⟨fun pins s σ H Q I q => h.run pins s σ H Q I (i σ H Q q)⟩
theorem PT.wk {X : Cx} {e : Expr} {t t' : TT} (h : PT X e t) (i : ∀ σ H Q, t' σ H Q → t σ H Q) : PT X e t' := ⟨fun pins s σ H Q I q => h.run pins s σ H Q I (i σ H Q q)⟩
theorem PTs.wk {X : Cx} {e : List Expr} {t t' : TT} (h : PTs X e t) (i : ∀ σ H Q, t' σ H Q → t σ H Q) : PTs X e t' := ⟨fun pins s σ H Q I q => h.run pins s σ H Q I (i σ H Q q)⟩
theorem PA.wk {X : Cx} {es : List Expr} {t t' : TA} (h : PA X es t) (i : ∀ σ H Q, t' σ H Q → t σ H Q) : PA X es t' := ⟨fun pos pins s σ H Q I q => h.run pos pins s σ H Q I (i σ H Q q)⟩
theorem PS.wk {X : Cx} {st : Stmt} {t t' : TS} (h : PS X st t) (i : ∀ D σ H, t' D σ H → t D σ H) : PS X st t' := ⟨fun pins s σ H D I q => h.run pins s σ H D I (i D σ H q)⟩
theorem PSs.wk {X : Cx} {st : List Stmt} {t t' : TS} (h : PSs X st t) (i : ∀ D σ H, t' D σ H → t D σ H) : PSs X st t' := ⟨fun pins s σ H D I q => h.run pins s σ H D I (i D σ H q)⟩
theorem PG.wk {X : Cx} {tg : Expr} {t t' : TG} (h : PG X tg t) (i : ∀ v σ H Q, t' v σ H Q → t v σ H Q) : PG X tg t' := ⟨fun pins s σ H v u Q I r q => h.run pins s σ H v u Q I r (i v σ H Q q)⟩
theorem PI.wk {X : Cx} {tg e : Expr} {t t' : TI} (h : PI X tg e t) (i : ∀ σ H R, t' σ H R → t σ H R) : PI X tg e t' := ⟨fun pins s σ H R I q => h.run pins s σ H R I (i σ H R q)⟩
/-- a union of readings -/
theorem PE.ex {X : Cx} {e : Expr} {ι : Sort _} {t : ι → TE} (h : ∀ a, PE X e (t a)) : PE X e (fun σ H Q => ∃ a, t a σ H Q) := ⟨fun pins s σ H Q I ⟨a, q⟩ => (h a).run pins s σ H Q I q⟩
theorem PT.ex {X : Cx} {e : Expr} {ι : Sort _} {t : ι → TT} (h : ∀ a, PT X e (t a)) : PT X e (fun σ H Q => ∃ a, t a σ H Q) := ⟨fun pins s σ H Q I ⟨a, q⟩ => (h a).run pins s σ H Q I q⟩
theorem PTs.ex {X : Cx} {e : List Expr} {ι : Sort _} {t : ι → TT} (h : ∀ a, PTs X e (t a)) : PTs X e (fun σ H Q => ∃ a, t a σ H Q) := ⟨fun pins s σ H Q I ⟨a, q⟩ => (h a).run pins s σ H Q I q⟩
theorem PSs.ex {X : Cx} {st : List Stmt} {ι : Sort _} {t : ι → TS} (h : ∀ a, PSs X st (t a)) : PSs X st (fun D σ H => ∃ a, t a D σ H) := ⟨fun pins s σ H D I ⟨a, q⟩ => (h a).run pins s σ H D I q⟩
theorem PG.ex {X : Cx} {tg : Expr} {ι : Sort _} {t : ι → TG} (h : ∀ a, PG X tg (t a)) : PG X tg (fun v σ H Q => ∃ a, t a v σ H Q) := ⟨fun pins s σ H v u Q I r ⟨a, q⟩ => (h a).run pins s σ H v u Q I r q⟩
theorem PI.ex {X : Cx} {tg e : Expr} {ι : Sort _} {t : ι → TI} (h : ∀ a, PI X tg e (t a)) : PI X tg e (fun σ H R => ∃ a, t a σ H R) := ⟨fun pins s σ H R I ⟨a, q⟩ => (h a).run pins s σ H R I q⟩

/-! ### the readings in data -/
section
variable (P : Program) (w : World) (K : PySem.W.Frag) (Γ : List Cell)
/-- tuple data -/
def tD (d : PyData) : TE := fun σ H Q => ∃ H0, EnvOk P w K H0 H σ Γ ∧ ∀ v H', Same H H' → TD K H' v d → Q v H'
/-- any data -/
def tG (d : PyData) : TE := fun σ H Q => ∃ H0, EnvOk P w K H0 H σ Γ ∧ ∀ v H', Same H H' → Dp K H' v d → Q v H'
/-- a new list of tuple data -/
def tN (ds : List PyData) : TE := fun σ H Q => ∃ H0, EnvOk P w K H0 H σ Γ ∧ ∀ a vs H', H a = none → Same H H' → H' a = some (.lst vs) → TDs K H' vs ds → Q (.ref a) H'
/-- a list of tuple data, to be read -/
def tL (ds : List PyData) : TE := fun σ H Q => ∃ H0, EnvOk P w K H0 H σ Γ ∧ ∀ a vs H', Same H H' → H' a = some (.lst vs) → TDs K H' vs ds → Q (.ref a) H'
def tB1 (b : Bool) : TT := fun σ H Q => ∃ H0, EnvOk P w K H0 H σ Γ ∧ ∀ H', Same H H' → Q b H'
/-- arguments -/
def tAs (ds : List PyData) : TA := fun σ H Q => ∃ H0, EnvOk P w K H0 H σ Γ ∧ ∀ vs H', Same H H' → DpAll K H' vs ds → Q vs H'
def tTs (ds : List PyData) : TA := fun σ H Q => ∃ H0, EnvOk P w K H0 H σ Γ ∧ ∀ vs H', Same H H' → TDs K H' vs ds → Q vs H'
end
abbrev DE (X : Cx) (Γ : List Cell) (e : Expr) (d : PyData) : Prop := PE X e (tD X.prog X.w X.K Γ d)
abbrev DG (X : Cx) (Γ : List Cell) (e : Expr) (d : PyData) : Prop := PE X e (tG X.prog X.w X.K Γ d)
abbrev DN (X : Cx) (Γ : List Cell) (e : Expr) (ds : List PyData) : Prop := PE X e (tN X.prog X.w X.K Γ ds)
abbrev DL (X : Cx) (Γ : List Cell) (e : Expr) (ds : List PyData) : Prop := PE X e (tL X.prog X.w X.K Γ ds)
abbrev DT (X : Cx) (Γ : List Cell) (e : Expr) (b : Bool) : Prop := PT X e (tB1 X.prog X.w X.K Γ b)
abbrev DTs (X : Cx) (Γ : List Cell) (es : List Expr) (b : Bool) : Prop := PTs X es (tB1 X.prog X.w X.K Γ b)
abbrev DA (X : Cx) (Γ : List Cell) (es : List Expr) (ds : List PyData) : Prop := PA X es (tAs X.prog X.w X.K Γ ds)
abbrev DU (X : Cx) (Γ : List Cell) (es : List Expr) (ds : List PyData) : Prop := PA X es (tTs X.prog X.w X.K Γ ds)

section
variable {X : Cx} {Γ : List Cell} {e a b c : Expr} {es : List Expr} {d d' x y z : PyData} {ds : List PyData} {pos : Pos}
theorem DE.is (h : DE X Γ e d) (q : d = d') : DE X Γ e d' := q ▸ h
theorem DN.is {ds' : List PyData} (h : DN X Γ e ds) (q : ds = ds') : DN X Γ e ds' := q ▸ h
theorem DT.is {b b' : Bool} (h : DT X Γ e b) (q : b = b') : DT X Γ e b' := q ▸ h
theorem DE.g (h : DE X Γ e d) : DG X Γ e d := PE.wk h fun σ H Q ⟨H0, ok, q⟩ => ⟨H0, ok, fun v H' s r => q v H' s (r.dp _ _)⟩
theorem DN.l (h : DN X Γ e ds) : DL X Γ e ds := PE.wk h fun σ H Q ⟨H0, ok, q⟩ => ⟨H0, ok, fun a vs H' n s e r => q a vs H' s e r⟩
theorem DL.g (h : DL X Γ e ds) : DG X Γ e (.list ds) := PE.wk h fun σ H Q ⟨H0, ok, q⟩ => ⟨H0, ok, fun a vs H' s e r => q (.ref a) H' s (.lst (.of e) (TDs.dps _ _ r))⟩
theorem DN.g (h : DN X Γ e ds) : DG X Γ e (.list ds) := h.l.g

/-! ### names, constants -/
theorem de_var (i : Nat) {n : Str} (hc : Γ[i]? = some (.dat d) := by rfl) (hN : X.N[i]? = some n := by rfl) (hv : Vis X.env.scope n := by first | exact Or.inl rfl | exact Or.inr (Or.inl rfl) | exact Or.inr (Or.inr rfl)) (hd : (n == ("__debug__" : Str)) = false := by decide) (hcd : (n == ("__classdict__" : Str)) = false := by decide) : DE X Γ (.Name n pos) d :=
  PE.wk (pe_var hN hv hd hcd) fun σ H Q ⟨H0, ok, q⟩ => by
    obtain ⟨v, e, r⟩ := ok.dat hc
    exact ⟨v, e, q v H (Same.refl H) r⟩
theorem dg_var (i : Nat) {n : Str} (hc : Γ[i]? = some (.gd d) := by rfl) (hN : X.N[i]? = some n := by rfl) (hv : Vis X.env.scope n := by first | exact Or.inl rfl | exact Or.inr (Or.inl rfl) | exact Or.inr (Or.inr rfl)) (hd : (n == ("__debug__" : Str)) = false := by decide) (hcd : (n == ("__classdict__" : Str)) = false := by decide) : DG X Γ (.Name n pos) d :=
  PE.wk (pe_var hN hv hd hcd) fun σ H Q ⟨H0, ok, q⟩ => by
    obtain ⟨v, e, r⟩ := ok.gd hc
    exact ⟨v, e, q v H (Same.refl H) r⟩
theorem dl_var (i : Nat) {n : Str} (hc : Γ[i]? = some (.rdl ds) := by rfl) (hN : X.N[i]? = some n := by rfl) (hv : Vis X.env.scope n := by first | exact Or.inl rfl | exact Or.inr (Or.inl rfl) | exact Or.inr (Or.inr rfl)) (hd : (n == ("__debug__" : Str)) = false := by decide) (hcd : (n == ("__classdict__" : Str)) = false := by decide) : DL X Γ (.Name n pos) ds :=
  PE.wk (pe_var hN hv hd hcd) fun σ H Q ⟨H0, ok, q⟩ => by
    obtain ⟨a, vs, e, s, r⟩ := ok.rdl hc
    exact ⟨.ref a, e, q a vs H (Same.refl H) (ok.ex _ _ s) (r.ex ok.ex)⟩
theorem do_var (i : Nat) {n : Str} (hc : Γ[i]? = some (.own (.lst ds)) := by rfl) (hN : X.N[i]? = some n := by rfl) (hv : Vis X.env.scope n := by first | exact Or.inl rfl | exact Or.inr (Or.inl rfl) | exact Or.inr (Or.inr rfl)) (hd : (n == ("__debug__" : Str)) = false := by decide) (hcd : (n == ("__classdict__" : Str)) = false := by decide) : DL X Γ (.Name n pos) ds :=
  PE.wk (pe_var hN hv hd hcd) fun σ H Q ⟨H0, ok, q⟩ => by
    obtain ⟨a, e, _, vs, s, r⟩ := ok.own hc
    exact ⟨.ref a, e, q a vs H (Same.refl H) s r⟩
theorem de_int {i : Int} {j} : DE X Γ (.Constant (.int i) j pos) (.int i) := PE.wk pe_int fun σ H Q ⟨H0, ok, q⟩ => q _ H (Same.refl H) (.int i)
theorem de_bl {i : Bool} {j} : DE X Γ (.Constant (.bool i) j pos) (.bool i) := PE.wk pe_bl fun σ H Q ⟨H0, ok, q⟩ => q _ H (Same.refl H) (.bl i)
theorem de_non {j} : DE X Γ (.Constant .none j pos) .none := PE.wk pe_non fun σ H Q ⟨H0, ok, q⟩ => q _ H (Same.refl H) .non
theorem de_str {i : Str} {j} : DE X Γ (.Constant (.str i) j pos) (.str i) := PE.wk pe_str fun σ H Q ⟨H0, ok, q⟩ => q _ H (Same.refl H) (.str i)

/-! ### arguments, displays -/
theorem da_nil : DA X Γ [] [] := PA.wk pa_nil fun σ H Q ⟨H0, ok, q⟩ => q _ H (Same.refl H) .nil
theorem da_cons (h : DG X Γ e d) (hr : DA X Γ es ds) (hs : starEach (e :: es) X.env = (false, eval e X.env) :: starEach es X.env := by rfl) : DA X Γ (e :: es) (d :: ds) :=
  PA.wk (pa_cons h hr hs) fun σ H Q ⟨H0, ok, q⟩ => ⟨H0, ok, fun v H1 e1 r1 => ⟨H0, ok.mono e1, fun vs H2 e2 r2 => q _ _ (e1.trans e2) (.cons (dpEx e2 r1) r2)⟩⟩
theorem du_nil : DU X Γ [] [] := PA.wk pa_nil fun σ H Q ⟨H0, ok, q⟩ => q _ H (Same.refl H) .nil
theorem du_cons (h : DE X Γ e d) (hr : DU X Γ es ds) (hs : starEach (e :: es) X.env = (false, eval e X.env) :: starEach es X.env := by rfl) : DU X Γ (e :: es) (d :: ds) :=
  PA.wk (pa_cons h hr hs) fun σ H Q ⟨H0, ok, q⟩ => ⟨H0, ok, fun v H1 e1 r1 => ⟨H0, ok.mono e1, fun vs H2 e2 r2 => q _ _ (e1.trans e2) (.cons (r1.ex e2) r2)⟩⟩
theorem DU.da (h : DU X Γ es ds) : DA X Γ es ds := PA.wk h fun σ H Q ⟨H0, ok, q⟩ => ⟨H0, ok, fun v H' s r => q v H' s (TDs.dps _ _ r)⟩
theorem de_tup {k : Nat} (h : DU X Γ es ds) (hl : ds.length ≤ sizeLine := by show _ ≤ sizeLine; first | decide | (simp; decide)) : DE X Γ (.Tuple es k pos) (.tuple ds) :=
  PE.wk (pe_tup h) fun σ H Q ⟨H0, ok, q⟩ => ⟨H0, ok, fun vs H1 e1 r1 => ⟨by rw [r1.length]; exact hl, fun p hp => q _ _ (e1.trans (sameNew hp)) (.tup (.of upd_same) (r1.ex (sameNew hp)))⟩⟩
theorem dn_lst (h : DU X Γ es ds) (hl : ds.length ≤ sizeLine := by show _ ≤ sizeLine; first | decide | (simp; decide)) : DN X Γ (.List es pos) ds :=
  PE.wk (pe_lst h) fun σ H Q ⟨H0, ok, q⟩ => ⟨H0, ok, fun vs H1 e1 r1 => ⟨by rw [r1.length]; exact hl, fun p hp => q p vs _ (e1.free hp) (e1.trans (sameNew hp)) upd_same (r1.ex (sameNew hp))⟩⟩

/-! ### operators told in data: r holds of what reads as x, y, and gives what reads as z -/
/-- on any data -/
def OpD (K : PySem.W.Frag) (r : R2) (x y z : PyData) : Prop := ∀ (u v : V) (H : Hp) (Q : VK), Dp K H u x → Dp K H v y → (∀ o H', Same H H' → TD K H' o z → Q o H') → r u v H Q
/-- on tuple data -/
def OpT (K : PySem.W.Frag) (r : R2) (x y z : PyData) : Prop := ∀ (u v : V) (H : Hp) (Q : VK), TD K H u x → TD K H v y → (∀ o H', Same H H' → TD K H' o z → Q o H') → r u v H Q
theorem de_op {op : Operator} {r : R2} (ho : OpR X (binaryOp op) r) (hr : OpT X.K r x y z) (ha : DE X Γ a x) (hb : DE X Γ b y) : DE X Γ (.BinOp a op b pos) z :=
  PE.wk (pe_op ho ha hb) fun σ H Q ⟨H0, ok, q⟩ => ⟨H0, ok, fun u H1 e1 r1 => ⟨H0, ok.mono e1, fun v H2 e2 r2 => hr u v H2 Q (r1.ex e2) r2 fun o H3 e3 r3 => q o H3 ((e1.trans e2).trans e3) r3⟩⟩
theorem de_cmp {op : CmpOp} {r : R2} (ho : OpR X (compareOp op) r) (hr : OpT X.K r x y z) (ha : DE X Γ a x) (hb : DE X Γ b y) (hm : behindInMarks op b = false := by first | exact nomark _ | rfl) : DE X Γ (.Compare a [op] [b] pos) z :=
  PE.wk (pe_cmpR ho ha hb hm) fun σ H Q ⟨H0, ok, q⟩ => ⟨H0, ok, fun u H1 e1 r1 => ⟨H0, ok.mono e1, fun v H2 e2 r2 => hr u v H2 Q (r1.ex e2) r2 fun o H3 e3 r3 => q o H3 ((e1.trans e2).trans e3) r3⟩⟩
theorem dg_cmp {op : CmpOp} {r : R2} (ho : OpR X (compareOp op) r) (hr : OpD X.K r x y z) (ha : DG X Γ a x) (hb : DG X Γ b y) (hm : behindInMarks op b = false := by first | exact nomark _ | rfl) : DE X Γ (.Compare a [op] [b] pos) z :=
  PE.wk (pe_cmpR ho ha hb hm) fun σ H Q ⟨H0, ok, q⟩ => ⟨H0, ok, fun u H1 e1 r1 => ⟨H0, ok.mono e1, fun v H2 e2 r2 => hr u v H2 Q (dpEx e2 r1) r2 fun o H3 e3 r3 => q o H3 ((e1.trans e2).trans e3) r3⟩⟩
theorem dt_cmp {op : CmpOp} {r : R2} {k : Bool} (ho : OpR X (compareOp op) r) (hr : OpT X.K r x y (.bool k)) (ha : DE X Γ a x) (hb : DE X Γ b y) (hm : behindInMarks op b = false := by first | exact nomark _ | rfl) : DT X Γ (.Compare a [op] [b] pos) k :=
  PT.wk (pt_cmpR ho ha hb hm) fun σ H Q ⟨H0, ok, q⟩ => ⟨H0, ok, fun u H1 e1 r1 => ⟨H0, ok.mono e1, fun v H2 e2 r2 => hr u v H2 _ (r1.ex e2) r2 fun o H3 e3 r3 => by
    cases r3
    exact ⟨k, rfl, q H3 ((e1.trans e2).trans e3)⟩⟩⟩
theorem dtg_cmp {op : CmpOp} {r : R2} {k : Bool} (ho : OpR X (compareOp op) r) (hr : OpD X.K r x y (.bool k)) (ha : DG X Γ a x) (hb : DG X Γ b y) (hm : behindInMarks op b = false := by first | exact nomark _ | rfl) : DT X Γ (.Compare a [op] [b] pos) k :=
  PT.wk (pt_cmpR ho ha hb hm) fun σ H Q ⟨H0, ok, q⟩ => ⟨H0, ok, fun u H1 e1 r1 => ⟨H0, ok.mono e1, fun v H2 e2 r2 => hr u v H2 _ (dpEx e2 r1) r2 fun o H3 e3 r3 => by
    cases r3
    exact ⟨k, rfl, q H3 ((e1.trans e2).trans e3)⟩⟩⟩
/-- ints -/
theorem opI0 {K : PySem.W.Frag} {g : Int → Int → Int} {i j : Int} : OpT K (rI0 fun i j => .int (g i j)) (.int i) (.int j) (.int (g i j)) := fun u v H Q h1 h2 q => by
  cases h1; cases h2
  exact ⟨i, j, rfl, rfl, q _ _ (Same.refl H) (.int _)⟩
theorem opI {K : PySem.W.Frag} {C : Int → Int → Prop} {g : Int → Int → Int} {i j : Int} (h : C i j) : OpT K (rI C fun i j => .int (g i j)) (.int i) (.int j) (.int (g i j)) := fun u v H Q h1 h2 q => by
  cases h1; cases h2
  exact ⟨i, j, rfl, rfl, h, q _ _ (Same.refl H) (.int _)⟩
theorem opB0 {K : PySem.W.Frag} {g : Int → Int → Bool} {i j : Int} : OpT K (rI0 fun i j => .bl (g i j)) (.int i) (.int j) (.bool (g i j)) := fun u v H Q h1 h2 q => by
  cases h1; cases h2
  exact ⟨i, j, rfl, rfl, q _ _ (Same.refl H) (.bl _)⟩
theorem opEqD {K : PySem.W.Frag} (h1 : SeqAt.shaped x = true) (h2 : SeqAt.shaped y = true) : OpD K (rEqD K) x y (.bool (PyData.eqv x y)) := fun u v H Q r1 r2 q => ⟨x, y, r1, r2, h1, h2, q _ _ (Same.refl H) (.bl _)⟩
theorem opNeD {K : PySem.W.Frag} (h1 : SeqAt.shaped x = true) (h2 : SeqAt.shaped y = true) : OpD K (rNeD K) x y (.bool (!PyData.eqv x y)) := fun u v H Q r1 r2 q => ⟨x, y, r1, r2, h1, h2, q _ _ (Same.refl H) (.bl _)⟩

/-! ### tests -/
theorem dt_val {k : Bool} (h : DE X Γ e (.bool k)) (he : ∀ whole, isTrue e X.env whole = (do let v ← whole; standAt e.pos; holding [v] (truthy v)) := by intro _; rfl) : DT X Γ e k :=
  PT.wk (pt_val h he) fun σ H Q ⟨H0, ok, q⟩ => ⟨H0, ok, fun u H1 e1 r1 => by
    cases r1
    exact ⟨k, rfl, q H1 e1⟩⟩
theorem dt_not {k : Bool} (h : DT X Γ a k) : DT X Γ (.UnaryOp .Not a pos) (!k) :=
  PT.wk (pt_not h) fun σ H Q ⟨H0, ok, q⟩ => ⟨H0, ok, fun H1 e1 => q H1 e1⟩
/-- a chain of and, of or, as a test -/
abbrev DW (X : Cx) (Γ : List Cell) (e : Expr) (b : Bool) : Prop := PW X e (tB1 X.prog X.w X.K Γ b)
theorem PW.wk {X : Cx} {e : Expr} {t t' : TT} (h : PW X e t) (i : ∀ σ H Q, t' σ H Q → t σ H Q) : PW X e t' := ⟨fun whole pins s σ H Q I q => h.run whole pins s σ H Q I (i σ H Q q)⟩
theorem dw_and1 {k : Bool} (h : DT X Γ a k) : DW X Γ (.BoolOp .And [a] pos) k := pw_and1 h
theorem dw_or1 {k : Bool} (h : DT X Γ a k) : DW X Γ (.BoolOp .Or [a] pos) k := pw_or1 h
theorem ptIf {t : TT} {X : Cx} {e : Expr} {p : Prop} (h : p → PW X e t) : PW X e (fun σ H Q => p ∧ t σ H Q) := ⟨fun whole pins s σ H Q I ⟨k, q⟩ => (h k).run whole pins s σ H Q I q⟩
theorem peIf {t : TE} {X : Cx} {e : Expr} {p : Prop} (h : p → PE X e t) : PE X e (fun σ H Q => p ∧ t σ H Q) := ⟨fun pins s σ H Q I ⟨k, q⟩ => (h k).run pins s σ H Q I q⟩
theorem pssIf {t : TS} {X : Cx} {e : List Stmt} {p : Prop} (h : p → PSs X e t) : PSs X e (fun D σ H => p ∧ t D σ H) := ⟨fun pins s σ H D I ⟨k, q⟩ => (h k).run pins s σ H D I q⟩
theorem dw_and {k l : Bool} {rest : List Expr} (h : DT X Γ a k) (hr : k = true → DW X Γ (.BoolOp .And (b :: rest) pos) l) : DW X Γ (.BoolOp .And (a :: b :: rest) pos) (k && l) :=
  PW.wk (pw_and h (ptIf hr)) fun σ H Q ⟨H0, ok, q⟩ => ⟨H0, ok, fun H1 e1 => by
    cases k with
    | true => exact ⟨rfl, H0, ok.mono e1, fun H2 e2 => q H2 (e1.trans e2)⟩
    | false => exact q H1 e1⟩
theorem dw_or {k l : Bool} {rest : List Expr} (h : DT X Γ a k) (hr : k = false → DW X Γ (.BoolOp .Or (b :: rest) pos) l) : DW X Γ (.BoolOp .Or (a :: b :: rest) pos) (k || l) :=
  PW.wk (pw_or h (ptIf hr)) fun σ H Q ⟨H0, ok, q⟩ => ⟨H0, ok, fun H1 e1 => by
    cases k with
    | false => exact ⟨rfl, H0, ok.mono e1, fun H2 e2 => q H2 (e1.trans e2)⟩
    | true => exact q H1 e1⟩
/-- as values -/
theorem de_one {op} (h : DE X Γ a d) : DE X Γ (.BoolOp op [a] pos) d := pe_one h
theorem de_and {k l : Bool} {rest : List Expr} (h : DE X Γ a (.bool k)) (hr : k = true → DE X Γ (.BoolOp .And (b :: rest) pos) (.bool l)) : DE X Γ (.BoolOp .And (a :: b :: rest) pos) (.bool (k && l)) :=
  PE.wk (pe_and h (peIf hr)) fun σ H Q ⟨H0, ok, q⟩ => ⟨H0, ok, fun v H1 e1 r1 => by
    cases r1
    refine ⟨k, rfl, ?_⟩
    cases k with
    | true => exact ⟨rfl, H0, ok.mono e1, fun v H2 e2 => q v H2 (e1.trans e2)⟩
    | false => exact q _ H1 e1 (.bl _)⟩
theorem de_or {k l : Bool} {rest : List Expr} (h : DE X Γ a (.bool k)) (hr : k = false → DE X Γ (.BoolOp .Or (b :: rest) pos) (.bool l)) : DE X Γ (.BoolOp .Or (a :: b :: rest) pos) (.bool (k || l)) :=
  PE.wk (pe_or h (peIf hr)) fun σ H Q ⟨H0, ok, q⟩ => ⟨H0, ok, fun v H1 e1 r1 => by
    cases r1
    refine ⟨k, rfl, ?_⟩
    cases k with
    | false => exact ⟨rfl, H0, ok.mono e1, fun v H2 e2 => q v H2 (e1.trans e2)⟩
    | true => exact q _ H1 e1 (.bl _)⟩
theorem de_not {k : Bool} (h : DE X Γ a (.bool k)) : DE X Γ (.UnaryOp .Not a pos) (.bool (!k)) :=
  PE.wk (pe_not h) fun σ H Q ⟨H0, ok, q⟩ => ⟨H0, ok, fun v H1 e1 r1 => by
    cases r1
    exact ⟨k, rfl, q _ H1 e1 (.bl _)⟩⟩
theorem de_if {k : Bool} (h : DT X Γ c k) (h1 : k = true → DE X Γ a d) (h2 : k = false → DE X Γ b d) : DE X Γ (.IfExp c a b pos) d :=
  PE.wk (pe_ifExp h (peIf h1) (peIf h2)) fun σ H Q ⟨H0, ok, q⟩ => ⟨H0, ok, fun H1 e1 => by
    cases k with
    | true => exact ⟨rfl, H0, ok.mono e1, fun v H2 e2 => q v H2 (e1.trans e2)⟩
    | false => exact ⟨rfl, H0, ok.mono e1, fun v H2 e2 => q v H2 (e1.trans e2)⟩⟩
theorem de_isN {j pos'} (h : DE X Γ a d) (hm : behindInMarks .Is (.Constant .none j pos') = false := by rfl) : DE X Γ (.Compare a [.Is] [.Constant .none j pos'] pos) (.bool (match d with | .none => true | _ => false)) :=
  PE.wk (pe_cmp (pc_isN h) hm) fun σ H Q ⟨H0, ok, q⟩ => ⟨H0, ok, fun v H1 e1 r1 => by
    refine q _ H1 e1 ?_
    cases r1 with
    | non => exact .bl true
    | bl _ => exact .bl false
    | int _ => exact .bl false
    | str _ => exact .bl false
    | tup _ _ => exact .bl false⟩
theorem de_notN {j pos'} (h : DE X Γ a d) (hm : behindInMarks .IsNot (.Constant .none j pos') = false := by rfl) : DE X Γ (.Compare a [.IsNot] [.Constant .none j pos'] pos) (.bool (match d with | .none => false | _ => true)) :=
  PE.wk (pe_cmp (pc_notN h) hm) fun σ H Q ⟨H0, ok, q⟩ => ⟨H0, ok, fun v H1 e1 r1 => by
    refine q _ H1 e1 ?_
    cases r1 with
    | non => exact .bl false
    | bl _ => exact .bl true
    | int _ => exact .bl true
    | str _ => exact .bl true
    | tup _ _ => exact .bl true⟩

/-! ### built-ins by value -/
def CrD (K : PySem.W.Frag) (r : List V → Hp → VK → Prop) (ds : List PyData) (z : PyData) : Prop := ∀ (vs : List V) (H : Hp) (Q : VK), DpAll K H vs ds → (∀ o H', Same H H' → TD K H' o z → Q o H') → r vs H Q
def CrN (K : PySem.W.Frag) (r : List V → Hp → VK → Prop) (ds zs : List PyData) : Prop := ∀ (vs : List V) (H : Hp) (Q : VK), DpAll K H vs ds → (∀ a us H', H a = none → Same H H' → H' a = some (.lst us) → TDs K H' us zs → Q (.ref a) H') → r vs H Q
theorem de_callB {n : Str} {id : String} {r : List V → Hp → VK → Prop} {p : Pos} (hc : CallR X (.builtin id) r) (hr : CrD X.K r ds z) (hm : X.mg n = none) (ha : DA X Γ (e :: es) ds) (hv : bootBuiltins n = some (.builtin id) := by decide +kernel) (hg : Gl X n := by rfl) (hn : n ≠ "__name__" := by decide) (hdb : (n == ("__debug__" : Str)) = false := by decide)
    (he : starEach (e :: es) X.env = (false, eval e X.env) :: starEach es X.env := by rfl) (hpl : (backTo pos (starEach es X.env)).any (·.1) = false := by rfl) : DE X Γ (.Call (.Name n p) (e :: es) [] pos) z :=
  PE.wk (pe_callB hc hg hm hv ha hn hdb he hpl) fun σ H Q ⟨H0, ok, q⟩ => ⟨H0, ok, fun vs H1 e1 r1 => hr vs H1 Q r1 fun o H2 e2 r2 => q o H2 (e1.trans e2) r2⟩
theorem de_callTy {n : Str} {id : String} {r : List V → Hp → VK → Prop} {p : Pos} (hc : CallR X (.type id) r) (hr : CrD X.K r ds z) (hm : X.mg n = none) (ha : DA X Γ (e :: es) ds) (hv : bootBuiltins n = some (.type id) := by decide +kernel) (hg : Gl X n := by rfl) (hn : n ≠ "__name__" := by decide) (hdb : (n == ("__debug__" : Str)) = false := by decide)
    (he : starEach (e :: es) X.env = (false, eval e X.env) :: starEach es X.env := by rfl) (hpl : (backTo pos (starEach es X.env)).any (·.1) = false := by rfl) : DE X Γ (.Call (.Name n p) (e :: es) [] pos) z :=
  PE.wk (pe_callTy hc hg hm hv ha hn hdb he hpl) fun σ H Q ⟨H0, ok, q⟩ => ⟨H0, ok, fun vs H1 e1 r1 => hr vs H1 Q r1 fun o H2 e2 r2 => q o H2 (e1.trans e2) r2⟩
theorem dn_callTy {n : Str} {id : String} {r : List V → Hp → VK → Prop} {zs : List PyData} {p : Pos} (hc : CallR X (.type id) r) (hr : CrN X.K r ds zs) (hm : X.mg n = none) (ha : DA X Γ (e :: es) ds) (hv : bootBuiltins n = some (.type id) := by decide +kernel) (hg : Gl X n := by rfl) (hn : n ≠ "__name__" := by decide) (hdb : (n == ("__debug__" : Str)) = false := by decide)
    (he : starEach (e :: es) X.env = (false, eval e X.env) :: starEach es X.env := by rfl) (hpl : (backTo pos (starEach es X.env)).any (·.1) = false := by rfl) : DN X Γ (.Call (.Name n p) (e :: es) [] pos) zs :=
  PE.wk (pe_callTy hc hg hm hv ha hn hdb he hpl) fun σ H Q ⟨H0, ok, q⟩ => ⟨H0, ok, fun vs H1 e1 r1 => hr vs H1 Q r1 fun a us H2 n e2 h2 r2 => q a us H2 (e1.free n) (e1.trans e2) h2 r2⟩
theorem dn_callB {n : Str} {id : String} {r : List V → Hp → VK → Prop} {zs : List PyData} {p : Pos} (hc : CallR X (.builtin id) r) (hr : CrN X.K r ds zs) (hm : X.mg n = none) (ha : DA X Γ (e :: es) ds) (hv : bootBuiltins n = some (.builtin id) := by decide +kernel) (hg : Gl X n := by rfl) (hn : n ≠ "__name__" := by decide) (hdb : (n == ("__debug__" : Str)) = false := by decide)
    (he : starEach (e :: es) X.env = (false, eval e X.env) :: starEach es X.env := by rfl) (hpl : (backTo pos (starEach es X.env)).any (·.1) = false := by rfl) : DN X Γ (.Call (.Name n p) (e :: es) [] pos) zs :=
  PE.wk (pe_callB hc hg hm hv ha hn hdb he hpl) fun σ H Q ⟨H0, ok, q⟩ => ⟨H0, ok, fun vs H1 e1 r1 => hr vs H1 Q r1 fun a us H2 n e2 h2 r2 => q a us H2 (e1.free n) (e1.trans e2) h2 r2⟩
end
end K54
set_option Elab.async false
set_option linter.all false
set_option autoImplicit false
set_option maxRecDepth 100000
set_option maxHeartbeats 4000000
/-! K54: enumerate of a tuple, as a thing that a for or a comprehension walks -/
namespace PySem
open Sem (wp)
open AutoSeq1 (wpAny_loadPart')
theorem k54_enumTup (l : Addr) (items : Array Value) (n : Nat) (dct : Option Addr) (sl : Array (Option Value)) :
    Meets (Builtin.«enumerate.__new__» ⟨[.type "enumerate", .ref l], []⟩) (fun _ R s => s.heap.get? l = some { cls := .type "tuple", dict := dct, data := .seq items n, slots := sl } ∧
      R (.ok (.ret (.ref (s.heap.push { cls := .type "tuple_iterator", data := .fields #[.ref l, .int 0 0] }).objs.size)))
        { s with heap := (s.heap.push { cls := .type "tuple_iterator", data := .fields #[.ref l, .int 0 0] }).push { cls := .type "enumerate", data := .fields #[.none, .bool false, .ref s.heap.objs.size, rawInt 0, .none, .none] } }) :=
  .of_wp fun prog w A R s q => by
    obtain ⟨hp, g, d, tk, os⟩ := s
    obtain ⟨ho, q⟩ := q
    have sub := sub_enumerate
    have T : Heap.IsTuple (Shared.heap ⟨hp, g, d, tk, os⟩) l items := ⟨_, ho, rfl, n, rfl⟩
    wp_walk using wpAny_loadPart' ho
    refine wpAny_stack_any fun _ => wpAny_pure ?_
    split
    · rename_i c _ _ _ _ _
      cases (c == Value.type "enumerate") <;> (wp_walk using wpAny_loadPart' ho, wpAny_pyIter_tuple T; exact ⟨_, rfl, q⟩)
    · wp_walk using wpAny_loadPart' ho, wpAny_pyIter_tuple T
      exact ⟨_, rfl, q⟩
theorem k54_callEnumTup {prog : Program} {w : World} {A : Around} {E : Value → Shared → Prop} {s : Shared} {l : Addr} {items : Array Value} {Q : Value → Shared → Prop} (T : s.heap.IsTuple l items)
    (q : ∀ h', IsEnum h' (s.heap.objs.size + 1) s.heap.objs.size 0 .none → h'.IsTupleIter s.heap.objs.size l 0 → (∀ b o, s.heap.get? b = some o → h'.get? b = some o) → Q (.ref (s.heap.objs.size + 1)) { s with heap := h' }) :
    wpAny (model prog w) A (call (.type "enumerate") [.ref l]) Q E s := by
  obtain ⟨⟨c, dct, dt, sl⟩, ho, hc, n, hd⟩ := T
  obtain rfl : c = .type "tuple" := hc
  obtain rfl : dt = .seq items n := hd
  refine callType_new F.called_enumerate (by decide) (F.typeCall_enumerate_1 _) (F.newCall_enumerate_1 _) (fun obj => F.args_object_init_2 obj _) F.entry_enumerate_new (k54_enumTup l items n dct sl) ⟨ho, ?_⟩
  have z : (s.heap.push { cls := .type "tuple_iterator", data := .fields #[.ref l, .int 0 0] }).objs.size = s.heap.objs.size + 1 := Heap.size_push ..
  show _ ∧ _
  rw [z]
  have he : ((s.heap.push { cls := .type "tuple_iterator", data := .fields #[.ref l, .int 0 0] }).push { cls := .type "enumerate", data := .fields #[.none, .bool false, .ref s.heap.objs.size, rawInt 0, .none, .none] }).get? (s.heap.objs.size + 1) =
      some { cls := .type "enumerate", data := .fields #[.none, .bool false, .ref s.heap.objs.size, rawInt 0, .none, .none] } := by
    rw [← z]
    exact Heap.get?_push_size _ rfl
  exact ⟨⟨_, he, rfl⟩, q _ he ⟨_, Heap.get?_push_of_some _ (Heap.get?_push_size _ rfl), rfl, rfl⟩ fun b o e => Heap.get?_push_of_some _ (Heap.get?_push_of_some _ e)⟩
end PySem
namespace K54
open PySem PySem.Spec PyProof.Rows L2
/-- the tuple at a, each item in a new pair behind its place -/
def ItEt (K : PySem.W.Frag) (a : Addr) : It where
  go i H := ∃ (xs : List V) (x : V), SqT K H a xs ∧ xs[i]? = some x
  yld i H v H' := ∃ T x, v = .ref T ∧ H T = none ∧ H' = upd H T (.tup [.int (i : Nat), x]) ∧ ∀ xs, SqT K H a xs → xs[i]? = some x
  stop i H := ∃ xs : List V, SqT K H a xs ∧ xs.length ≤ i
theorem turnEt {P : Program} {w : World} {K : PySem.W.Frag} {elts : List Expr} {kk : Nat} {tpos : Pos} (a e it : Addr) (hea : a ≠ it) :
    Turn P w K (.Tuple elts kk tpos) (ItEt K a) [e, it] e (fun i h => (∃ old, IsEnum h e it ((i : Nat) : Int) old) ∧ h.IsTupleIter it a i ∧ e ≠ it ∧ e ≠ a) where
  mem := List.mem_cons_self
  obj := fun i h st b hb => by
    obtain ⟨⟨old, he⟩, ⟨o, ho, hc, hd⟩, _⟩ := st
    rcases List.mem_cons.mp hb with z | z
    · rw [z]; exact ⟨_, he, fun v q => nomatch q⟩
    · rw [List.mem_singleton.mp z]
      exact ⟨o, ho, fun v q => by rw [hd] at q; cases q⟩
  keep := fun i h h' st k => by
    obtain ⟨⟨old, he⟩, hi, hne⟩ := st
    exact ⟨⟨old, k e List.mem_cons_self _ he⟩, hi.at fun o q => k it (List.mem_cons_of_mem _ List.mem_cons_self) o q, hne⟩
  item := by
    intro X hP hw hK hc i pins s σ H E I hf st hg
    subst hP hw hK
    obtain ⟨⟨old, he⟩, hit, hne, hna⟩ := st
    obtain ⟨xs, x, hq, hx⟩ := hg
    obtain ⟨its, rv, p, hz⟩ := I.tuple hq
    obtain ⟨u, hu, ru⟩ := rv.get hx
    have hT : s.heap.IsTuple a its.toArray := p
    have hh : X.A.in1.handled = none := I.ok.hd hc
    have Dr := Draws.tuple (prog := X.prog) (w := X.w) (A := X.A.in1) hh it a hea its.toArray
    have hlt : i < its.toArray.size := by
      have q := (List.getElem?_eq_some_iff.mp hu).1
      simpa using q
    have hel : e < s.heap.objs.size := Heap.lt_size he
    have hil : it < s.heap.objs.size := by obtain ⟨_, q, _⟩ := hit; exact Heap.lt_size q
    refine wpAny_pyNext_enum_itemD Dr he ⟨hit, hT⟩ hlt hne (fun z => ?_) fun y h' tk hy ho st' hTn hsz hk => ?_
    · rcases List.mem_cons.mp z with z | z
      · exact hne z
      · exact hna (List.mem_singleton.mp z)
    · have ey : y = u := by
        have q : its.toArray[i]? = some u := by simpa using hu
        rw [q] at hy
        exact (Option.some.inj hy).symm
      subst ey
      refine ⟨_, rfl, wpAny_letOwnedTupleGo_enum (s := { s with heap := h', toks := tk + 1 }) ho fun h'' he' sb => ?_⟩
      have hT2 : h''.get? s.heap.objs.size = some { cls := .type "tuple", data := .seq #[.int i tk, y] } := (sb.2 _ (Nat.ne_of_gt hel)).trans hTn
      have new : ObjOk X.prog X.w (upd H s.heap.objs.size (.tup [.int (i : Nat), x])) h'' s.heap.objs.size (.tup [.int (i : Nat), x]) :=
        ⟨by show 2 ≤ sizeLine; decide, [.int i tk, y], .cons ⟨_, rfl⟩ (.cons ru .nil), ⟨_, hT2, rfl, _, rfl⟩⟩
      have I1 : Inv X pins σ (upd H s.heap.objs.size (.tup [.int (i : Nat), x])) { s with heap := h'', toks := tk + 1 } :=
        I.turnedNew (ch := [e, it]) (fun b ob hb q => (sb.2 b (fun z => hb (by simp [z]))).trans (hk b ob (fun z => hb (by simp [z])) (fun z => hb (by simp [z])) q)) hf (Nat.le_refl _) new
      refine ⟨.ref s.heap.objs.size, _, I1, rfl, ⟨_, x, rfl, I.hok.fresh (Nat.le_refl _), rfl, fun ys hy => by rw [I.tuple_inj hy hq]; exact hx⟩, ⟨⟨y, ?_⟩, st'.1.at fun o q => (sb.2 it (Ne.symm hne)).trans q, hne, hna⟩, fun b hb => ?_⟩
      · rw [show ((i + 1 : Nat) : Int) = (i : Int) + 1 by omega]
        exact he'
      · have hb' : b < s.heap.objs.size := by
          rcases List.mem_cons.mp hb with z | z
          · rw [z]; exact hel
          · rw [List.mem_singleton.mp z]; exact hil
        rw [upd_ne (Nat.ne_of_lt hb')]
        exact (hf b hb).1
  done := by
    intro X hP hw hK hc i pins s σ H E I hf st hg
    subst hP hw hK
    obtain ⟨⟨old, he⟩, hit, hne, hna⟩ := st
    obtain ⟨xs, hq, hx⟩ := hg
    obtain ⟨its, rv, p, hz⟩ := I.tuple hq
    have hT : s.heap.IsTuple a its.toArray := p
    have hh : X.A.in1.handled = none := I.ok.hd hc
    obtain ⟨f0, f1, f2, f3, f4, f5⟩ := hf it (List.mem_cons_of_mem _ List.mem_cons_self)
    have hl := rv.length
    have hT2 : typeOf (.ref e) = typeOf (.ref e) := rfl
    have hTy : s.TypeIs (.ref e) "enumerate" := ⟨_, he, rfl⟩
    unfold pyNext
    refine wpAny_bind (wpAny_attempt (wpAny_callSpecial?_slot (name := Str.ofString "__next__") hTy F.slot_enumerate_next
      (wpAny_call_entry F.slot_enumerate_next hTy F.entry_enumerate_next ?_ (F.args_enumerate_next_1 _))))
    show wpAny _ _ (field (.ref e) 2 >>= _) _ _ _
    refine wpAny_bind (wpAny_field he rfl (x := .ref it) rfl ?_)
    refine wpAny_bind (wpAny_nextOf_tuple_end hh hit hT (by simp; omega) fun h' x eb hx' => ?_)
    obtain ⟨o, ho, hcl⟩ := hx'
    refine wpAny_bind (wpAny_isInstance (T := "StopIteration") (b := true) ⟨o, ho, hcl⟩ isSubtype_stop ?_)
    exact wpAny_pure ⟨rfl, I.turned (t' := s.toks) (fun b o hb q => eb b o hb q) f0 f1 f3 f4 f5⟩
  self := fun A i s Q E st h => let ⟨⟨_, he⟩, _⟩ := st; wpAny_pyIter_enum he h
def iEnT (K : PySem.W.Frag) (ta : TA) : TI := fun σ H R => ta σ H fun vs H1 => ∃ a xs, vs = [.ref a] ∧ SqT K H1 a xs ∧ R (ItEt K a) H1
theorem pi_enT {X : Cx} {e : Expr} {ta : TA} {p pos tpos : Pos} {elts : List Expr} {kk : Nat} (hg : Gl X "enumerate") (hm : X.mg "enumerate" = none) (ha : PA X [e] ta) (hs : starEach [e] X.env = [(false, eval e X.env)] := by rfl) :
    PI X (.Tuple elts kk tpos) (.Call (.Name "enumerate" p) [e] [] pos) (iEnT X.K ta) := by
  refine ⟨fun pins s σ H R I h => ?_⟩
  refine Call_ (ld_blt I hg hm boot_enumerate (PyProof.Rows.callWith_type1 (thn (ha.run pos pins s σ H _ I h) fun us s1 ⟨vs, H1, I1, r1, q1⟩ => ?_) hs rfl))
  obtain ⟨a, xs, ex, hq, q⟩ := q1
  subst ex
  cases r1 with
  | cons r rr =>
    cases rr
    cases r
    obtain ⟨its, rv, p', hz⟩ := I1.tuple hq
    have hal : a < s1.heap.objs.size := p'.lt
    refine k54_callEnumTup p' fun h' he hit hk => wpAny_pyIter_enum he ?_
    have I2 : Inv X pins σ H1 { s1 with heap := h' } := I1.kept (t' := s1.toks) hk
    refine ⟨s1.heap.objs.size + 1, [s1.heap.objs.size + 1, s1.heap.objs.size], _, _, H1, rfl, I2, turnEt a (s1.heap.objs.size + 1) s1.heap.objs.size (Nat.ne_of_lt hal), ⟨⟨.none, he⟩, hit, Nat.succ_ne_self _, Nat.ne_of_gt (Nat.lt_succ_of_lt hal)⟩, fun b hb => ?_, q⟩
    have hle : s1.heap.objs.size ≤ b := by
      rcases List.mem_cons.mp hb with z | z
      · rw [z]; exact Nat.le_add_right _ _
      · rw [List.mem_singleton.mp z]; exact Nat.le_refl _
    exact I1.fpOk hle (I1.hok.fresh hle)
end K54
set_option Elab.async false
set_option linter.all false
set_option autoImplicit false
set_option maxRecDepth 100000
set_option maxHeartbeats 1000000
/-! K54, the data layer, 3: calls of defs, targets, what is walked, statements -/
namespace K54
open PySem PySem.Spec PyProof.Rows L2

/-! ### arguments of a def -/
inductive Arg where
  | t (d : PyData)
  | g (d : PyData)
  | l (ds : List PyData)
def Arg.cell : Arg → Cell
  | .t d => .dat d
  | .g d => .gd d
  | .l ds => .rdl ds
def ArgOk (K : PySem.W.Frag) (H : Hp) (v : V) : Arg → Prop
  | .t d => TD K H v d
  | .g d => Dp K H v d
  | .l ds => ∃ a vs, v = .ref a ∧ H a = some (.lst vs) ∧ TDs K H vs ds
inductive ArgsOk (K : PySem.W.Frag) (H : Hp) : List V → List Arg → Prop
  | nil : ArgsOk K H [] []
  | cons {v : V} {vs : List V} {a : Arg} {as : List Arg} : ArgOk K H v a → ArgsOk K H vs as → ArgsOk K H (v :: vs) (a :: as)
theorem ArgOk.ex {K : PySem.W.Frag} {H H' : Hp} (e : Same H H') {v : V} : ∀ {a : Arg}, ArgOk K H v a → ArgOk K H' v a
  | .t _, h => TD.ex e h
  | .g _, h => dpEx e h
  | .l _, ⟨a, vs, h1, h2, h3⟩ => ⟨a, vs, h1, e _ _ h2, TDs.ex e h3⟩
theorem ArgsOk.length {K : PySem.W.Frag} {H : Hp} : ∀ {vs : List V} {as : List Arg}, ArgsOk K H vs as → vs.length = as.length
  | _, _, .nil => rfl
  | _, _, .cons _ r => by rw [List.length_cons, List.length_cons, r.length]
theorem ArgsOk.get {K : PySem.W.Frag} {H : Hp} : ∀ {vs : List V} {as : List Arg} {i : Nat} {a : Arg}, ArgsOk K H vs as → as[i]? = some a → ∃ v, vs[i]? = some v ∧ ArgOk K H v a
  | _, _, _, _, .nil, e => by simp at e
  | _, _, 0, _, .cons h _, e => by simp at e; subst e; exact ⟨_, rfl, h⟩
  | _, _, i + 1, _, .cons _ r, e => by
    obtain ⟨v, q, z⟩ := ArgsOk.get (i := i) r (by simpa using e)
    exact ⟨v, by simpa using q, z⟩
def cellsOf (N : List Str) (as : List Arg) : List Cell := as.map Arg.cell ++ List.replicate (N.length - as.length) .un
theorem env_start {P : Program} {w : World} {K : PySem.W.Frag} {H : Hp} {N : List Str} {vs : List V} {as : List Arg} (h : ArgsOk K H vs as) : EnvOk P w K H H (L2.start N vs) (cellsOf N as) := by
  have hl := h.length
  refine ⟨Same.refl H, by simp [L2.start, cellsOf, hl], fun i c x h1 h2 => ?_, fun i j a hi _ => ?_⟩
  · by_cases hi : i < as.length
    · unfold cellsOf at h1
      rw [List.getElem?_append_left (by simpa using hi), List.getElem?_map] at h1
      obtain ⟨a, ea, ec⟩ := Option.map_eq_some_iff.mp h1
      obtain ⟨v, ev, r⟩ := h.get ea
      unfold L2.start at h2
      rw [List.getElem?_append_left (by simp; omega), List.getElem?_map, ev] at h2
      have ex : x = some v := (Option.some.inj h2).symm
      subst ex ec
      cases a with
      | t d => exact ⟨v, rfl, r⟩
      | g d => exact ⟨v, rfl, r⟩
      | l ds => obtain ⟨a, vs, rfl, r1, r2⟩ := r; exact ⟨a, vs, rfl, r1, r2⟩
    · unfold cellsOf at h1
      rw [List.getElem?_append_right (by simp; omega), List.getElem?_replicate] at h1
      split at h1
      · cases h1; trivial
      · cases h1
  · exfalso
    obtain ⟨_, o, hc⟩ := hi
    unfold cellsOf at hc
    by_cases hi : i < as.length
    · rw [List.getElem?_append_left (by simpa using hi), List.getElem?_map] at hc
      obtain ⟨a, _, ec⟩ := Option.map_eq_some_iff.mp hc
      cases a <;> cases ec
    · rw [List.getElem?_append_right (by simp; omega), List.getElem?_replicate] at hc
      split at hc <;> cases hc

/-! ### promises: tuple data is handed back; a new list of tuple data is -/
def spE (K : PySem.W.Frag) (R : List Arg → PyData → Prop) : Sp := fun vs H Q _ => ∃ as d, ArgsOk K H vs as ∧ R as d ∧ ∀ v H', Same H H' → TD K H' v d → Q v H'
def spN (K : PySem.W.Frag) (R : List Arg → List PyData → Prop) : Sp := fun vs H Q _ => ∃ as ds, ArgsOk K H vs as ∧ R as ds ∧ ∀ a us H', H a = none → Same H H' → H' a = some (.lst us) → TDs K H' us ds → Q (.ref a) H'

def spG (K : PySem.W.Frag) (R : List Arg → PyData → Prop) : Sp := fun vs H Q _ => ∃ as d, ArgsOk K H vs as ∧ R as d ∧ ∀ v H', Same H H' → Dp K H' v d → Q v H'

def tRs (P : Program) (w : World) (K : PySem.W.Frag) (Γ : List Cell) (as : List Arg) : TA := fun σ H Q => ∃ H0, EnvOk P w K H0 H σ Γ ∧ ∀ vs H', Same H H' → ArgsOk K H' vs as → Q vs H'
abbrev DAr (X : Cx) (Γ : List Cell) (es : List Expr) (as : List Arg) : Prop := PA X es (tRs X.prog X.w X.K Γ as)
section
variable {X : Cx} {Γ : List Cell} {e : Expr} {es : List Expr} {d : PyData} {ds : List PyData} {as : List Arg} {pos : Pos}
theorem dr_nil : DAr X Γ [] [] := PA.wk pa_nil fun σ H Q ⟨H0, ok, q⟩ => q _ H (Same.refl H) .nil
theorem dr_t (h : DE X Γ e d) (hr : DAr X Γ es as) (hs : starEach (e :: es) X.env = (false, eval e X.env) :: starEach es X.env := by rfl) : DAr X Γ (e :: es) (.t d :: as) :=
  PA.wk (pa_cons h hr hs) fun σ H Q ⟨H0, ok, q⟩ => ⟨H0, ok, fun v H1 e1 r1 => ⟨H0, ok.mono e1, fun vs H2 e2 r2 => q _ _ (e1.trans e2) (.cons (TD.ex e2 r1) r2)⟩⟩
theorem dr_g (h : DG X Γ e d) (hr : DAr X Γ es as) (hs : starEach (e :: es) X.env = (false, eval e X.env) :: starEach es X.env := by rfl) : DAr X Γ (e :: es) (.g d :: as) :=
  PA.wk (pa_cons h hr hs) fun σ H Q ⟨H0, ok, q⟩ => ⟨H0, ok, fun v H1 e1 r1 => ⟨H0, ok.mono e1, fun vs H2 e2 r2 => q _ _ (e1.trans e2) (.cons (dpEx e2 r1) r2)⟩⟩
theorem dr_l (h : DL X Γ e ds) (hr : DAr X Γ es as) (hs : starEach (e :: es) X.env = (false, eval e X.env) :: starEach es X.env := by rfl) : DAr X Γ (e :: es) (.l ds :: as) :=
  PA.wk (pa_cons h hr hs) fun σ H Q ⟨H0, ok, q⟩ => ⟨H0, ok, fun a vs H1 e1 h1 r1 => ⟨H0, ok.mono e1, fun us H2 e2 r2 => q _ _ (e1.trans e2) (.cons ⟨a, vs, rfl, e2 _ _ h1, r1.ex e2⟩ r2)⟩⟩
variable {n : Str} {p : Pos} {CX : CXT} {k : Nat} {f : Addr} {fd : FuncData} {ps : List Str}
theorem de_call {R : List Arg → PyData → Prop} (F : FnOk X.prog X.w X.K X.mg X.base CX0 k f fd ps (spE X.K R)) (hr : Room k X.A) (hm : X.mg n = some (.ref f)) (hk : PySem.W.keepIn X.K (.ref f) = true) (hb : Binds X.K fd ps []) (ha : DAr X Γ (e :: es) as) (hR : R as d)
    (hg : Gl X n := by rfl) (hdb : (n == ("__debug__" : Str)) = false := by decide) (he : starEach (e :: es) X.env = (false, eval e X.env) :: starEach es X.env := by rfl) (hpl : (backTo pos (starEach es X.env)).any (·.1) = false := by rfl) : DE X Γ (.Call (.Name n p) (e :: es) [] pos) d :=
  PE.wk (pe_call F hr hg hm hk hb .nil pass0 ha hdb he hpl) fun σ H Q ⟨H0, ok, q⟩ => ⟨H0, ok, fun vs H1 e1 r1 => ⟨as, d, by rw [List.append_nil]; exact r1, hR, fun v H2 e2 r2 => q v H2 (e1.trans e2) r2⟩⟩
theorem dg_call {R : List Arg → PyData → Prop} (F : FnOk X.prog X.w X.K X.mg X.base CX0 k f fd ps (spG X.K R)) (hr : Room k X.A) (hm : X.mg n = some (.ref f)) (hk : PySem.W.keepIn X.K (.ref f) = true) (hb : Binds X.K fd ps []) (ha : DAr X Γ (e :: es) as) (hR : R as d)
    (hg : Gl X n := by rfl) (hdb : (n == ("__debug__" : Str)) = false := by decide) (he : starEach (e :: es) X.env = (false, eval e X.env) :: starEach es X.env := by rfl) (hpl : (backTo pos (starEach es X.env)).any (·.1) = false := by rfl) : DG X Γ (.Call (.Name n p) (e :: es) [] pos) d :=
  PE.wk (pe_call F hr hg hm hk hb .nil pass0 ha hdb he hpl) fun σ H Q ⟨H0, ok, q⟩ => ⟨H0, ok, fun vs H1 e1 r1 => ⟨as, d, by rw [List.append_nil]; exact r1, hR, fun v H2 e2 r2 => q v H2 (e1.trans e2) r2⟩⟩
theorem dn_call {R : List Arg → List PyData → Prop} (F : FnOk X.prog X.w X.K X.mg X.base CX0 k f fd ps (spN X.K R)) (hr : Room k X.A) (hm : X.mg n = some (.ref f)) (hk : PySem.W.keepIn X.K (.ref f) = true) (hb : Binds X.K fd ps []) (ha : DAr X Γ (e :: es) as) (hR : R as ds)
    (hg : Gl X n := by rfl) (hdb : (n == ("__debug__" : Str)) = false := by decide) (he : starEach (e :: es) X.env = (false, eval e X.env) :: starEach es X.env := by rfl) (hpl : (backTo pos (starEach es X.env)).any (·.1) = false := by rfl) : DN X Γ (.Call (.Name n p) (e :: es) [] pos) ds :=
  PE.wk (pe_call F hr hg hm hk hb .nil pass0 ha hdb he hpl) fun σ H Q ⟨H0, ok, q⟩ => ⟨H0, ok, fun vs H1 e1 r1 => ⟨as, ds, by rw [List.append_nil]; exact r1, hR, fun a us H2 n2 e2 h2 r2 => q a us H2 (e1.free n2) (e1.trans e2) h2 r2⟩⟩
end

/-! ### targets -/
/-- an item, where the base is Hb -/
def ItemOk (K : PySem.W.Frag) (Hb H : Hp) (v : V) : Arg → Prop
  | .t d => TD K H v d
  | .g d => Dp K Hb v d
  | .l ds => ∃ a vs, v = .ref a ∧ Hb a = some (.lst vs) ∧ TDs K Hb vs ds
inductive ItemsOk (K : PySem.W.Frag) (Hb H : Hp) : List V → List Arg → Prop
  | nil : ItemsOk K Hb H [] []
  | cons {v : V} {vs : List V} {a : Arg} {as : List Arg} : ItemOk K Hb H v a → ItemsOk K Hb H vs as → ItemsOk K Hb H (v :: vs) (a :: as)
theorem itemsT {K : PySem.W.Frag} {Hb H : Hp} : ∀ {vs : List V} {ds : List PyData}, TDs K H vs ds → ItemsOk K Hb H vs (ds.map .t)
  | _, [], h => by cases h; exact .nil
  | _, _ :: _, h => by
    cases h with
    | cons h1 h2 => exact .cons h1 (itemsT h2)
theorem itemsG {K : PySem.W.Frag} {Hb H : Hp} : ∀ {vs : List V} {ds : List PyData}, DpAll K Hb vs ds → ItemsOk K Hb H vs (ds.map .g)
  | _, [], h => by cases h; exact .nil
  | _, _ :: _, h => by
    cases h with
    | cons h1 h2 => exact .cons h1 (itemsG h2)
theorem dpAllLen {K : PySem.W.Frag} {H : Hp} : ∀ {vs : List V} {ds : List PyData}, DpAll K H vs ds → vs.length = ds.length
  | _, [], h => by cases h; rfl
  | _, _ :: _, h => by
    cases h with
    | cons _ h2 => rw [List.length_cons, List.length_cons, dpAllLen h2]
def gD (P : Program) (w : World) (K : PySem.W.Frag) (Γ : List Cell) (a : Arg) (Γ' : List Cell) (js : List Nat) : TG := fun v σ H Q =>
  ∃ Hb, Same Hb H ∧ ItemOk K Hb H v a ∧ ∀ σ', σ'.length = σ.length → (∀ i, i ∉ js → σ'[i]? = σ[i]?) → (∀ H0, Same Hb H0 → EnvOk P w K H0 H σ Γ → EnvOk P w K H0 H σ' Γ') → Q σ' H
def gDs (P : Program) (w : World) (K : PySem.W.Frag) (Γ : List Cell) (as : List Arg) (Γ' : List Cell) (js : List Nat) : TGs := fun vs σ H Q =>
  ∃ Hb, Same Hb H ∧ ItemsOk K Hb H vs as ∧ ∀ σ', σ'.length = σ.length → (∀ i, i ∉ js → σ'[i]? = σ[i]?) → (∀ H0, Same Hb H0 → EnvOk P w K H0 H σ Γ → EnvOk P w K H0 H σ' Γ') → Q σ' H
abbrev DGt (X : Cx) (Γ : List Cell) (tg : Expr) (a : Arg) (Γ' : List Cell) (js : List Nat) : Prop := PG X tg (gD X.prog X.w X.K Γ a Γ' js)
abbrev DGs (X : Cx) (Γ : List Cell) (tgs : List Expr) (as : List Arg) (Γ' : List Cell) (js : List Nat) : Prop := PGs X tgs (gDs X.prog X.w X.K Γ as Γ' js)
theorem PGs.wk {X : Cx} {ts : List Expr} {t t' : TGs} (h : PGs X ts t) (i : ∀ v σ H Q, t' v σ H Q → t v σ H Q) : PGs X ts t' := ⟨fun pins s σ H v u Q I r q => h.run pins s σ H v u Q I r (i v σ H Q q)⟩
theorem EnvOk.putA {P : Program} {w : World} {K : PySem.W.Frag} {H0 H Hb : Hp} {σ : L2.St} {Γ : List Cell} (ok : EnvOk P w K H0 H σ Γ) {i : Nat} {v : V} : ∀ {a : Arg}, ItemOk K Hb H v a → Same Hb H0 → EnvOk P w K H0 H (σ.set i (some v)) (Γ.set i a.cell)
  | .t _, h, _ => ok.putD h
  | .g _, h, e => ok.putG (dpEx e h)
  | .l _, ⟨_, _, h1, h2, h3⟩, e => by subst h1; exact ok.putR (e _ _ h2) (h3.ex e)
section
variable {X : Cx} {Γ Γ' Γ2 : List Cell} {tg : Expr} {tgs : List Expr} {d : PyData} {ds : List PyData} {a : Arg} {as : List Arg} {js js2 : List Nat} {pos : Pos}
theorem dg_name (j : Nat) {n : Str} (hi : X.N[j]? = some n := by rfl) (hN : X.N.Nodup := by assumption) (hx : Loc X.env.scope n := by first | exact .inl rfl | exact .inr rfl) (hf : X.fn n = true ∨ X.env.scope.names.lookup n = some .local := by first | exact .inl rfl | exact .inr rfl) : DGt X Γ (.Name n pos) a (Γ.set j a.cell) [j] :=
  PG.wk (pg_name hN hi hx hf) fun v σ H Q ⟨Hb, eb, r, q⟩ => q _ (by rw [List.length_set]) (fun i hi => by rw [List.getElem?_set_ne (fun z => hi (by rw [z]; exact List.mem_cons_self))]) fun H0 e ok => ok.putA r e
/-- a name whose value is of no use -/
theorem dg_un (j : Nat) {n : Str} (hi : X.N[j]? = some n := by rfl) (hN : X.N.Nodup := by assumption) (hx : Loc X.env.scope n := by first | exact .inl rfl | exact .inr rfl) (hf : X.fn n = true ∨ X.env.scope.names.lookup n = some .local := by first | exact .inl rfl | exact .inr rfl) : DGt X Γ (.Name n pos) a (Γ.set j .un) [j] :=
  PG.wk (pg_name hN hi hx hf) fun v σ H Q ⟨Hb, eb, r, q⟩ => q _ (by rw [List.length_set]) (fun i hi => by rw [List.getElem?_set_ne (fun z => hi (by rw [z]; exact List.mem_cons_self))]) fun H0 _ ok => ok.put trivial fun _ _ _ e => by cases e
theorem dgs_nil : DGs X Γ [] [] Γ [] := PGs.wk pgs_nil fun vs σ H Q ⟨Hb, eb, r, q⟩ => by
  cases r
  exact ⟨rfl, q σ rfl (fun _ _ => rfl) fun _ _ ok => ok⟩
theorem dgs_cons (h : DGt X Γ tg a Γ' js) (hr : DGs X Γ' tgs as Γ2 js2) (hs : (assignEach (tg :: tgs) X.env).map (·.2) = assign tg X.env :: (assignEach tgs X.env).map (·.2) := by rfl) : DGs X Γ (tg :: tgs) (a :: as) Γ2 (js ++ js2) :=
  PGs.wk (pgs_cons h hr hs) fun vs σ H Q ⟨Hb, eb, r, q⟩ => by
    cases r with
    | cons r1 r2 =>
      refine ⟨_, _, rfl, Hb, eb, r1, fun σ1 l1 o1 k1 => ⟨Hb, eb, r2, fun σ2 l2 o2 k2 => q σ2 (l2.trans l1) (fun i hi => ?_) fun H0 e ok => k2 H0 e (k1 H0 e ok)⟩⟩
      rw [o2 i (fun z => hi (List.mem_append_right _ z)), o1 i (fun z => hi (List.mem_append_left _ z))]
theorem dg_tup {k : Nat} (h : DGs X Γ tgs (ds.map .t) Γ' js) (hc : X.calm = true := by rfl) (hn : (assignEach tgs X.env).length = ds.length := by rfl) (hst : (assignEach tgs X.env).findIdx? (·.1) = none := by rfl) : DGt X Γ (.Tuple tgs k pos) (.t (.tuple ds)) Γ' js :=
  PG.wk (pg_tup hc h hn hst) fun v σ H Q ⟨Hb, eb, r, q⟩ => by
    have r' : TD X.K H v (.tuple ds) := r
    cases r' with
    | tup h1 h2 => exact ⟨_, _, rfl, h1, h2.length, Hb, eb, itemsT h2, q⟩
theorem dg_tupG {k : Nat} (h : DGs X Γ tgs (ds.map .g) Γ' js) (hc : X.calm = true := by rfl) (hn : (assignEach tgs X.env).length = ds.length := by rfl) (hst : (assignEach tgs X.env).findIdx? (·.1) = none := by rfl) : DGt X Γ (.Tuple tgs k pos) (.g (.tuple ds)) Γ' js :=
  PG.wk (pg_tup hc h hn hst) fun v σ H Q ⟨Hb, eb, r, q⟩ => by
    have r' : Dp X.K Hb v (.tuple ds) := r
    cases r' with
    | tup h1 h2 => exact ⟨_, _, rfl, sqTSame eb h1, dpAllLen h2, Hb, eb, itemsG h2, q⟩
end

/-! ### what is walked -/
/-- J gives what reads as the items, as long as all of Hb stands; the base may grow by what is new -/
def Walks (K : PySem.W.Frag) (J : It) (as : List Arg) (Hb : Hp) : Prop := ∀ i H, Same Hb H → (∀ a, as[i]? = some a → J.go i H ∧ ∀ x H', J.yld i H x H' → Same H H' ∧ ∃ Hc, Same Hb Hc ∧ Same Hc H' ∧ (∀ b u, Hc b = some u → Hb b = none → H b = none) ∧ ItemOk K Hc H' x a) ∧ (i = as.length → J.stop i H)
theorem EnvOk.rebase {P : Program} {w : World} {K : PySem.W.Frag} {Hb Hc H H' : Hp} {σ : L2.St} {Γ : List Cell} (ok : EnvOk P w K Hb H σ Γ) (e : Same H H') (e1 : Same Hb Hc) (e2 : Same Hc H') (n : ∀ b u, Hc b = some u → Hb b = none → H b = none) : EnvOk P w K Hc H' σ Γ := by
  have ok' := ok.mono e
  refine ⟨e2, ok.len, fun i c x h1 h2 => ?_, ok.apart⟩
  have r := ok'.at_ i c x h1 h2
  cases c with
  | un => trivial
  | dat d => exact r
  | gd d => obtain ⟨v, e, q⟩ := r; exact ⟨v, e, dpEx e1 q⟩
  | rdl ds => obtain ⟨a, vs, e, q, q2⟩ := r; exact ⟨a, vs, e, e1 _ _ q, q2.ex e1⟩
  | own o =>
    obtain ⟨a, ea, na, q⟩ := r
    refine ⟨a, ea, ?_, q⟩
    obtain ⟨_, o', _, q0⟩ := ok.ownAt (i := i) (a := a) ⟨by rw [h2, ea], o, h1⟩
    obtain ⟨u0, hu0⟩ := q0.some
    cases hc : Hc a with
    | none => rfl
    | some u => rw [n a u hc na] at hu0; cases hu0
def tI (P : Program) (w : World) (K : PySem.W.Frag) (Γ : List Cell) (as : List Arg) : TI := fun σ H R => ∃ H0, EnvOk P w K H0 H σ Γ ∧ ∀ J H1 Hb, Same H H1 → Same H0 Hb → (∀ a u, H a = some u → (∀ xs, ¬ Rd H a (.tup xs)) → H0 a = none → Hb a = none) → EnvOk P w K Hb H1 σ Γ → Walks K J as Hb → R J H1
abbrev DI (X : Cx) (Γ : List Cell) (tg e : Expr) (as : List Arg) : Prop := PI X tg e (tI X.prog X.w X.K Γ as)
/-- items that are tuple data -/
def WalksT (K : PySem.W.Frag) (J : It) (ds : List PyData) (Hb : Hp) : Prop := ∀ i H, Same Hb H → (∀ d, ds[i]? = some d → J.go i H ∧ ∀ x H', J.yld i H x H' → Same H H' ∧ TD K H' x d) ∧ (i = ds.length → J.stop i H)
theorem WalksT.w {K : PySem.W.Frag} {J : It} {α : Type} {xs : List α} {enc : α → PyData} {Hb : Hp} (h : WalksT K J (xs.map enc) Hb) : Walks K J (xs.map fun x => .t (enc x)) Hb := fun i H e => by
  refine ⟨fun a ha => ?_, fun hi => (h i H e).2 (by rw [hi, List.length_map, List.length_map])⟩
  rw [List.getElem?_map] at ha
  obtain ⟨x, hx, rfl⟩ := Option.map_eq_some_iff.mp ha
  obtain ⟨g, y⟩ := (h i H e).1 (enc x) (by rw [List.getElem?_map, hx]; rfl)
  refine ⟨g, fun v H' hy => ?_⟩
  obtain ⟨e1, r⟩ := y v H' hy
  exact ⟨e1, Hb, Same.refl Hb, e.trans e1, fun b u h1 h2 => (by rw [h1] at h2; cases h2), r⟩
section
variable {P : Program} {w : World} {K : PySem.W.Frag} {H0 H H1 Hb : Hp} {σ : L2.St} {Γ : List Cell}
theorem walksTup {a : Addr} {vs : List V} {ds : List PyData} (s : SqT K Hb a vs) (r : TDs K Hb vs ds) : WalksT K (Itt K a) ds Hb := fun i H e => by
  have s' := sqTSame e s
  have r' := r.ex e
  refine ⟨fun d hd => ?_, fun hi => ⟨vs, s', by rw [r'.length, hi]; exact Nat.le_refl _⟩⟩
  obtain ⟨v, hv, rv⟩ := r'.get hd
  refine ⟨⟨vs, v, s', hv⟩, fun x H' ⟨e1, e2⟩ => ?_⟩
  have ex : x = v := Option.some.inj ((e2 vs s').symm.trans hv)
  subst e1 ex
  exact ⟨Same.refl _, rv⟩
theorem walksLst {a : Addr} {vs : List V} {ds : List PyData} (s : SqL K Hb a vs) (r : TDs K Hb vs ds) : WalksT K (Itl K a) ds Hb := fun i H e => by
  have s' := sqLSame e s
  have r' := r.ex e
  refine ⟨fun d hd => ?_, fun hi => ⟨vs, s', by rw [r'.length, hi]; exact Nat.le_refl _⟩⟩
  obtain ⟨v, hv, rv⟩ := r'.get hd
  refine ⟨⟨vs, v, s', hv⟩, fun x H' ⟨e1, e2⟩ => ?_⟩
  have ex : x = v := Option.some.inj ((e2 vs s').symm.trans hv)
  subst e1 ex
  exact ⟨Same.refl _, rv⟩
theorem walksRng {n : Nat} : WalksT K (Itr 0 n) ((List.range n).map fun i => .int (i : Nat)) Hb := fun i H e => by
  refine ⟨fun d hd => ?_, fun hi => ?_⟩
  · rw [List.getElem?_map] at hd
    obtain ⟨j, hj, ed⟩ := Option.map_eq_some_iff.mp hd
    obtain ⟨hl, ej⟩ := List.getElem?_eq_some_iff.mp hj
    have hj' : i = j := by rw [← ej, List.getElem_range]
    have hin : i < n := by simpa using hl
    refine ⟨hin, fun x H' ⟨e1, e2⟩ => ?_⟩
    subst e1 e2 hj'
    rw [← ed]
    refine ⟨Same.refl _, ?_⟩
    rw [Int.zero_add]
    exact .int _
  · show n ≤ i
    rw [hi]
    simp
/-- items behind their places -/
def enumD (ds : List PyData) : List PyData := (ds.zipIdx).map fun p => .tuple [.int (p.2 : Nat), p.1]
theorem enumD_map {α : Type} {xs : List α} {enc : α → PyData} : enumD (xs.map enc) = xs.zipIdx.map fun p => .tuple [.int (p.2 : Nat), enc p.1] := by
  unfold enumD
  rw [List.zipIdx_map, List.map_map]; rfl
theorem enumD_get {ds : List PyData} {i : Nat} {d : PyData} (h : (enumD ds)[i]? = some d) : ∃ x, ds[i]? = some x ∧ d = .tuple [.int (i : Nat), x] := by
  unfold enumD at h
  rw [List.getElem?_map, List.getElem?_zipIdx] at h
  cases q : ds[i]? with
  | none => rw [q] at h; cases h
  | some x =>
    rw [q] at h
    simp at h
    exact ⟨x, rfl, h.symm⟩
theorem enumD_len (ds : List PyData) : (enumD ds).length = ds.length := by simp [enumD]
theorem walksPair {J : It} {ds : List PyData} (n : J.stop = J.stop) (go : ∀ i H, Same Hb H → i < ds.length → J.go i H) (st : ∀ i H, Same Hb H → i = ds.length → J.stop i H)
    (yl : ∀ i H x H', Same Hb H → i < ds.length → J.yld i H x H' → ∃ T a b, x = .ref T ∧ H T = none ∧ H' = upd H T (.tup [a, b]) ∧ ∀ d, ds[i]? = some d → ∃ u v, d = .tuple [u, v] ∧ TD K H a u ∧ TD K H b v) : WalksT K J ds Hb := fun i H e => by
  refine ⟨fun d hd => ?_, fun hi => st i H e hi⟩
  have hl := (List.getElem?_eq_some_iff.mp hd).1
  refine ⟨go i H e hl, fun x H' y => ?_⟩
  obtain ⟨T, a, b, rfl, nT, rfl, k⟩ := yl i H x H' e hl y
  obtain ⟨u, v, rfl, ra, rb⟩ := k d hd
  have s := sameNew (o := .tup [a, b]) nT
  exact ⟨s, .tup (.of upd_same) (.cons (TD.ex s ra) (.cons (TD.ex s rb) .nil))⟩
theorem walksEnT {a : Addr} {vs : List V} {ds : List PyData} (s : SqT K Hb a vs) (r : TDs K Hb vs ds) : WalksT K (ItEt K a) (enumD ds) Hb := by
  refine walksPair rfl (fun i H e hi => ?_) (fun i H e hi => ⟨vs, sqTSame e s, by rw [r.length, hi, enumD_len]; exact Nat.le_refl _⟩) fun i H x H' e hi y => ?_
  · rw [enumD_len, ← r.length] at hi
    exact ⟨vs, vs[i], sqTSame e s, List.getElem?_eq_getElem hi⟩
  · obtain ⟨T, x, h1, h2, h3, h4⟩ := y
    refine ⟨T, .int (i : Nat), x, h1, h2, h3, fun d hd => ?_⟩
    obtain ⟨z, hz, rfl⟩ := enumD_get hd
    obtain ⟨v, hv, rv⟩ := (r.ex e).get hz
    have ex : x = v := Option.some.inj ((h4 vs (sqTSame e s)).symm.trans hv)
    exact ⟨_, _, rfl, .int _, by rw [ex]; exact rv⟩
theorem walksEnL {a : Addr} {vs : List V} {ds : List PyData} (s : SqL K Hb a vs) (r : TDs K Hb vs ds) : WalksT K (Ite K a) (enumD ds) Hb := by
  refine walksPair rfl (fun i H e hi => ?_) (fun i H e hi => ⟨vs, sqLSame e s, by rw [r.length, hi, enumD_len]; exact Nat.le_refl _⟩) fun i H x H' e hi y => ?_
  · rw [enumD_len, ← r.length] at hi
    exact ⟨vs, vs[i], sqLSame e s, List.getElem?_eq_getElem hi⟩
  · obtain ⟨T, x, h1, h2, h3, h4⟩ := y
    refine ⟨T, .int (i : Nat), x, h1, h2, h3, fun d hd => ?_⟩
    obtain ⟨z, hz, rfl⟩ := enumD_get hd
    obtain ⟨v, hv, rv⟩ := (r.ex e).get hz
    have ex : x = v := Option.some.inj ((h4 vs (sqLSame e s)).symm.trans hv)
    exact ⟨_, _, rfl, .int _, by rw [ex]; exact rv⟩
/-- zip of two that are equally long -/
def zipD (ds es : List PyData) : List PyData := (ds.zip es).map fun p => .tuple [p.1, p.2]
theorem zipD_map {α β : Type} {xs : List α} {ys : List β} {enc : α → PyData} {enc2 : β → PyData} : zipD (xs.map enc) (ys.map enc2) = (xs.zip ys).map fun p => .tuple [enc p.1, enc2 p.2] := by
  unfold zipD
  rw [List.zip_map, List.map_map]; rfl
theorem walksZpT {a b : Addr} {vs us : List V} {ds es : List PyData} (s : SqT K Hb a vs) (r : TDs K Hb vs ds) (s2 : SqT K Hb b us) (r2 : TDs K Hb us es) : WalksT K (RZ.ItzT K a b) (zipD ds es) Hb := by
  have hl : (zipD ds es).length = min ds.length es.length := by simp [zipD]
  refine walksPair rfl (fun i H e hi => ?_) (fun i H e hi => ⟨vs, us, sqTSame e s, sqTSame e s2, ?_⟩) fun i H x H' e hi y => ?_
  · rw [hl, ← r.length, ← r2.length] at hi
    have h1 : i < vs.length := by omega
    have h2 : i < us.length := by omega
    exact ⟨vs, us, vs[i], us[i], sqTSame e s, sqTSame e s2, List.getElem?_eq_getElem h1, List.getElem?_eq_getElem h2⟩
  · rw [hl] at hi
    have := r.length
    have := r2.length
    omega
  · obtain ⟨T, x, z, h1, h2, h3, h4, h5⟩ := y
    refine ⟨T, x, z, h1, h2, h3, fun d hd => ?_⟩
    unfold zipD at hd
    rw [List.getElem?_map] at hd
    obtain ⟨⟨u, v⟩, hq, rfl⟩ := Option.map_eq_some_iff.mp hd
    rw [List.getElem?_zip_eq_some] at hq
    obtain ⟨xv, hx, rx⟩ := (r.ex e).get hq.1
    obtain ⟨zv, hz, rz⟩ := (r2.ex e).get hq.2
    have ex : x = xv := Option.some.inj ((h4 vs (sqTSame e s)).symm.trans hx)
    have ez : z = zv := Option.some.inj ((h5 us (sqTSame e s2)).symm.trans hz)
    exact ⟨u, v, rfl, by rw [ex]; exact rx, by rw [ez]; exact rz⟩
end
section
variable {X : Cx} {Γ : List Cell} {tg e e2 : Expr} {d : PyData} {ds es : List PyData} {p pos tpos : Pos} {elts : List Expr} {kk : Nat}
variable {α β : Type} {xs : List α} {ys : List β} {enc : α → PyData} {enc2 : β → PyData}
theorem di_tup (h : DE X Γ e (.tuple (xs.map enc))) : DI X Γ tg e (xs.map fun x => .t (enc x)) := PI.wk (pi_tup h) fun σ H R ⟨H0, ok, q⟩ => ⟨H0, ok, fun v H1 e1 r1 => by
  cases r1 with
  | @tup a vs _ h1 h2 =>
    obtain ⟨Hb, b1, b2, b3, b4, b5, b6⟩ := ok.grow e1
    exact ⟨a, rfl, ⟨vs, h1⟩, q _ H1 Hb e1 b1 b6 b3 (walksTup (b5.sqT h1) (h2.at b5)).w⟩⟩
/-- a new list -/
theorem di_new (h : DN X Γ e (xs.map enc)) : DI X Γ tg e (xs.map fun x => .t (enc x)) := PI.wk (pi_list h) fun σ H R ⟨H0, ok, q⟩ => ⟨H0, ok, fun a vs H1 n e1 h1 h2 => by
  obtain ⟨Hb, b1, b2, b3, b4, b5, b6⟩ := ok.grow e1
  exact ⟨a, rfl, ⟨vs, .of h1⟩, q _ H1 Hb e1 b1 b6 b3 (walksLst (.of (b4 a _ h1 n)) (h2.at b5)).w⟩⟩
/-- a list that nobody writes, by its name -/
theorem di_var (i : Nat) {n : Str} (hc : Γ[i]? = some (.rdl (xs.map enc)) := by rfl) (hN : X.N[i]? = some n := by rfl) (hv : Vis X.env.scope n := by first | exact Or.inl rfl | exact Or.inr (Or.inl rfl) | exact Or.inr (Or.inr rfl)) (hd : (n == ("__debug__" : Str)) = false := by decide) (hcd : (n == ("__classdict__" : Str)) = false := by decide) : DI X Γ tg (.Name n pos) (xs.map fun x => .t (enc x)) :=
  PI.wk (pi_list (pe_var hN hv hd hcd)) fun σ H R ⟨H0, ok, q⟩ => by
    obtain ⟨a, vs, e, s, r⟩ := ok.rdl hc
    exact ⟨.ref a, e, a, rfl, ⟨vs, .of (ok.ex _ _ s)⟩, q _ H H0 (Same.refl H) (Same.refl H0) (fun _ _ _ _ n => n) ok (walksLst (.of s) r).w⟩
theorem di_range {j : Int} (h : DE X Γ e (.int j)) (hm : X.mg "range" = none) (h0 : 0 ≤ j := by omega) (h1 : j < 2 ^ 62 := by omega) (hg : Gl X "range" := by rfl) (hs : starEach [e] X.env = [(false, eval e X.env)] := by rfl) : DI X Γ tg (.Call (.Name "range" p) [e] [] pos) ((List.range j.toNat).map fun i : Nat => .t (.int (i : Nat))) :=
  PI.wk (pi_range1 hg hm (pa_cons h pa_nil hs) hs) fun σ H R ⟨H0, ok, q⟩ => ⟨H0, ok, fun v H1 e1 r1 => by
    cases r1
    obtain ⟨Hb, b1, b2, b3, b4, b5, b6⟩ := ok.grow e1
    exact ⟨j, rfl, by omega, h1, q _ H1 Hb e1 b1 b6 b3 walksRng.w⟩⟩
theorem di_enT (h : DE X Γ e (.tuple (xs.map enc))) (hm : X.mg "enumerate" = none) (hg : Gl X "enumerate" := by rfl) (hs : starEach [e] X.env = [(false, eval e X.env)] := by rfl) : DI X Γ (.Tuple elts kk tpos) (.Call (.Name "enumerate" p) [e] [] pos) (xs.zipIdx.map fun p => .t (.tuple [.int (p.2 : Nat), enc p.1])) :=
  PI.wk (pi_enT hg hm (pa_cons h pa_nil hs) hs) fun σ H R ⟨H0, ok, q⟩ => ⟨H0, ok, fun v H1 e1 r1 => by
    cases r1 with
    | @tup a vs _ h1 h2 =>
      obtain ⟨Hb, b1, b2, b3, b4, b5, b6⟩ := ok.grow e1
      exact ⟨a, vs, rfl, h1, q _ H1 Hb e1 b1 b6 b3 (WalksT.w (enumD_map ▸ walksEnT (b5.sqT h1) (h2.at b5)))⟩⟩
theorem di_enN (h : DN X Γ e (xs.map enc)) (hm : X.mg "enumerate" = none) (hg : Gl X "enumerate" := by rfl) (hs : starEach [e] X.env = [(false, eval e X.env)] := by rfl) : DI X Γ (.Tuple elts kk tpos) (.Call (.Name "enumerate" p) [e] [] pos) (xs.zipIdx.map fun p => .t (.tuple [.int (p.2 : Nat), enc p.1])) :=
  PI.wk (pi_enum hg hm (pa_cons h pa_nil hs) hs) fun σ H R ⟨H0, ok, q⟩ => ⟨H0, ok, fun a vs H1 n e1 h1 h2 => by
    obtain ⟨Hb, b1, b2, b3, b4, b5, b6⟩ := ok.grow e1
    exact ⟨a, vs, rfl, .of h1, q _ H1 Hb e1 b1 b6 b3 (WalksT.w (enumD_map ▸ walksEnL (.of (b4 a _ h1 n)) (h2.at b5)))⟩⟩
theorem di_enV (i : Nat) {n : Str} {pn : Pos} (hm : X.mg "enumerate" = none) (hc : Γ[i]? = some (.rdl (xs.map enc)) := by rfl) (hN : X.N[i]? = some n := by rfl) (hv : Vis X.env.scope n := by first | exact Or.inl rfl | exact Or.inr (Or.inl rfl) | exact Or.inr (Or.inr rfl)) (hd : (n == ("__debug__" : Str)) = false := by decide) (hcd : (n == ("__classdict__" : Str)) = false := by decide)
    (hg : Gl X "enumerate" := by rfl) (hs : starEach [.Name n pn] X.env = [(false, eval (.Name n pn) X.env)] := by rfl) : DI X Γ (.Tuple elts kk tpos) (.Call (.Name "enumerate" p) [.Name n pn] [] pos) (xs.zipIdx.map fun p => .t (.tuple [.int (p.2 : Nat), enc p.1])) :=
  PI.wk (pi_enum hg hm (pa_cons (pe_var hN hv hd hcd) pa_nil hs) hs) fun σ H R ⟨H0, ok, q⟩ => by
    obtain ⟨a, vs, e, s, r⟩ := ok.rdl hc
    exact ⟨.ref a, e, a, vs, rfl, .of (ok.ex _ _ s), q _ H H0 (Same.refl H) (Same.refl H0) (fun _ _ _ _ n => n) ok (WalksT.w (enumD_map ▸ walksEnL (.of s) r))⟩
theorem di_zpT (h : DE X Γ e (.tuple (xs.map enc))) (h2 : DE X Γ e2 (.tuple (ys.map enc2))) (hm : X.mg "zip" = none) (hg : Gl X "zip" := by rfl) (hs : starEach [e, e2] X.env = (false, eval e X.env) :: starEach [e2] X.env := by rfl) (hs2 : starEach [e2] X.env = (false, eval e2 X.env) :: starEach [] X.env := by rfl) (hpl : (backTo pos (starEach [e2] X.env)).any (·.1) = false := by rfl) :
    DI X Γ (.Tuple elts kk tpos) (.Call (.Name "zip" p) [e, e2] [] pos) ((xs.zip ys).map fun p => .t (.tuple [enc p.1, enc2 p.2])) :=
  PI.wk (RZ.pi_zipA hg hm (pa_cons h (pa_cons h2 pa_nil hs2) hs) hs hpl) fun σ H R ⟨H0, ok, q⟩ => ⟨H0, ok, fun v H1 e1 r1 => ⟨H0, ok.mono e1, fun u H2 e2 r2 => by
    have r1' := TD.ex e2 r1
    cases r1' with
    | @tup a vs _ h1 k1 =>
      cases r2 with
      | @tup b us _ h2 k2 =>
        obtain ⟨Hb, b1, b2, b3, b4, b5, b6⟩ := ok.grow (e1.trans e2)
        exact ⟨a, b, vs, us, rfl, .inr ⟨h1, h2, q _ H2 Hb (e1.trans e2) b1 b6 b3 (WalksT.w (zipD_map ▸ walksZpT (b5.sqT h1) (k1.at b5) (b5.sqT h2) (k2.at b5)))⟩⟩⟩⟩
end
end K54
set_option Elab.async false
set_option linter.all false
set_option autoImplicit false
set_option maxRecDepth 100000
set_option maxHeartbeats 1000000
/-! K54, the data layer, 4: comprehensions, statements, defs -/
namespace K54
open PySem PySem.Spec PyProof.Rows L2

/-! ### slots forgotten -/
section
variable {P : Program} {w : World} {K : PySem.W.Frag} {H0 H : Hp}
theorem EnvOk.drop {σ : L2.St} {Γ : List Cell} (ok : EnvOk P w K H0 H σ Γ) (i : Nat) (x : Option V) : EnvOk P w K H0 H (σ.set i x) (Γ.set i .un) := by
  refine ⟨ok.ex, by rw [List.length_set, List.length_set, ok.len], fun j c y h1 h2 => ?_, fun j k a hj hk => ?_⟩
  · rcases getSetC h1 with ⟨e1, e2, _⟩ | ⟨e1, e2⟩
    · rw [e2]; trivial
    · rcases getSetC h2 with ⟨e3, _, _⟩ | ⟨_, e4⟩
      · exact absurd e3 e1
      · exact ok.at_ j c y e2 e4
  · have back : ∀ j, OwnAt (σ.set i x) (Γ.set i .un) j a → OwnAt σ Γ j a := fun j hj => by
      obtain ⟨j1, o, j2⟩ := hj
      rcases getSetC j2 with ⟨_, e2, _⟩ | ⟨e1, e2⟩
      · cases e2
      · rcases getSetC j1 with ⟨e3, _, _⟩ | ⟨_, e4⟩
        · exact absurd e3 e1
        · exact ⟨e4, o, e2⟩
    exact ok.apart j k a (back j hj) (back k hk)
def wipeC (Γ : List Cell) : List Nat → List Cell
  | [] => Γ
  | v :: vs => (wipeC Γ vs).set v .un
theorem EnvOk.wipe {σ : L2.St} {Γ : List Cell} (ok : EnvOk P w K H0 H σ Γ) : ∀ vs : List Nat, EnvOk P w K H0 H (L2.wipe σ vs) (wipeC Γ vs)
  | [] => ok
  | v :: vs => (EnvOk.wipe ok vs).drop v none
end
theorem wipe_get (σ : L2.St) (i : Nat) : ∀ vs : List Nat, (L2.wipe σ vs)[i]? = if i ∈ vs ∧ i < σ.length then some none else σ[i]?
  | [] => by simp [L2.wipe]
  | v :: vs => by
    have ih := wipe_get σ i vs
    have hl := wipe_length σ vs
    unfold L2.wipe
    by_cases e : i = v
    · subst e
      by_cases h : i < σ.length
      · rw [List.getElem?_set_self (by omega), if_pos ⟨List.mem_cons_self, h⟩]
      · rw [List.getElem?_eq_none (by rw [List.length_set]; omega), if_neg (fun z => h z.2), List.getElem?_eq_none (by omega)]
    · rw [List.getElem?_set_ne (Ne.symm e), ih]
      have q : (i ∈ v :: vs ∧ i < σ.length) ↔ (i ∈ vs ∧ i < σ.length) := by simp [e]
      by_cases h : i ∈ vs ∧ i < σ.length
      · rw [if_pos h, if_pos (q.mpr h)]
      · rw [if_neg h, if_neg (fun z => h (q.mp z))]
theorem wipe_eq {σ σ' : L2.St} {js vs : List Nat} (hl : σ'.length = σ.length) (hs : ∀ j ∈ js, j ∈ vs) (h : ∀ i, i ∉ js → σ'[i]? = (L2.wipe σ vs)[i]?) : L2.wipe σ' vs = L2.wipe σ vs := by
  refine List.ext_getElem? fun i => ?_
  rw [wipe_get, wipe_get, hl]
  by_cases c : i ∈ vs ∧ i < σ.length
  · rw [if_pos c, if_pos c]
  · rw [if_neg c, if_neg c]
    by_cases hi : i ∈ js
    · have hn : ¬ i < σ.length := fun z => c ⟨hs i hi, z⟩
      rw [List.getElem?_eq_none (by omega), List.getElem?_eq_none (by omega)]
    · rw [h i hi, wipe_get, if_neg c]

/-! ### tests of a comprehension -/
section
variable {X : Cx} {Γ : List Cell} {c : Expr} {b : Bool}
theorem dts_nil : DTs X Γ [] true := PTs.wk pts_nil fun σ H Q ⟨H0, ok, q⟩ => q H (Same.refl H)
theorem dts_one (h : DT X Γ c b) : DTs X Γ [c] b := pts_one h
end

/-! ### comprehensions -/
theorem take_succ_of {α : Type} {l : List α} {i : Nat} {x : α} (h : l[i]? = some x) : l.take (i + 1) = l.take i ++ [x] := by
  rw [List.take_add_one, h]; rfl
section
variable {X : Cx} {Γ : List Cell} {tg iter elt : Expr} {ifs : List Expr} {scope : Scope} {own : List (Str × Nat)} {pos : Pos} {α : Type} {xs : List α} {enc : α → Arg} {p : α → Bool} {f : α → PyData}
/-- what a turn of the block does -/
def BlkD (X : Cx) (scope : Scope) (Γ : List Cell) (tg elt : Expr) (ifs : List Expr) (vs : List Nat) (enc : α → Arg) (p : α → Bool) (f : α → PyData) (x : α) (B : List Cell) (js : List Nat) : Prop :=
  (∀ j ∈ js, j ∈ vs) ∧ ∀ (s : Shared) (H : Hp) (C : Addr) (cl : List (Str × Addr)) (fp : List Addr), DGt (X.blk s H scope (compEnvC scope cl C X.env) fp) (wipeC Γ vs) tg (enc x) B js ∧
    DTs (X.blk s H scope (compEnvC scope cl C X.env) fp) B ifs (p x) ∧ (p x = true → DE (X.blk s H scope (compEnvC scope cl C X.env) fp) B elt (f x))
structure BIx (X : Cx) (scope : Scope) (Γ : List Cell) (tg elt : Expr) (ifs : List Expr) (vs : List Nat) (enc : α → Arg) (p : α → Bool) (f : α → PyData) where
  x : α
  B : List Cell
  js : List Nat
  ok : BlkD X scope Γ tg elt ifs vs enc p f x B js
theorem lc_parts : 
    (∀ (s : Shared) (H : Hp) (C : Addr) (cl : List (Str × Addr)) (fp : List Addr), PG (X.blk s H scope (compEnvC scope cl C X.env) fp) tg (fun v σ H Q => ∃ q : BIx X scope Γ tg elt ifs (own.map (·.2)) enc p f, gD X.prog X.w X.K (wipeC Γ (own.map (·.2))) (enc q.x) q.B q.js v σ H Q)) ∧
    (∀ (s : Shared) (H : Hp) (C : Addr) (cl : List (Str × Addr)) (fp : List Addr), PTs (X.blk s H scope (compEnvC scope cl C X.env) fp) ifs (fun σ H Q => ∃ q : BIx X scope Γ tg elt ifs (own.map (·.2)) enc p f, tB1 X.prog X.w X.K q.B (p q.x) σ H Q)) ∧
    (∀ (s : Shared) (H : Hp) (C : Addr) (cl : List (Str × Addr)) (fp : List Addr), PE (X.blk s H scope (compEnvC scope cl C X.env) fp) elt (fun σ H Q => ∃ q : BIx X scope Γ tg elt ifs (own.map (·.2)) enc p f, p q.x = true ∧ tD X.prog X.w X.K q.B (f q.x) σ H Q)) :=
  ⟨fun s H C cl fp => PG.ex fun q => (q.ok.2 s H C cl fp).1, fun s H C cl fp => PTs.ex fun q => (q.ok.2 s H C cl fp).2.1, fun s H C cl fp => PE.ex fun q => peIf fun hp => (q.ok.2 s H C cl fp).2.2 hp⟩
theorem lc_read (hz : xs.length ≤ 100000) (hb : ∀ x ∈ xs, ∃ B js, BlkD X scope Γ tg elt ifs (own.map (·.2)) enc p f x B js) (σ : L2.St) (H : Hp) (Q : VK) (h : tN X.prog X.w X.K Γ ((xs.filter p).map f) σ H Q) :
    tLc (tI X.prog X.w X.K Γ (xs.map enc)) (fun v σ H Q => ∃ q : BIx X scope Γ tg elt ifs (own.map (·.2)) enc p f, gD X.prog X.w X.K (wipeC Γ (own.map (·.2))) (enc q.x) q.B q.js v σ H Q)
      (fun σ H Q => ∃ q : BIx X scope Γ tg elt ifs (own.map (·.2)) enc p f, tB1 X.prog X.w X.K q.B (p q.x) σ H Q) (fun σ H Q => ∃ q : BIx X scope Γ tg elt ifs (own.map (·.2)) enc p f, p q.x = true ∧ tD X.prog X.w X.K q.B (f q.x) σ H Q) (own.map (·.2)) σ H Q := by
  obtain ⟨H0, ok, q⟩ := h
  refine ⟨H0, ok, fun J H1 Hb e1 b1 _ okb wk D nD => ?_⟩
  refine ⟨fun i m H' => i ≤ xs.length ∧ m = xs.length - i ∧ Same H1 H' ∧ ∃ us, H' D = some (.lst us) ∧ TDs X.K H' us (((xs.take i).filter p).map f), ⟨_, Nat.zero_le _, rfl, sameNew nD, [], upd_same, .nil⟩, ?_⟩
  rintro i m H' ⟨hi, rfl, e', us, hD, rD⟩
  have eb : Same Hb H' := okb.ex.trans e'
  by_cases hlt : i < xs.length
  · have hx : xs[i]? = some xs[i] := List.getElem?_eq_getElem hlt
    generalize xs[i] = x at hx
    obtain ⟨go, yl⟩ := (wk i H' eb).1 (enc x) (by rw [List.getElem?_map, hx]; rfl)
    refine .inr ⟨go, fun H'' => i + 1 ≤ xs.length ∧ Same H1 H'' ∧ ∃ us, H'' D = some (.lst us) ∧ TDs X.K H'' us (((xs.take (i + 1)).filter p).map f), fun H'' ⟨k1, k2, k3⟩ => ⟨_, ?_, k1, rfl, k2, k3⟩, fun v H'' y => ?_⟩
    · omega
    · obtain ⟨e2, Hc, c1, c2, c3, rv⟩ := yl v H'' y
      obtain ⟨B, js, hB⟩ := hb x (List.mem_of_getElem? hx)
      refine ⟨⟨x, B, js, hB⟩, Hc, c2, rv, fun σ' l' o' k' => ⟨wipe_eq (by rw [l', wipe_length]) hB.1 o', ?_⟩⟩
      have okB := k' Hc (Same.refl Hc) (((okb.mono e').rebase e2 c1 c2 c3).wipe _)
      refine ⟨⟨x, B, js, hB⟩, Hc, okB, fun H3 e3 => ?_⟩
      have hD3 := e3 D _ (e2 D _ hD)
      cases hp : p x with
      | true =>
        refine iteT ⟨⟨x, B, js, hB⟩, hp, Hc, okB.mono e3, fun y4 H4 e4 ry => ⟨us, e4 D _ hD3, ?_, hlt, ?_, us ++ [y4], upd_same, ?_⟩⟩
        · rw [rD.length, List.length_map]
          refine Nat.lt_of_le_of_lt (Nat.le_trans (List.length_filter_le _ _) (by rw [List.length_take]; exact Nat.min_le_right _ _)) (Nat.lt_of_le_of_lt hz (by decide))
        · intro b z hbz
          rw [upd_ne (ne_of_none hbz nD)]
          exact e4 b z (e3 b z (e2 b z (e' b z hbz)))
        · have t : TupEx H4 (upd H4 D (.lst (us ++ [y4]))) := TupEx.write (lstNoTup (e4 D _ hD3))
          rw [take_succ_of hx, List.filter_append, List.map_append, List.filter_cons, if_pos hp]
          exact (((rD.ex ((e2.trans e3).trans e4)).at t).append (.cons (ry.at t) .nil))
      | false =>
        refine iteF ⟨hlt, (e'.trans e2).trans e3, us, hD3, ?_⟩
        rw [take_succ_of hx, List.filter_append, List.filter_cons, if_neg (by rw [hp]; exact Bool.false_ne_true)]
        show TDs X.K H3 us (((xs.take i).filter p ++ []).map f)
        rw [List.append_nil]
        exact rD.ex (e2.trans e3)
  · have hin : i = xs.length := by omega
    subst hin
    refine .inl ⟨(wk _ H' eb).2 (by rw [List.length_map]), ?_⟩
    rw [List.take_length] at rD
    exact q D us H' (e1.free nD) (e1.trans e') hD rD
theorem dn_lc (own : List (Str × Nat)) (hi : DI X Γ tg iter (xs.map enc)) (hb : ∀ x ∈ xs, ∃ B js, BlkD X scope Γ tg elt ifs (own.map (·.2)) enc p f x B js) (hz : xs.length ≤ 100000) (hk : blkC X.N X.env.scope scope own = true := by kernel_rfl)
    (hN : X.N.Nodup := by assumption) (hc : X.calm = true := by rfl) (hs : ∀ x, foldedSetIterable iter X.env x = pure x := by intro _; rfl) : DN X Γ (.ListComp elt [⟨tg, iter, ifs, 0⟩] scope pos) ((xs.filter p).map f) := by
  obtain ⟨h1, h2, h3⟩ := lc_parts (X := X) (Γ := Γ) (tg := tg) (elt := elt) (ifs := ifs) (scope := scope) (own := own) (enc := enc) (p := p) (f := f)
  exact PE.wk (pe_lc hc hN hi (blkOk_by hk) h1 h2 h3 hs) fun σ H Q h => lc_read hz hb σ H Q h
end

/-! ### statements -/
inductive Out where
  | nx (Γ : List Cell)
  | rt (d : PyData)
  | rl (ds : List PyData)
  | rg (d : PyData)
def Takes (P : Program) (w : World) (K : PySem.W.Frag) (H0 : Hp) (D : Ends) : Out → Prop
  | .nx Γ => ∀ Hb σ H, Same H0 Hb → EnvOk P w K Hb H σ Γ → D.nx σ H
  | .rt d => ∀ v H, Same H0 H → TD K H v d → D.rt v H
  | .rl ds => ∀ a vs H, H0 a = none → Same H0 H → H a = some (.lst vs) → TDs K H vs ds → D.rt (.ref a) H
  | .rg d => ∀ v H, Same H0 H → Dp K H v d → D.rt v H
theorem Takes.up {P : Program} {w : World} {K : PySem.W.Frag} {H0 Hb : Hp} {D : Ends} {o : Out} (h : Takes P w K H0 D o) (e : Same H0 Hb) : Takes P w K Hb D o := by
  cases o with
  | nx Γ => exact fun H1 σ H e1 ok => h H1 σ H (e.trans e1) ok
  | rt d => exact fun v H e1 r => h v H (e.trans e1) r
  | rl ds => exact fun a vs H n e1 h1 r => h a vs H (e.free n) (e.trans e1) h1 r
  | rg d => exact fun v H e1 r => h v H (e.trans e1) r
theorem Takes.with {P : Program} {w : World} {K : PySem.W.Frag} {H0 : Hp} {D : Ends} {o : Out} {N : L2.St → Hp → Prop} (h : Takes P w K H0 D o) (hn : ∀ Γ, o ≠ .nx Γ) {bk ct : L2.St → Hp → Prop} : Takes P w K H0 { D with nx := N, bk := bk, ct := ct } o := by
  cases o with
  | nx Γ => exact absurd rfl (hn Γ)
  | rt d => exact h
  | rl ds => exact h
  | rg d => exact h
def tS (P : Program) (w : World) (K : PySem.W.Frag) (Γ : List Cell) (o : Out) : TS := fun D σ H => ∃ H0, EnvOk P w K H0 H σ Γ ∧ Takes P w K H0 D o
abbrev DS (X : Cx) (Γ : List Cell) (st : Stmt) (o : Out) : Prop := PS X st (tS X.prog X.w X.K Γ o)
abbrev DSs (X : Cx) (Γ : List Cell) (sts : List Stmt) (o : Out) : Prop := PSs X sts (tS X.prog X.w X.K Γ o)
section
variable {X : Cx} {Γ Γ1 Γ2 : List Cell} {st : Stmt} {rest : List Stmt} {o : Out} {e : Expr} {d : PyData} {ds : List PyData} {pos : Pos}
theorem dss_nil : DSs X Γ [] (.nx Γ) := PSs.wk pss_nil fun D σ H ⟨H0, ok, q⟩ => q H0 σ H (Same.refl H0) ok
theorem dss_cons (h1 : DS X Γ st (.nx Γ1)) (h2 : DSs X Γ1 rest o) : DSs X Γ (st :: rest) o := PSs.wk (pss_cons h1 h2) fun D σ H ⟨H0, ok, q⟩ => ⟨H0, ok, fun Hb σ' H' e ok' => ⟨Hb, ok', q.up e⟩⟩
theorem dss_one (h : DS X Γ st o) : DSs X Γ [st] o := pss_one h
/-- what follows a return is never reached -/
theorem dss_ret (h : DS X Γ st o) (hn : ∀ Γ, o ≠ .nx Γ := by intro _ z; cases z) : DSs X Γ (st :: rest) o :=
  PSs.wk (pss_cons h pss_never) fun D σ H ⟨H0, ok, q⟩ => ⟨H0, ok, q.with (D := D) hn⟩
/-- less is known -/
theorem DSs.wk1 (h : DSs X Γ1 rest o) (l : ELe Γ Γ1) : DSs X Γ rest o := PSs.wk h fun D σ H ⟨H0, ok, q⟩ => ⟨H0, ok.wk l, q⟩
theorem DSs.wk2 (h : DSs X Γ rest (.nx Γ1)) (l : ELe Γ1 Γ2) : DSs X Γ rest (.nx Γ2) := PSs.wk h fun D σ H ⟨H0, ok, q⟩ => ⟨H0, ok, fun Hb σ' H' e ok' => q Hb σ' H' e (ok'.wk l)⟩
theorem DS.wk2 (h : DS X Γ st (.nx Γ1)) (l : ELe Γ1 Γ2) : DS X Γ st (.nx Γ2) := PS.wk h fun D σ H ⟨H0, ok, q⟩ => ⟨H0, ok, fun Hb σ' H' e ok' => q Hb σ' H' e (ok'.wk l)⟩
theorem DSs.is {o' : Out} (h : DSs X Γ rest o) (q : o = o') : DSs X Γ rest o' := q ▸ h
theorem ds_ret (h : DE X Γ e d) : DS X Γ (.Return (some e) pos) (.rt d) := PS.wk (ps_ret h) fun D σ H ⟨H0, ok, q⟩ => ⟨H0, ok, fun v H' e' r => q v H' (ok.ex.trans e') r⟩
theorem ds_retG (h : DG X Γ e d) : DS X Γ (.Return (some e) pos) (.rg d) := PS.wk (ps_ret h) fun D σ H ⟨H0, ok, q⟩ => ⟨H0, ok, fun v H' e' r => q v H' (ok.ex.trans e') r⟩
theorem ds_retN (h : DN X Γ e ds) : DS X Γ (.Return (some e) pos) (.rl ds) := PS.wk (ps_ret h) fun D σ H ⟨H0, ok, q⟩ => ⟨H0, ok, fun a vs H' n e' h1 r => q a vs H' (ok.ex.free n) (ok.ex.trans e') h1 r⟩
/-- an owned list is handed back -/
theorem ds_retO (i : Nat) {n : Str} {pn : Pos} (hc : Γ[i]? = some (.own (.lst ds)) := by rfl) (hN : X.N[i]? = some n := by rfl) (hv : Vis X.env.scope n := by first | exact Or.inl rfl | exact Or.inr (Or.inl rfl) | exact Or.inr (Or.inr rfl)) (hd : (n == ("__debug__" : Str)) = false := by decide) (hcd : (n == ("__classdict__" : Str)) = false := by decide) : DS X Γ (.Return (some (.Name n pn)) pos) (.rl ds) :=
  PS.wk (ps_ret (pe_var hN hv hd hcd)) fun D σ H ⟨H0, ok, q⟩ => by
    obtain ⟨a, e, nn, vs, s, r⟩ := ok.own hc
    exact ⟨.ref a, e, q a vs H nn ok.ex s r⟩
theorem ds_if {c : Expr} {th el : List Stmt} {b : Bool} (hc : DT X Γ c b) (h1 : b = true → DSs X Γ th o) (h2 : b = false → DSs X Γ el o) : DS X Γ (.If c th el pos) o :=
  PS.wk (ps_if hc (pssIf h1) (pssIf h2)) fun D σ H ⟨H0, ok, q⟩ => ⟨H0, ok, fun H1 e1 => by
    cases b with
    | true => exact iteT ⟨rfl, H0, ok.mono e1, q⟩
    | false => exact iteF ⟨rfl, H0, ok.mono e1, q⟩⟩
/-- if test: return, and what follows -/
theorem dss_if {c : Expr} {th : List Stmt} {b : Bool} (hc : DT X Γ c b) (h1 : b = true → DSs X Γ th o) (h2 : b = false → DSs X Γ rest o) (hn : ∀ Γ, o ≠ .nx Γ := by intro _ z; cases z) : DSs X Γ (.If c th [] pos :: rest) o := by
  cases b with
  | true => exact dss_ret (ds_if hc h1 fun z => nomatch z) hn
  | false => exact dss_cons (ds_if (o := .nx Γ) hc (fun z => nomatch z) fun _ => dss_nil) (h2 rfl)
theorem ds_set (i : Nat) {n : Str} {pn : Pos} (h : DE X Γ e d) (hi : X.N[i]? = some n := by rfl) (hN : X.N.Nodup := by assumption) (hx : Loc X.env.scope n := by first | exact .inl rfl | exact .inr rfl) (hs : swapsWith e (some (.Name n pn)) pos.line X.env = pure false := by rfl) (hf : X.fn n = true ∨ X.env.scope.names.lookup n = some .local := by first | exact .inl rfl | exact .inr rfl) :
    DS X Γ (.Assign [.Name n pn] e pos) (.nx (Γ.set i (.dat d))) :=
  PS.wk (ps_set hN hi hx h hs hf) fun D σ H ⟨H0, ok, q⟩ => ⟨H0, ok, fun v H1 e1 r1 => q H0 _ H1 (Same.refl H0) ((ok.mono e1).putD r1)⟩
/-- what an assignment of a new list does to the slots: owned, or read only -/
theorem put_own {P : Program} {w : World} {K : PySem.W.Frag} {D : Ends} {σ : L2.St} {H H0 : Hp} {i : Nat} (ok : EnvOk P w K H0 H σ Γ) (q : Takes P w K H0 D (.nx (Γ.set i (.own (.lst ds))))) {a : Addr} {vs : List V} {H' : Hp} (n : H a = none) (e : Same H H') (h : H' a = some (.lst vs)) (r : TDs K H' vs ds) : D.nx (σ.set i (some (.ref a))) H' :=
  q H0 _ H' (Same.refl H0) (ok.putO e n ⟨vs, h, r⟩)
theorem put_rdl {P : Program} {w : World} {K : PySem.W.Frag} {D : Ends} {σ : L2.St} {H H0 : Hp} {i : Nat} (ok : EnvOk P w K H0 H σ Γ) (q : Takes P w K H0 D (.nx (Γ.set i (.rdl ds)))) {a : Addr} {vs : List V} {H' : Hp} (n : H a = none) (e : Same H H') (h : H' a = some (.lst vs)) (r : TDs K H' vs ds) : D.nx (σ.set i (some (.ref a))) H' := by
  obtain ⟨Hb, b1, b2, b3, b4, b5⟩ := (ok.mono e).max
  exact q Hb _ H' b1 (b3.putR (b4 a _ h (ok.fresh n)) (r.at b5))
theorem ds_setO (i : Nat) {n : Str} {pn : Pos} (h : DN X Γ e ds) (hi : X.N[i]? = some n := by rfl) (hN : X.N.Nodup := by assumption) (hx : Loc X.env.scope n := by first | exact .inl rfl | exact .inr rfl) (hs : swapsWith e (some (.Name n pn)) pos.line X.env = pure false := by rfl) (hf : X.fn n = true ∨ X.env.scope.names.lookup n = some .local := by first | exact .inl rfl | exact .inr rfl) :
    DS X Γ (.Assign [.Name n pn] e pos) (.nx (Γ.set i (.own (.lst ds)))) :=
  PS.wk (ps_set hN hi hx h hs hf) fun D σ H ⟨H0, ok, q⟩ => ⟨H0, ok, fun a vs H1 n1 e1 h1 r1 => put_own ok q n1 e1 h1 r1⟩
theorem ds_setR (i : Nat) {n : Str} {pn : Pos} (h : DN X Γ e ds) (hi : X.N[i]? = some n := by rfl) (hN : X.N.Nodup := by assumption) (hx : Loc X.env.scope n := by first | exact .inl rfl | exact .inr rfl) (hs : swapsWith e (some (.Name n pn)) pos.line X.env = pure false := by rfl) (hf : X.fn n = true ∨ X.env.scope.names.lookup n = some .local := by first | exact .inl rfl | exact .inr rfl) :
    DS X Γ (.Assign [.Name n pn] e pos) (.nx (Γ.set i (.rdl ds))) :=
  PS.wk (ps_set hN hi hx h hs hf) fun D σ H ⟨H0, ok, q⟩ => ⟨H0, ok, fun a vs H1 n1 e1 h1 r1 => put_rdl ok q n1 e1 h1 r1⟩
/-- any target, tuple data -/
theorem ds_asg {tg : Expr} {js : List Nat} (h : DE X Γ e d) (hg : DGt X Γ tg (.t d) Γ1 js) (hs : swapsWithSole [tg] e pos.line X.env = pure false := by rfl) (hw : swappedStores [tg] e X.env = pure none := by rfl) (h1 : (assignEach [tg] X.env).map (·.2) = [assign tg X.env] := by rfl) :
    DS X Γ (.Assign [tg] e pos) (.nx Γ1) :=
  PS.wk (ps_asg h hg hs hw h1) fun D σ H ⟨H0, ok, q⟩ => ⟨H0, ok, fun v H1 e1 r1 => ⟨H0, (ok.mono e1).ex, r1, fun σ' _ _ k => q H0 σ' H1 (Same.refl H0) (k H0 (Same.refl H0) (ok.mono e1))⟩⟩
section
variable {tg iter elt : Expr} {ifs : List Expr} {scope : Scope} {α : Type} {xs : List α} {enc : α → Arg} {p : α → Bool} {f : α → PyData}
/-- y = [.. for ..] on one line -/
theorem ds_lcR (i : Nat) {n : Str} {pn : Pos} {cpos : Pos} (own : List (Str × Nat)) (hi : DI X Γ tg iter (xs.map enc)) (hb : ∀ x ∈ xs, ∃ B js, BlkD X scope Γ tg elt ifs (own.map (·.2)) enc p f x B js) (hz : xs.length ≤ 100000) (hk : blkC X.N X.env.scope scope own = true := by kernel_rfl)
    (hj : X.N[i]? = some n := by rfl) (hl : X.env.scope.names.lookup n = some .local := by rfl) (hsw : swapsWith (.ListComp elt [⟨tg, iter, ifs, 0⟩] scope cpos) (some (.Name n pn)) pos.line X.env = pure true := by exact sw_true rfl rfl rfl (by decide +kernel))
    (hN : X.N.Nodup := by assumption) (hc : X.calm = true := by rfl) (hs : ∀ x, foldedSetIterable iter X.env x = pure x := by intro _; rfl) : DS X Γ (.Assign [.Name n pn] (.ListComp elt [⟨tg, iter, ifs, 0⟩] scope cpos) pos) (.nx (Γ.set i (.rdl ((xs.filter p).map f)))) := by
  obtain ⟨h1, h2, h3⟩ := lc_parts (X := X) (Γ := Γ) (tg := tg) (elt := elt) (ifs := ifs) (scope := scope) (own := own) (enc := enc) (p := p) (f := f)
  refine PS.wk (ps_setLc hc hN hj hl hsw hi (blkOk_by hk) h1 h2 h3 hs) fun D σ H ⟨H0, ok, q⟩ => ?_
  exact lc_read hz hb σ H (fun v H' => D.nx (σ.set i (some v)) H') ⟨H0, ok, fun a vs H' n1 e1 g1 r1 => put_rdl ok q n1 e1 g1 r1⟩
theorem ds_lcO (i : Nat) {n : Str} {pn : Pos} {cpos : Pos} (own : List (Str × Nat)) (hi : DI X Γ tg iter (xs.map enc)) (hb : ∀ x ∈ xs, ∃ B js, BlkD X scope Γ tg elt ifs (own.map (·.2)) enc p f x B js) (hz : xs.length ≤ 100000) (hk : blkC X.N X.env.scope scope own = true := by kernel_rfl)
    (hj : X.N[i]? = some n := by rfl) (hl : X.env.scope.names.lookup n = some .local := by rfl) (hsw : swapsWith (.ListComp elt [⟨tg, iter, ifs, 0⟩] scope cpos) (some (.Name n pn)) pos.line X.env = pure true := by exact sw_true rfl rfl rfl (by decide +kernel))
    (hN : X.N.Nodup := by assumption) (hc : X.calm = true := by rfl) (hs : ∀ x, foldedSetIterable iter X.env x = pure x := by intro _; rfl) : DS X Γ (.Assign [.Name n pn] (.ListComp elt [⟨tg, iter, ifs, 0⟩] scope cpos) pos) (.nx (Γ.set i (.own (.lst ((xs.filter p).map f))))) := by
  obtain ⟨h1, h2, h3⟩ := lc_parts (X := X) (Γ := Γ) (tg := tg) (elt := elt) (ifs := ifs) (scope := scope) (own := own) (enc := enc) (p := p) (f := f)
  refine PS.wk (ps_setLc hc hN hj hl hsw hi (blkOk_by hk) h1 h2 h3 hs) fun D σ H ⟨H0, ok, q⟩ => ?_
  exact lc_read hz hb σ H (fun v H' => D.nx (σ.set i (some v)) H') ⟨H0, ok, fun a vs H' n1 e1 g1 r1 => put_own ok q n1 e1 g1 r1⟩
end

/-! ### append to an owned list -/
theorem ds_app (i : Nat) {n : Str} {pn apos cpos : Pos} (h : DE X Γ e d) (hz : ds.length ≤ 100000) (hc : Γ[i]? = some (.own (.lst ds)) := by rfl) (hN : X.N[i]? = some n := by rfl) (hv : Vis X.env.scope n := by first | exact Or.inl rfl | exact Or.inr (Or.inl rfl) | exact Or.inr (Or.inr rfl)) (hd : (n == ("__debug__" : Str)) = false := by decide) (hcd : (n == ("__classdict__" : Str)) = false := by decide)
    (hbase : attributeBase (.Name n pn) "append" X.env (eval (.Name n pn) X.env) = eval (.Name n pn) X.env := by rfl)
    (hfew : ((backTo cpos (starEach [e] X.env)).all (fun x => !x.1) && (backToKw cpos (keywordEach [] X.env)).all (fun x => x.1.isSome) && decide (([e] : List Expr).length + ([] : List Keyword).length + (if ([] : List Keyword).isEmpty then 0 else 1) < 30)) = true := by rfl)
    (hline : (apos.endLine == cpos.line) = true := by rfl) (hse : starEach [e] X.env = (false, eval e X.env) :: starEach [] X.env := by rfl) (hplain : (backTo cpos (starEach [] X.env)).any (·.1) = false := by rfl) (hs : swapsWith (.Call (.Attribute (.Name n pn) "append" apos) [e] [] cpos) none pos.line X.env = pure false := by rfl) :
    DS X Γ (.Expr (.Call (.Attribute (.Name n pn) "append" apos) [e] [] cpos) pos) (.nx (Γ.set i (.own (.lst (ds ++ [d]))))) :=
  PS.wk (ps_expr (pe_bm PySem.F.plainAttrs_list PySem.F.slot_list_append PySem.F.type_list_append mt_append (pe_var hN hv hd hcd) (pa_cons h pa_nil hse) hbase hfew hline hse hplain) hs) fun D σ H ⟨H0, ok, q⟩ => by
    obtain ⟨a, ea, na, vs, ha, ra⟩ := ok.own hc
    refine ⟨.ref a, ea, .inl ⟨rfl, _, .of ha⟩, H0, ok, fun v H1 e1 r1 => ⟨a, vs, v, rfl, rfl, e1 a _ ha, by rw [ra.length]; exact Nat.lt_of_le_of_lt hz (by decide), q H0 σ _ (Same.refl H0) ?_⟩⟩
    have ok1 := ok.mono e1
    have t : TupEx H1 (upd H1 a (.lst (vs ++ [v]))) := TupEx.write (lstNoTup (e1 a _ ha))
    exact ok1.write ⟨ea, _, hc⟩ ⟨vs ++ [v], upd_same, ((ra.ex e1).at t).append (.cons (r1.at t) .nil)⟩
end
end K54
set_option Elab.async false
set_option linter.all false
set_option autoImplicit false
set_option maxRecDepth 100000
set_option maxHeartbeats 1000000
/-! K54, the data layer, 5: defs, loops, built-ins, subscripts -/
namespace K54
open PySem PySem.Spec PyProof.Rows L2

/-! ### a def and its promise -/
abbrev BX (P : Program) (w : World) (K : PySem.W.Frag) (mg : Str → Option Value) (base : Heap) (N : List Str) (x : Str) (st : Stmt) (f : Addr) (cdv : Value) (A : Around) (outer : List Env) (s : Shared) (H : Hp) (E : XK) : Cx :=
  (cxOf CX0 P w K mg base N x (defScope st) f cdv A outer s H E).nox
section
variable {P : Program} {w : World} {K : PySem.W.Frag} {mg : Str → Option Value} {base : Heap} {x : Str} {st : Stmt} {f : Addr} {fd : FuncData} {N ps : List Str} {k : Nat}
theorem okE {R : List Arg → PyData → Prop} (F : Fun K x x st f fd) (S : FnScope N ps (defScope st)) (hl : ∀ as d, R as d → as.length = ps.length)
    (hb : ∀ (cdv : Value) (A : Around) (outer : List Env) (s : Shared) (H : Hp) (E : XK), Room k (BX P w K mg base N x st f cdv A outer s H E).A → ∀ as d, R as d → DSs (BX P w K mg base N x st f cdv A outer s H E) (cellsOf N as) (defBody st) (.rt d)) :
    FnOk P w K mg base CX0 (k + 1) f fd ps (spE K R) := by
  refine F.ok S (fun vs H Q E h => ?_) (fun cdv A outer s H vs Q E hr h => ?_)
  · obtain ⟨as, d, h1, h2, _⟩ := h
    rw [h1.length, hl as d h2]
  · obtain ⟨as, d, h1, h2, q⟩ := h
    exact ⟨_, hb cdv A outer s H E hr as d h2, H, env_start h1, q⟩
theorem okG {R : List Arg → PyData → Prop} (F : Fun K x x st f fd) (S : FnScope N ps (defScope st)) (hl : ∀ as d, R as d → as.length = ps.length)
    (hb : ∀ (cdv : Value) (A : Around) (outer : List Env) (s : Shared) (H : Hp) (E : XK), Room k (BX P w K mg base N x st f cdv A outer s H E).A → ∀ as d, R as d → DSs (BX P w K mg base N x st f cdv A outer s H E) (cellsOf N as) (defBody st) (.rg d)) :
    FnOk P w K mg base CX0 (k + 1) f fd ps (spG K R) := by
  refine F.ok S (fun vs H Q E h => ?_) (fun cdv A outer s H vs Q E hr h => ?_)
  · obtain ⟨as, d, h1, h2, _⟩ := h
    rw [h1.length, hl as d h2]
  · obtain ⟨as, d, h1, h2, q⟩ := h
    exact ⟨_, hb cdv A outer s H E hr as d h2, H, env_start h1, q⟩
theorem okN {R : List Arg → List PyData → Prop} (F : Fun K x x st f fd) (S : FnScope N ps (defScope st)) (hl : ∀ as d, R as d → as.length = ps.length)
    (hb : ∀ (cdv : Value) (A : Around) (outer : List Env) (s : Shared) (H : Hp) (E : XK), Room k (BX P w K mg base N x st f cdv A outer s H E).A → ∀ as d, R as d → DSs (BX P w K mg base N x st f cdv A outer s H E) (cellsOf N as) (defBody st) (.rl d)) :
    FnOk P w K mg base CX0 (k + 1) f fd ps (spN K R) := by
  refine F.ok S (fun vs H Q E h => ?_) (fun cdv A outer s H vs Q E hr h => ?_)
  · obtain ⟨as, d, h1, h2, _⟩ := h
    rw [h1.length, hl as d h2]
  · obtain ⟨as, d, h1, h2, q⟩ := h
    exact ⟨_, hb cdv A outer s H E hr as d h2, H, env_start h1, q⟩
end

/-! ### loops -/
/-- two bases above one become one -/
theorem EnvOk.union {P : Program} {w : World} {K : PySem.W.Frag} {Hb Hc Hd H H' : Hp} {σ : L2.St} {Γ : List Cell} (ok : EnvOk P w K Hc H σ Γ) (e : Same H H') (b1 : Same Hb Hc) (e1 : Same Hb Hd) (e2 : Same Hd H') (n : ∀ b u, Hd b = some u → Hb b = none → H b = none) : ∃ He, Same Hc He ∧ Same Hd He ∧ EnvOk P w K He H' σ Γ ∧ ∀ b u, He b = some u → Hc b = none → H b = none := by
  have cH : Same Hc H' := ok.ex.trans e
  refine ⟨fun b => match Hc b with | some u => some u | none => Hd b, fun b u h => ?_, fun b u h => ?_, ok.rebase e (fun b u h => ?_) (fun b u h => ?_) (fun b u h hn => ?_), fun b u h hn => ?_⟩
  · show (match Hc b with | some u => some u | none => Hd b) = some u
    rw [h]
  · show (match Hc b with | some u => some u | none => Hd b) = some u
    cases hc : Hc b with
    | none => exact h
    | some u' =>
      have q1 := cH b u' hc
      rw [e2 b u h] at q1
      exact q1.symm
  · show (match Hc b with | some u => some u | none => Hd b) = some u
    rw [h]
  · have h' : (match Hc b with | some u => some u | none => Hd b) = some u := h
    cases hc : Hc b with
    | none => rw [hc] at h'; exact e2 b u h'
    | some u' => rw [hc] at h'; rw [← h']; exact cH b u' hc
  · have h' : (match Hc b with | some u => some u | none => Hd b) = some u := h
    rw [hn] at h'
    refine n b u h' ?_
    cases hb : Hb b with
    | none => rfl
    | some u' => rw [b1 b u' hb] at hn; cases hn
  · have h' : (match Hc b with | some u => some u | none => Hd b) = some u := h
    rw [hn] at h'
    refine n b u h' ?_
    cases hb : Hb b with
    | none => rfl
    | some u' => rw [b1 b u' hb] at hn; cases hn
section
variable {X : Cx} {Γ : List Cell} {tg iter c : Expr} {body : List Stmt} {pos : Pos} {α : Type} {xs : List α} {enc : α → Arg}
structure FIx (X : Cx) (G : Nat → List Cell) (tg : Expr) (body : List Stmt) (enc : α → Arg) (o : Nat → Out) where
  i : Nat
  x : α
  B : List Cell
  js : List Nat
  ok : DGt X (G i) tg (enc x) B js ∧ DSs X B body (o i)
/-- a for that runs through: G i is known ahead of the i-th turn -/
theorem ds_for (G : Nat → List Cell) (hi : DI X Γ tg iter (xs.map enc)) (h0 : ELe Γ (G 0)) (hb : ∀ i x, xs[i]? = some x → ∃ B js, DGt X (G i) tg (enc x) B js ∧ DSs X B body (.nx (G (i + 1))))
    (hp : PassesOwn (model X.prog X.w) X.A X.env X.xe := by exact PassesOwn.never) (hc : X.calm = true := by rfl) (hs : ∀ x, foldedSetIterable iter X.env x = pure x := by intro _; rfl) : DS X Γ (.For tg iter body [] pos) (.nx (G xs.length)) := by
  refine PS.wk (ps_for hp hc hi (PG.ex (t := fun q : FIx X G tg body enc (fun i => .nx (G (i + 1))) => gD X.prog X.w X.K (G q.i) (enc q.x) q.B q.js) fun q => q.ok.1)
    (PSs.ex (t := fun q : FIx X G tg body enc (fun i => .nx (G (i + 1))) => tS X.prog X.w X.K q.B (.nx (G (q.i + 1)))) fun q => q.ok.2) hs) fun D σ H ⟨H0, ok, q⟩ => ?_
  refine ⟨H0, ok, fun J H1 Hb e1 b1 _ okb wk => ⟨fun i m σ' H' => i ≤ xs.length ∧ m = xs.length - i ∧ ∃ Hc, Same Hb Hc ∧ EnvOk X.prog X.w X.K Hc H' σ' (G i), ⟨_, Nat.zero_le _, rfl, Hb, Same.refl Hb, okb.wk h0⟩, ?_⟩⟩
  rintro i m σ' H' ⟨hl, rfl, Hc, ec, ok'⟩
  have eb : Same Hb H' := ec.trans ok'.ex
  by_cases hlt : i < xs.length
  · have hx : xs[i]? = some xs[i] := List.getElem?_eq_getElem hlt
    generalize xs[i] = x at hx
    obtain ⟨go, yl⟩ := (wk i H' eb).1 (enc x) (by rw [List.getElem?_map, hx]; rfl)
    refine .inr ⟨go, fun σ2 H2 => i + 1 ≤ xs.length ∧ ∃ Hc, Same Hb Hc ∧ EnvOk X.prog X.w X.K Hc H2 σ2 (G (i + 1)), fun σ2 H2 ⟨k1, k2⟩ => ⟨xs.length - (i + 1), by omega, k1, rfl, k2⟩, fun v H2 y => ?_⟩
    obtain ⟨e2, Hi, c1, c2, c3, rv⟩ := yl v H2 y
    obtain ⟨He, d1, d2, ok2, _⟩ := ok'.union e2 ec c1 c2 c3
    obtain ⟨B, js, hB⟩ := hb i x hx
    exact ⟨⟨i, x, B, js, hB⟩, Hi, c2, rv, fun σ3 _ _ k => ⟨⟨i, x, B, js, hB⟩, He, k He d2 ok2, fun Hd σ4 H4 e4 ok4 => ⟨hlt, Hd, (ec.trans d1).trans e4, ok4⟩⟩⟩
  · have hin : i = xs.length := by omega
    subst hin
    exact .inl ⟨(wk _ H' eb).2 (by rw [List.length_map]), q Hc σ' H' (b1.trans ec) ok'⟩
/-- a for that is left by a return, at its k-th turn -/
theorem ds_forR {o : Out} (G : Nat → List Cell) (k : Nat) (hk : k < xs.length) (hn : ∀ Γ, o ≠ .nx Γ) (hi : DI X Γ tg iter (xs.map enc)) (h0 : ELe Γ (G 0))
    (hb : ∀ i x, i < k → xs[i]? = some x → ∃ B js, DGt X (G i) tg (enc x) B js ∧ DSs X B body (.nx (G (i + 1)))) (hr : ∀ x, xs[k]? = some x → ∃ B js, DGt X (G k) tg (enc x) B js ∧ DSs X B body o)
    (hp : PassesOwn (model X.prog X.w) X.A X.env X.xe := by exact PassesOwn.never) (hc : X.calm = true := by rfl) (hs : ∀ x, foldedSetIterable iter X.env x = pure x := by intro _; rfl) : DS X Γ (.For tg iter body [] pos) o := by
  refine PS.wk (ps_for hp hc hi (PG.ex (t := fun q : FIx X G tg body enc (fun i => if i < k then .nx (G (i + 1)) else o) => gD X.prog X.w X.K (G q.i) (enc q.x) q.B q.js) fun q => q.ok.1)
    (PSs.ex (t := fun q : FIx X G tg body enc (fun i => if i < k then .nx (G (i + 1)) else o) => tS X.prog X.w X.K q.B (if q.i < k then .nx (G (q.i + 1)) else o)) fun q => q.ok.2) hs) fun D σ H ⟨H0, ok, q⟩ => ?_
  refine ⟨H0, ok, fun J H1 Hb e1 b1 _ okb wk => ⟨fun i m σ' H' => i ≤ k ∧ m = xs.length - i ∧ ∃ Hc, Same Hb Hc ∧ EnvOk X.prog X.w X.K Hc H' σ' (G i), ⟨_, Nat.zero_le _, rfl, Hb, Same.refl Hb, okb.wk h0⟩, ?_⟩⟩
  rintro i m σ' H' ⟨hl, rfl, Hc, ec, ok'⟩
  have eb : Same Hb H' := ec.trans ok'.ex
  have hlt : i < xs.length := by omega
  have hx : xs[i]? = some xs[i] := List.getElem?_eq_getElem hlt
  generalize xs[i] = x at hx
  obtain ⟨go, yl⟩ := (wk i H' eb).1 (enc x) (by rw [List.getElem?_map, hx]; rfl)
  by_cases hik : i < k
  · refine .inr ⟨go, fun σ2 H2 => i + 1 ≤ k ∧ ∃ Hc, Same Hb Hc ∧ EnvOk X.prog X.w X.K Hc H2 σ2 (G (i + 1)), fun σ2 H2 ⟨k1, k2⟩ => ⟨xs.length - (i + 1), by omega, k1, rfl, k2⟩, fun v H2 y => ?_⟩
    obtain ⟨e2, Hi, c1, c2, c3, rv⟩ := yl v H2 y
    obtain ⟨He, d1, d2, ok2, _⟩ := ok'.union e2 ec c1 c2 c3
    obtain ⟨B, js, hB1, hB2⟩ := hb i x hik hx
    refine ⟨⟨i, x, B, js, hB1, by rw [if_pos hik]; exact hB2⟩, Hi, c2, rv, fun σ3 _ _ k' => ⟨⟨i, x, B, js, hB1, by rw [if_pos hik]; exact hB2⟩, He, k' He d2 ok2, ?_⟩⟩
    show Takes _ _ _ _ _ (if i < k then .nx (G (i + 1)) else o)
    rw [if_pos hik]
    exact fun Hd σ4 H4 e4 ok4 => ⟨hik, Hd, (ec.trans d1).trans e4, ok4⟩
  · have hin : i = k := by omega
    subst hin
    refine .inr ⟨go, fun _ _ => False, fun _ _ z => z.elim, fun v H2 y => ?_⟩
    obtain ⟨e2, Hi, c1, c2, c3, rv⟩ := yl v H2 y
    obtain ⟨He, d1, d2, ok2, _⟩ := ok'.union e2 ec c1 c2 c3
    obtain ⟨B, js, hB1, hB2⟩ := hr x hx
    refine ⟨⟨i, x, B, js, hB1, by rw [if_neg hik]; exact hB2⟩, Hi, c2, rv, fun σ3 _ _ k' => ⟨⟨i, x, B, js, hB1, by rw [if_neg hik]; exact hB2⟩, He, k' He d2 ok2, ?_⟩⟩
    show Takes _ _ _ _ _ (if i < i then .nx (G (i + 1)) else o)
    rw [if_neg hik]
    exact (q.up ((b1.trans ec).trans d1)).with (D := D) hn
/-- a while of n turns -/
theorem ds_while (G : Nat → List Cell) (n : Nat) (h0 : ELe Γ (G 0)) (ht : ∀ i, i < n → DT X (G i) c true) (hf : DT X (G n) c false) (hb : ∀ i, i < n → DSs X (G i) body (.nx (G (i + 1))))
    (hp : PassesOwn (model X.prog X.w) X.A X.env X.xe := by exact PassesOwn.never) : DS X Γ (.While c body [] pos) (.nx (G n)) := by
  have hT : PT X c (fun σ H Q => ∃ q : { i : Nat // i ≤ n }, tB1 X.prog X.w X.K (G q.1) (decide (q.1 < n)) σ H Q) := PT.ex fun q => by
    by_cases h : q.1 < n
    · rw [decide_eq_true h]; exact ht q.1 h
    · have e : q.1 = n := Nat.le_antisymm q.2 (by omega)
      rw [decide_eq_false h, e]; exact hf
  have hB : PSs X body (fun D σ H => ∃ q : { i : Nat // i < n }, tS X.prog X.w X.K (G q.1) (.nx (G (q.1 + 1))) D σ H) := PSs.ex fun q => hb q.1 q.2
  refine PS.wk (ps_while hp hT hB) fun D σ H ⟨H0, ok, q⟩ => ?_
  refine ⟨fun m σ' H' => ∃ i Hc, i ≤ n ∧ m = n - i ∧ Same H0 Hc ∧ EnvOk X.prog X.w X.K Hc H' σ' (G i), ⟨n, 0, H0, Nat.zero_le _, rfl, Same.refl H0, ok.wk h0⟩, ?_⟩
  rintro m σ' H' ⟨i, Hc, hi, rfl, ec, ok'⟩
  refine ⟨⟨i, hi⟩, Hc, ok', fun H1 e1 => ?_⟩
  by_cases h : i < n
  · rw [decide_eq_true h]
    refine iteT ⟨fun σ2 H2 => ∃ Hd, Same H0 Hd ∧ EnvOk X.prog X.w X.K Hd H2 σ2 (G (i + 1)), fun σ2 H2 ⟨Hd, e2, k2⟩ => ⟨n - (i + 1), by omega, i + 1, Hd, h, rfl, e2, k2⟩, ⟨i, h⟩, Hc, ok'.mono e1, fun Hd σ2 H2 e2 ok2 => ⟨Hd, ec.trans e2, ok2⟩⟩
  · rw [decide_eq_false h]
    have e : i = n := by omega
    subst e
    exact iteF (q Hc σ' H1 ec (ok'.mono e1))
end

/-! ### two names at once -/
section
variable {X : Cx} {Γ : List Cell} {a b : Expr} {x y : PyData} {pos : Pos}
theorem ds_par (i j : Nat) {n m : Str} {pn pm pt pt2 : Pos} {kt k2 : Nat} (ha : DE X Γ a x) (hb : DE X Γ b y) (hij : i ≠ j := by decide) (hi : X.N[i]? = some n := by rfl) (hj : X.N[j]? = some m := by rfl) (hN : X.N.Nodup := by assumption) (hn : X.env.scope.names.lookup n = some .local := by rfl) (hm : X.env.scope.names.lookup m = some .local := by rfl)
    (hw : swappedStores [.Tuple [.Name n pn, .Name m pm] kt pt] (.Tuple [a, b] k2 pt2) X.env = pure (some [n, m]) := by rfl) (hs : swapsWithSole [.Tuple [.Name n pn, .Name m pm] kt pt] (.Tuple [a, b] k2 pt2) pos.line X.env = pure false := by rfl) (hc : X.calm = true := by rfl)
    (hs1 : starEach [a, b] X.env = (false, eval a X.env) :: starEach [b] X.env := by rfl) (hs2 : starEach [b] X.env = (false, eval b X.env) :: starEach [] X.env := by rfl) :
    DS X Γ (.Assign [.Tuple [.Name n pn, .Name m pm] kt pt] (.Tuple [a, b] k2 pt2) pos) (.nx ((Γ.set i (.dat x)).set j (.dat y))) :=
  PS.wk (ps_par hc hN hi hj hij hn hm (pa_cons ha (pa_cons hb pa_nil hs2) hs1) hw hs) fun D σ H ⟨H0, ok, q⟩ => ⟨H0, ok, fun u H1 e1 r1 => ⟨H0, ok.mono e1, fun v H2 e2 r2 => ⟨u, v, rfl, q H0 _ H2 (Same.refl H0) (((ok.mono (e1.trans e2)).putD (r1.ex e2)).putD r2)⟩⟩⟩
/-- the second a new list, owned -/
theorem ds_parO (i j : Nat) {n m : Str} {pn pm pt pt2 : Pos} {kt k2 : Nat} {ds : List PyData} (ha : DE X Γ a x) (hb : DN X Γ b ds) (hij : i ≠ j := by decide) (hi : X.N[i]? = some n := by rfl) (hj : X.N[j]? = some m := by rfl) (hN : X.N.Nodup := by assumption) (hn : X.env.scope.names.lookup n = some .local := by rfl) (hm : X.env.scope.names.lookup m = some .local := by rfl)
    (hw : swappedStores [.Tuple [.Name n pn, .Name m pm] kt pt] (.Tuple [a, b] k2 pt2) X.env = pure (some [n, m]) := by rfl) (hs : swapsWithSole [.Tuple [.Name n pn, .Name m pm] kt pt] (.Tuple [a, b] k2 pt2) pos.line X.env = pure false := by rfl) (hc : X.calm = true := by rfl)
    (hs1 : starEach [a, b] X.env = (false, eval a X.env) :: starEach [b] X.env := by rfl) (hs2 : starEach [b] X.env = (false, eval b X.env) :: starEach [] X.env := by rfl) :
    DS X Γ (.Assign [.Tuple [.Name n pn, .Name m pm] kt pt] (.Tuple [a, b] k2 pt2) pos) (.nx ((Γ.set i (.dat x)).set j (.own (.lst ds)))) :=
  PS.wk (ps_par hc hN hi hj hij hn hm (pa_cons ha (pa_cons hb pa_nil hs2) hs1) hw hs) fun D σ H ⟨H0, ok, q⟩ => ⟨H0, ok, fun u H1 e1 r1 => ⟨H0, ok.mono e1, fun b vs H2 n2 e2 h2 r2 =>
    ⟨u, .ref b, rfl, q H0 _ H2 (Same.refl H0) (((ok.mono e1).putD r1).putO e2 n2 ⟨vs, h2, r2⟩)⟩⟩⟩
/-- both new lists, owned -/
theorem ds_parOO (i j : Nat) {n m : Str} {pn pm pt pt2 : Pos} {kt k2 : Nat} {cs ds : List PyData} (ha : DN X Γ a cs) (hb : DN X Γ b ds) (hij : i ≠ j := by decide) (hi : X.N[i]? = some n := by rfl) (hj : X.N[j]? = some m := by rfl) (hN : X.N.Nodup := by assumption) (hn : X.env.scope.names.lookup n = some .local := by rfl) (hm : X.env.scope.names.lookup m = some .local := by rfl)
    (hw : swappedStores [.Tuple [.Name n pn, .Name m pm] kt pt] (.Tuple [a, b] k2 pt2) X.env = pure (some [n, m]) := by rfl) (hs : swapsWithSole [.Tuple [.Name n pn, .Name m pm] kt pt] (.Tuple [a, b] k2 pt2) pos.line X.env = pure false := by rfl) (hc : X.calm = true := by rfl)
    (hs1 : starEach [a, b] X.env = (false, eval a X.env) :: starEach [b] X.env := by rfl) (hs2 : starEach [b] X.env = (false, eval b X.env) :: starEach [] X.env := by rfl) :
    DS X Γ (.Assign [.Tuple [.Name n pn, .Name m pm] kt pt] (.Tuple [a, b] k2 pt2) pos) (.nx ((Γ.set i (.own (.lst cs))).set j (.own (.lst ds)))) :=
  PS.wk (ps_par hc hN hi hj hij hn hm (pa_cons ha (pa_cons hb pa_nil hs2) hs1) hw hs) fun D σ H ⟨H0, ok, q⟩ => ⟨H0, ok, fun a us H1 n1 e1 h1 r1 => ⟨H0, ok.mono e1, fun b vs H2 n2 e2 h2 r2 =>
    ⟨.ref a, .ref b, rfl, q H0 _ H2 (Same.refl H0) ((ok.putO (o := .lst cs) e1 n1 ⟨us, h1, r1⟩).putO e2 n2 ⟨vs, h2, r2⟩)⟩⟩⟩
/-- both new lists, read only -/
theorem ds_parRR (i j : Nat) {n m : Str} {pn pm pt pt2 : Pos} {kt k2 : Nat} {cs ds : List PyData} (ha : DN X Γ a cs) (hb : DN X Γ b ds) (hij : i ≠ j := by decide) (hi : X.N[i]? = some n := by rfl) (hj : X.N[j]? = some m := by rfl) (hN : X.N.Nodup := by assumption) (hn : X.env.scope.names.lookup n = some .local := by rfl) (hm : X.env.scope.names.lookup m = some .local := by rfl)
    (hw : swappedStores [.Tuple [.Name n pn, .Name m pm] kt pt] (.Tuple [a, b] k2 pt2) X.env = pure (some [n, m]) := by rfl) (hs : swapsWithSole [.Tuple [.Name n pn, .Name m pm] kt pt] (.Tuple [a, b] k2 pt2) pos.line X.env = pure false := by rfl) (hc : X.calm = true := by rfl)
    (hs1 : starEach [a, b] X.env = (false, eval a X.env) :: starEach [b] X.env := by rfl) (hs2 : starEach [b] X.env = (false, eval b X.env) :: starEach [] X.env := by rfl) :
    DS X Γ (.Assign [.Tuple [.Name n pn, .Name m pm] kt pt] (.Tuple [a, b] k2 pt2) pos) (.nx ((Γ.set i (.rdl cs)).set j (.rdl ds))) :=
  PS.wk (ps_par hc hN hi hj hij hn hm (pa_cons ha (pa_cons hb pa_nil hs2) hs1) hw hs) fun D σ H ⟨H0, ok, q⟩ => ⟨H0, ok, fun a us H1 n1 e1 h1 r1 => ⟨H0, ok.mono e1, fun b vs H2 n2 e2 h2 r2 => by
    obtain ⟨Hb, b1, b2, b3, b4, b5⟩ := ((ok.mono e1).mono e2).max
    refine ⟨.ref a, .ref b, rfl, q Hb _ H2 b1 ((b3.putR (b4 a _ (e2 a _ h1) (fun i hi => ?_)) ((r1.ex e2).at b5)).putR (b4 b _ h2 ((ok.mono e1).fresh n2)) (r2.at b5))⟩
    exact ok.fresh n1 i hi⟩⟩
end

/-! ### built-ins -/
section
variable {X : Cx} {Γ : List Cell} {a b e : Expr} {d x y : PyData} {ds es : List PyData} {p pos : Pos}
theorem dpsL {K : PySem.W.Frag} {H : Hp} : ∀ {vs : List V} {ds : List PyData}, DpAll K H vs ds → vs.length = ds.length
  | _, [], h => by cases h; rfl
  | _, _ :: ds, h => by
    cases h with
    | cons _ h2 => rw [List.length_cons, List.length_cons, dpsL h2]
theorem de_lenT (h : DE X Γ e (.tuple ds)) (hm : X.mg "len" = none) (hg : Gl X "len" := by rfl) (hs : starEach [e] X.env = (false, eval e X.env) :: starEach [] X.env := by rfl) (hpl : (backTo pos (starEach [] X.env)).any (·.1) = false := by rfl) : DE X Γ (.Call (.Name "len" p) [e] [] pos) (.int ds.length) :=
  PE.wk (pe_callB call_len_seq hg hm (by decide +kernel) (pa_cons h pa_nil hs) (by decide) (by decide) hs hpl) fun σ H Q ⟨H0, ok, q⟩ => ⟨H0, ok, fun v H1 e1 r1 => by
    cases r1 with
    | @tup a vs _ h1 h2 =>
      refine ⟨a, vs, rfl, .inr h1, ?_⟩
      rw [h2.length]
      exact q _ H1 e1 (.int _)⟩
theorem de_lenL (h : DL X Γ e ds) (hm : X.mg "len" = none) (hg : Gl X "len" := by rfl) (hs : starEach [e] X.env = (false, eval e X.env) :: starEach [] X.env := by rfl) (hpl : (backTo pos (starEach [] X.env)).any (·.1) = false := by rfl) : DE X Γ (.Call (.Name "len" p) [e] [] pos) (.int ds.length) :=
  PE.wk (pe_callB call_len_seq hg hm (by decide +kernel) (pa_cons h pa_nil hs) (by decide) (by decide) hs hpl) fun σ H Q ⟨H0, ok, q⟩ => ⟨H0, ok, fun a vs H1 e1 h1 h2 => by
      refine ⟨a, vs, rfl, .inl (.of h1), ?_⟩
      rw [h2.length]
      exact q _ H1 e1 (.int _)⟩
/-- tuple(a list) -/
theorem de_tupL (h : DL X Γ e ds) (hm : X.mg "tuple" = none) (hg : Gl X "tuple" := by rfl) (hs : starEach [e] X.env = (false, eval e X.env) :: starEach [] X.env := by rfl) (hpl : (backTo pos (starEach [] X.env)).any (·.1) = false := by rfl) : DE X Γ (.Call (.Name "tuple" p) [e] [] pos) (.tuple ds) :=
  PE.wk (pe_callTy call_tuple_of hg hm (by decide +kernel) (pa_cons h pa_nil hs) (by decide) (by decide) hs hpl) fun σ H Q ⟨H0, ok, q⟩ => ⟨H0, ok, fun a vs H1 e1 h1 h2 =>
    ⟨a, vs, rfl, .inl ⟨.of h1, fun l hl => q _ _ (e1.trans (sameNew hl)) (.tup (.of upd_same) (h2.ex (sameNew hl)))⟩⟩⟩
/-- list(a list), list(a tuple) -/
theorem dn_lstL (h : DL X Γ e ds) (hm : X.mg "list" = none) (hg : Gl X "list" := by rfl) (hs : starEach [e] X.env = (false, eval e X.env) :: starEach [] X.env := by rfl) (hpl : (backTo pos (starEach [] X.env)).any (·.1) = false := by rfl) : DN X Γ (.Call (.Name "list" p) [e] [] pos) ds :=
  PE.wk (pe_callTy call_list_of hg hm (by decide +kernel) (pa_cons h pa_nil hs) (by decide) (by decide) hs hpl) fun σ H Q ⟨H0, ok, q⟩ => ⟨H0, ok, fun a vs H1 e1 h1 h2 =>
    ⟨a, vs, rfl, .inl (.of h1), fun l hl => q l vs _ (e1.free hl) (e1.trans (sameNew hl)) upd_same (h2.ex (sameNew hl))⟩⟩
theorem dn_lstT (h : DE X Γ e (.tuple ds)) (hm : X.mg "list" = none) (hg : Gl X "list" := by rfl) (hs : starEach [e] X.env = (false, eval e X.env) :: starEach [] X.env := by rfl) (hpl : (backTo pos (starEach [] X.env)).any (·.1) = false := by rfl) : DN X Γ (.Call (.Name "list" p) [e] [] pos) ds :=
  PE.wk (pe_callTy call_list_of hg hm (by decide +kernel) (pa_cons h pa_nil hs) (by decide) (by decide) hs hpl) fun σ H Q ⟨H0, ok, q⟩ => ⟨H0, ok, fun v H1 e1 r1 => by
    cases r1 with
    | @tup a vs _ h1 h2 => exact ⟨a, vs, rfl, .inr h1, fun l hl => q l vs _ (e1.free hl) (e1.trans (sameNew hl)) upd_same (h2.ex (sameNew hl))⟩⟩
theorem de_all {bs : List Bool} (h : DL X Γ e (bs.map .bool)) (hm : X.mg "all" = none) (hc : X.calm = true := by rfl) (hg : Gl X "all" := by rfl) (hs : starEach [e] X.env = (false, eval e X.env) :: starEach [] X.env := by rfl) (hpl : (backTo pos (starEach [] X.env)).any (·.1) = false := by rfl) : DE X Γ (.Call (.Name "all" p) [e] [] pos) (.bool (bs.all id)) :=
  PE.wk (pe_callB (cr_all hc) hg hm (by decide +kernel) (pa_cons h pa_nil hs) (by decide) (by decide) hs hpl) fun σ H Q ⟨H0, ok, q⟩ => ⟨H0, ok, fun a vs H1 e1 h1 h2 => by
    rw [h2.bools] at h1
    exact ⟨a, bs, rfl, .of h1, q _ H1 e1 (.bl _)⟩⟩
theorem de_any {bs : List Bool} (h : DL X Γ e (bs.map .bool)) (hm : X.mg "any" = none) (hc : X.calm = true := by rfl) (hg : Gl X "any" := by rfl) (hs : starEach [e] X.env = (false, eval e X.env) :: starEach [] X.env := by rfl) (hpl : (backTo pos (starEach [] X.env)).any (·.1) = false := by rfl) : DE X Γ (.Call (.Name "any" p) [e] [] pos) (.bool (bs.any id)) :=
  PE.wk (pe_callB (cr_any hc) hg hm (by decide +kernel) (pa_cons h pa_nil hs) (by decide) (by decide) hs hpl) fun σ H Q ⟨H0, ok, q⟩ => ⟨H0, ok, fun a vs H1 e1 h1 h2 => by
    rw [h2.bools] at h1
    exact ⟨a, bs, rfl, .of h1, q _ H1 e1 (.bl _)⟩⟩

/-! ### subscripts -/
theorem de_ixT {i : Int} (ha : DE X Γ a (.tuple ds)) (hb : DE X Γ b (.int i)) (he : atI ds i = some d) (hp : PlainIx b := by exact fun _ _ => rfl) : DE X Γ (.Subscript a b pos) d :=
  PE.wk (pe_ix ix_tup ha hb hp) fun σ H Q ⟨H0, ok, q⟩ => ⟨H0, ok, fun u H1 e1 r1 => ⟨H0, ok.mono e1, fun v H2 e2 r2 => by
    have r1' := TD.ex e2 r1
    cases r2
    cases r1' with
    | @tup t vs _ h1 h2 =>
      unfold atI at he
      obtain ⟨j, hj, hd⟩ := Option.bind_eq_some_iff.mp he
      obtain ⟨z, hz, rz⟩ := h2.get hd
      refine ⟨t, vs, i, z, rfl, rfl, h1, ?_, q z H2 (e1.trans e2) rz⟩
      unfold atI
      rw [h2.length, hj]
      exact hz⟩⟩
theorem de_ixL {i : Int} (ha : DL X Γ a ds) (hb : DE X Γ b (.int i)) (he : atI ds i = some d) (hp : PlainIx b := by exact fun _ _ => rfl) : DE X Γ (.Subscript a b pos) d :=
  PE.wk (pe_ix ix_list ha hb hp) fun σ H Q ⟨H0, ok, q⟩ => ⟨H0, ok, fun t vs H1 e1 h1 r1 => ⟨H0, ok.mono e1, fun v H2 e2 r2 => by
    cases r2
    unfold atI at he
    obtain ⟨j, hj, hd⟩ := Option.bind_eq_some_iff.mp he
    obtain ⟨z, hz, rz⟩ := (r1.ex e2).get hd
    refine ⟨t, vs, i, z, rfl, rfl, .of (e2 _ _ h1), ?_, q z H2 (e1.trans e2) rz⟩
    unfold atI
    rw [r1.length, hj]
    exact hz⟩⟩
/-- slices of lists -/
theorem dn_slL {lo hi : Option Expr} {l u : Option Int} {p2 : Pos} {tl th : TO} (ha : DL X Γ a ds) (hl : PO X lo tl) (hu : PO X hi th) (rl : ∀ σ H Q, (∃ H0, EnvOk X.prog X.w X.K H0 H σ Γ ∧ ∀ H', Same H H' → Q l H') → tl σ H Q) (ru : ∀ σ H Q, (∃ H0, EnvOk X.prog X.w X.K H0 H σ Γ ∧ ∀ H', Same H H' → Q u H') → th σ H Q) :
    DN X Γ (.Subscript a (.Slice lo hi none p2) pos) ((ds.drop (HT.sIx ds.length 0 l)).take (HT.sIx ds.length ds.length u - HT.sIx ds.length 0 l)) :=
  PE.wk (pe_slice sl_list ha hl hu) fun σ H Q ⟨H0, ok, q⟩ => ⟨H0, ok, fun t vs H1 e1 h1 r1 => rl σ H1 _ ⟨H0, ok.mono e1, fun H2 e2 => ru σ H2 _ ⟨H0, ok.mono (e1.trans e2), fun H3 e3 =>
    ⟨t, vs, rfl, .of ((e2.trans e3) _ _ h1), fun pp hp => by
      have e' := (e1.trans e2).trans e3
      refine q pp _ _ (e'.free hp) (e'.trans (sameNew hp)) upd_same ?_
      have r3 := r1.ex (e2.trans e3)
      unfold cutV
      rw [r1.length]
      exact ((r3.drop _).take _).ex (sameNew hp)⟩⟩⟩⟩
theorem po_no : ∃ t, PO X none t ∧ ∀ σ H Q, (∃ H0, EnvOk X.prog X.w X.K H0 H σ Γ ∧ ∀ H', Same H H' → Q none H') → t σ H Q := ⟨_, po_none, fun σ H Q ⟨H0, ok, q⟩ => q H (Same.refl H)⟩
theorem po_so {i : Int} (h : DE X Γ e (.int i)) : ∃ t, PO X (some e) t ∧ ∀ σ H Q, (∃ H0, EnvOk X.prog X.w X.K H0 H σ Γ ∧ ∀ H', Same H H' → Q (some i) H') → t σ H Q :=
  ⟨_, po_some h, fun σ H Q ⟨H0, ok, q⟩ => ⟨H0, ok, fun v H1 e1 r1 => by
    cases r1
    exact ⟨i, rfl, q H1 e1⟩⟩⟩
end
end K54
set_option Elab.async false
set_option linter.all false
set_option autoImplicit false
set_option maxRecDepth 100000
set_option maxHeartbeats 1000000
/-! K54: how places, lots, looks, camps stand as data -/
namespace K54
open PySem PySem.Spec PyProof.Rows L2
abbrev Lot := List Nat
abbrev Looks := List Lot
abbrev Camps := Lot × Lot
def eN (n : Nat) : PyData := .int (n : Int)
def eLot (l : Lot) : PyData := .tuple (l.map eN)
def eLooks (L : Looks) : PyData := .tuple (L.map eLot)
def eCamps (c : Camps) : PyData := .tuple [eLot c.1, eLot c.2]
/-- nice: no dict, no odd text, not deep -/
def Nice (d : PyData) (k : Nat) : Prop := d.canLay0 = true ∧ d.depth ≤ k
theorem Nice.shaped {d : PyData} {k : Nat} (h : Nice d k) (hk : k ≤ 64) : SeqAt.shaped d = true := by
  unfold SeqAt.shaped
  rw [h.1, decide_eq_true (Nat.le_trans h.2 hk)]; rfl
theorem nice_int (i : Int) : Nice (.int i) 0 := ⟨by simp [PyData.canLay0], by simp [PyData.depth]⟩
theorem nice_bool (i : Bool) : Nice (.bool i) 0 := ⟨by simp [PyData.canLay0], by simp [PyData.depth]⟩
theorem nice_none : Nice .none 0 := ⟨by simp [PyData.canLay0], by simp [PyData.depth]⟩
theorem Nice.up {d : PyData} {k m : Nat} (h : Nice d k) (hm : k ≤ m) : Nice d m := ⟨h.1, Nat.le_trans h.2 hm⟩
theorem nice_all {k : Nat} : ∀ {ds : List PyData}, (∀ d ∈ ds, Nice d k) → PyData.canLayAll0 ds = true ∧ PyData.depthAll ds ≤ k
  | [], _ => ⟨by simp [PyData.canLayAll0], by simp [PyData.depthAll]⟩
  | d :: ds, h => by
    obtain ⟨h1, h2⟩ := nice_all (ds := ds) fun x hx => h x (List.mem_cons_of_mem _ hx)
    obtain ⟨h3, h4⟩ := h d List.mem_cons_self
    refine ⟨by simp [PyData.canLayAll0, h1, h3], ?_⟩
    simp only [PyData.depthAll]
    omega
theorem nice_tup {k : Nat} {ds : List PyData} (h : ∀ d ∈ ds, Nice d k) : Nice (.tuple ds) (k + 1) := by
  obtain ⟨h1, h2⟩ := nice_all h
  exact ⟨by simp [PyData.canLay0, h1], by simp only [PyData.depth]; omega⟩
theorem nice_lst {k : Nat} {ds : List PyData} (h : ∀ d ∈ ds, Nice d k) : Nice (.list ds) (k + 1) := by
  obtain ⟨h1, h2⟩ := nice_all h
  exact ⟨by simp [PyData.canLay0, h1], by simp only [PyData.depth]; omega⟩
theorem nice_tmap {α : Type} {k : Nat} {f : α → PyData} {xs : List α} (h : ∀ x, Nice (f x) k) : Nice (.tuple (xs.map f)) (k + 1) := nice_tup fun d hd => by
  obtain ⟨x, _, rfl⟩ := List.mem_map.mp hd
  exact h x
theorem nice_lmap {α : Type} {k : Nat} {f : α → PyData} {xs : List α} (h : ∀ x, Nice (f x) k) : Nice (.list (xs.map f)) (k + 1) := nice_lst fun d hd => by
  obtain ⟨x, _, rfl⟩ := List.mem_map.mp hd
  exact h x
theorem nice_N (n : Nat) : Nice (eN n) 0 := nice_int _
theorem nice_Lot (l : Lot) : Nice (eLot l) 1 := nice_tmap nice_N
theorem nice_Looks (L : Looks) : Nice (eLooks L) 2 := nice_tmap nice_Lot
theorem nice_pair {k : Nat} {x y : PyData} (hx : Nice x k) (hy : Nice y k) : Nice (.tuple [x, y]) (k + 1) := nice_tup fun d hd => by
  rcases List.mem_cons.mp hd with e | hd
  · rw [e]; exact hx
  · rw [List.mem_singleton.mp hd]; exact hy
theorem nice_Camps (c : Camps) : Nice (eCamps c) 2 := nice_pair (nice_Lot _) (nice_Lot _)

/-! ### == of such data is equality -/
def EqvIs {α : Type} [DecidableEq α] (f : α → PyData) : Prop := ∀ x y, PyData.eqv (f x) (f y) = decide (x = y)
theorem eqvAll_map {α : Type} [DecidableEq α] {f : α → PyData} (h : EqvIs f) : ∀ xs ys : List α, PyData.eqvAll (xs.map f) (ys.map f) = decide (xs = ys)
  | [], [] => by simp [PyData.eqvAll]
  | [], _ :: _ => by simp [PyData.eqvAll]
  | _ :: _, [] => by simp [PyData.eqvAll]
  | x :: xs, y :: ys => by
    rw [List.map_cons, List.map_cons, PyData.eqvAll, h x y, eqvAll_map h xs ys]
    by_cases e : x = y <;> by_cases e2 : xs = ys <;> simp [e, e2]
theorem eqv_tmap {α : Type} [DecidableEq α] {f : α → PyData} (h : EqvIs f) : EqvIs (fun xs : List α => PyData.tuple (xs.map f)) := fun xs ys => by
  show PyData.eqv (.tuple (xs.map f)) (.tuple (ys.map f)) = _
  rw [PyData.eqv, eqvAll_map h]
theorem eqv_lmap {α : Type} [DecidableEq α] {f : α → PyData} (h : EqvIs f) : EqvIs (fun xs : List α => PyData.list (xs.map f)) := fun xs ys => by
  show PyData.eqv (.list (xs.map f)) (.list (ys.map f)) = _
  rw [PyData.eqv, eqvAll_map h]
theorem eqv_N : EqvIs eN := fun x y => by
  show PyData.eqv (.int (x : Int)) (.int (y : Int)) = _
  rw [PyData.eqv, Bool.beq_eq_decide_eq]
  by_cases e : x = y
  · subst e; simp
  · have : ¬ ((x : Int) = (y : Int)) := by omega
    simp [e, this]
theorem eqv_Lot : EqvIs eLot := eqv_tmap eqv_N
theorem eqv_Looks : EqvIs eLooks := eqv_tmap eqv_Lot
theorem eqv_pair {α β : Type} [DecidableEq α] [DecidableEq β] {f : α → PyData} {g : β → PyData} (h : EqvIs f) (k : EqvIs g) : EqvIs (fun c : α × β => PyData.tuple [f c.1, g c.2]) := fun x y => by
  show PyData.eqv (.tuple [f x.1, g x.2]) (.tuple [f y.1, g y.2]) = _
  rw [PyData.eqv, PyData.eqvAll, PyData.eqvAll, PyData.eqvAll, h, k]
  by_cases e : x.1 = y.1 <;> by_cases e2 : x.2 = y.2 <;> simp [e, e2, Prod.ext_iff]
theorem eqv_Camps : EqvIs eCamps := eqv_pair eqv_Lot eqv_Lot

/-! ### a place in a lot -/
theorem inV_nats (n : Nat) (l : Lot) : inV (.int (n : Int)) (l.map fun k : Nat => V.int (k : Int)) = decide (n ∈ l) := by
  unfold inV
  rw [List.any_map]
  induction l with
  | nil => simp
  | cons k l ih =>
    rw [List.any_cons, ih]
    show ((k : Int) == (n : Int) || decide (n ∈ l)) = decide (n ∈ k :: l)
    rw [Bool.beq_eq_decide_eq]
    by_cases e : n = k
    · subst e; simp
    · have : ¬ ((k : Int) = (n : Int)) := by omega
      simp [e, this]
theorem flat_nats (l : Lot) : (l.map fun k : Nat => V.int (k : Int)).all flatV = true := by
  induction l with
  | nil => rfl
  | cons k l ih => rw [List.map_cons, List.all_cons, ih]; rfl
theorem tdLot {K : PySem.W.Frag} {H : Hp} {v : V} {l : Lot} (h : TD K H v (eLot l)) : ∃ a, v = .ref a ∧ SqT K H a (l.map fun k : Nat => V.int (k : Int)) := by
  unfold eLot at h
  cases h with
  | @tup a xs _ h1 h2 =>
    refine ⟨a, rfl, ?_⟩
    have e : l.map eN = (l.map fun k : Nat => (k : Int)).map .int := by rw [List.map_map]; rfl
    rw [e] at h2
    rw [h2.ints, List.map_map] at h1
    exact h1
theorem opIn {K : PySem.W.Frag} {n : Nat} {l : Lot} : OpT K (rIn K false) (eN n) (eLot l) (.bool (decide (n ∈ l))) := fun u v H Q h1 h2 q => by
  cases h1
  obtain ⟨a, rfl, s⟩ := tdLot h2
  refine ⟨a, _, rfl, .inr s, rfl, flat_nats l, ?_⟩
  rw [inV_nats]
  exact q _ _ (Same.refl H) (.bl _)
theorem opNotIn {K : PySem.W.Frag} {n : Nat} {l : Lot} : OpT K (rIn K true) (eN n) (eLot l) (.bool (!decide (n ∈ l))) := fun u v H Q h1 h2 q => by
  cases h1
  obtain ⟨a, rfl, s⟩ := tdLot h2
  refine ⟨a, _, rfl, .inr s, rfl, flat_nats l, ?_⟩
  rw [inV_nats]
  exact q _ _ (Same.refl H) (.bl _)
end K54
set_option Elab.async false
set_option linter.all false
set_option autoImplicit false
set_option maxRecDepth 100000
set_option maxHeartbeats 4000000
/-! K54: sets whose elements are nested tuples of numbers, 1: the kind of such keys; the search; adding -/
namespace K54
open PySem PySem.Spec PyProof.Rows L2

/-! ### the keys: nested tuples of numbers and None -/
mutual
def numK : NestedKey → Bool
  | .none => true
  | .num _ => true
  | .text _ => false
  | .tup ks => numKs ks
def numKs : List NestedKey → Bool
  | [] => true
  | k :: ks => numK k && numKs ks
end
section
variable {P : Program} {w : World} {A : Around} {E : Value → Shared → Prop}
/-- a loop over values that goes on at each -/
theorem forGo {β : Type} {s : Shared} (vs : List Value) (f : Value → β → Sem (ForInStep β)) (b : β) {Q : β → Shared → Prop} (hf : ∀ v ∈ vs, ∀ Q' : ForInStep β → Shared → Prop, Q' (.yield b) s → wpAny (model P w) A (f v b) Q' E s) (h : Q b s) : wpAny (model P w) A (forIn vs b f) Q E s := by
  refine wpAny_forIn_list _ (fun rest r s' => r = b ∧ s' = s ∧ ∀ v ∈ rest, v ∈ vs) _ ?_ ?_ _ _ ⟨rfl, rfl, fun _ h => h⟩
  · rintro v rest r s' ⟨rfl, rfl, hall⟩
    exact hf v (hall v List.mem_cons_self) _ ⟨rfl, rfl, fun u hu => hall u (List.mem_cons_of_mem _ hu)⟩
  · rintro r s' ⟨rfl, rfl, _⟩
    exact h
mutual
theorem hashByKey : ∀ (k : NestedKey) (v : Value) (n : Nat) (s : Shared) (Q : Bool → Shared → Prop), NestedIs s.heap k v → k.depth ≤ n → numK k = true → Q true s → wpAny (model P w) A (hashByValue n v) Q E s
  | .none, _, n, s, Q, x, _, _, h => by cases x; cases n <;> exact wpAny_pure h
  | .num i, _, n, s, Q, x, _, _, h => by cases x <;> cases n <;> exact wpAny_pure h
  | .text y, _, n, s, Q, x, _, hk, h => by simp [numK] at hk
  | .tup ks, _, n, s, Q, x, hn, hk, h => by
    cases x with
    | @tup a o vs m _ h1 h2 h3 h4 =>
      cases n with
      | zero => simp [NestedKey.depth] at hn
      | succ n =>
        unfold hashByValue
        refine wpAny_bind (wpAny_specialOf ⟨o, h1, h2⟩ F.slot_tuple_hash.lookup ?_)
        show wpAny _ _ (seqItems? (.ref a) >>= _) _ _ s
        refine wpAny_bind (wpAny_seqItems h1 h3 ?_)
        refine wpAny_bind ?_
        show wpAny _ _ (forIn vs _ _) _ _ s
        rw [← Array.forIn_toList]
        refine forGo vs.toList _ _ (fun v hv Q' q' => ?_) (wpAny_pure h)
        refine hashByKeys ks vs.toList n s h4 (by simp only [NestedKey.depth] at hn; omega) (by simpa [numK] using hk) v hv _ ?_
        simp only [Bool.not_true, Bool.false_eq_true, if_false]
        exact wpAny_pure q'
theorem hashByKeys : ∀ (ks : List NestedKey) (vs : List Value) (n : Nat) (s : Shared), NestedAll s.heap ks vs → NestedKey.depthAll ks ≤ n → numKs ks = true → ∀ v ∈ vs, ∀ {α : Type} (g : Bool → Sem α) {Q : α → Shared → Prop}, wpAny (model P w) A (g true) Q E s → wpAny (model P w) A (hashByValue n v >>= g) Q E s
  | [], _, _, _, x, _, _, v, hv, _, _, _, _ => by cases x; cases hv
  | k :: ks, _, n, s, x, hn, hk, v, hv, α, g, Q, h => by
    simp only [numKs, Bool.and_eq_true] at hk
    simp only [NestedKey.depthAll] at hn
    cases x with
    | cons h1 h2 =>
      rcases List.mem_cons.mp hv with e | hv
      · subst e
        exact wpAny_bind (hashByKey k _ n s _ h1 (by omega) hk.1 h)
      · exact hashByKeys ks _ n s h2 (by omega) hk.2 v hv g h
end
mutual
theorem ofClsKey : ∀ (k : NestedKey) (v : Value) (n : Nat) (s : Shared) (Q : Bool → Shared → Prop), NestedIs s.heap k v → k.depth ≤ n → Q false s → wpAny (model P w) A (ofAClassStatement n v) Q E s
  | .none, _, n, s, Q, x, _, h => by cases x; cases n <;> exact wpAny_pure h
  | .num i, _, n, s, Q, x, _, h => by cases x <;> cases n <;> exact wpAny_pure h
  | .text y, _, n, s, Q, x, _, h => by cases x; cases n <;> exact wpAny_pure h
  | .tup ks, _, n, s, Q, x, hn, h => by
    cases x with
    | @tup a o vs m _ h1 h2 h3 h4 =>
      unfold ofAClassStatement
      refine wpAny_bind (wpAny_typeOf ⟨o, h1, h2⟩ ?_)
      dsimp only
      rw [if_pos (show (("tuple" : String) == "tuple") = true by decide)]
      refine wpAny_bind (wpAny_pure ?_)
      simp only [Bool.not_true, Bool.false_eq_true, if_false]
      cases n with
      | zero => simp [NestedKey.depth] at hn
      | succ n =>
        show wpAny _ _ (seqItems? (.ref a) >>= _) _ _ s
        refine wpAny_bind (wpAny_seqItems h1 h3 ?_)
        dsimp only
        refine wpAny_bind ?_
        show wpAny _ _ (forIn vs _ _) _ _ s
        rw [← Array.forIn_toList]
        refine forGo vs.toList _ _ (fun v hv Q' q' => ?_) (wpAny_pure h)
        refine ofClsKeys ks vs.toList n s h4 (by simp only [NestedKey.depth] at hn; omega) v hv _ ?_
        simp only [Bool.false_eq_true, if_false]
        exact wpAny_pure q'
theorem ofClsKeys : ∀ (ks : List NestedKey) (vs : List Value) (n : Nat) (s : Shared), NestedAll s.heap ks vs → NestedKey.depthAll ks ≤ n → ∀ v ∈ vs, ∀ {α : Type} (g : Bool → Sem α) {Q : α → Shared → Prop}, wpAny (model P w) A (g false) Q E s → wpAny (model P w) A (ofAClassStatement n v >>= g) Q E s
  | [], _, _, _, x, _, v, hv, _, _, _, _ => by cases x; cases hv
  | k :: ks, _, n, s, x, hn, v, hv, α, g, Q, h => by
    simp only [NestedKey.depthAll] at hn
    cases x with
    | cons h1 h2 =>
      rcases List.mem_cons.mp hv with e | hv
      · subst e
        exact wpAny_bind (ofClsKey k _ n s _ h1 (by omega) h)
      · exact ofClsKeys ks _ n s h2 (by omega) v hv g h
end
end
/-- the tuple at b in h is the key k -/
def NK (h : Heap) (k : NestedKey) (b : Addr) : Prop := NestedIs h k (.ref b) ∧ k.depth ≤ 8 ∧ numK k = true
theorem NK.keep {h h' : Heap} {k : NestedKey} {b : Addr} (x : NK h k b) (e : ∀ c o vs n, h.get? c = some o → o.data = .seq vs n → h'.get? c = some o) : NK h' k b := ⟨NestedIs.at e _ _ x.1, x.2⟩
/-- a set's own object may change -/
theorem NK.same {h h' : Heap} {k : NestedKey} {a b : Addr} {o : Obj} {es : Array (Int × Value)} {ep : Nat} {t : SetTable} (x : NK h k b) (ho : h.get? a = some o) (hd : o.data = .set es ep t) (e : Heap.SameBut a h h') : NK h' k b :=
  x.keep fun c oc vs n hc hs => (e.2 c fun z => by
    subst z
    rw [ho] at hc
    cases hc
    rw [hd] at hs
    cases hs).trans hc

/-! ### the set -/
abbrev Rw := NestedKey × Addr
def rowE (w : World) (r : Rw) : Int × Value := (r.1.hash w, .ref r.2)
structure NTab (w : World) (h : Heap) (a : Addr) (L : List Rw) (es : Array (Int × Value)) (ep : Nat) (t : SetTable) : Prop where
  obj : ∃ o, h.get? a = some o ∧ o.ExactSet ∧ o.data = .set es ep t
  rows : es.toList = L.map (rowE w)
  tab : TabOk t (L.map fun r => r.1.hash w)
  nodup : (L.map (·.1)).Nodup
  keys : ∀ r ∈ L, NK h r.1 r.2
  plain : t.plain = true
  led : w.params.followText "set-order" = true ∨ t.led = true
  room : L.length * 5 < t.mask * 3
  few : L.length < 64
section
variable {P : Program} {w : World} {A : Around} {E : Value → Shared → Prop} {s : Shared} {a : Addr} {L : List Rw} {es : Array (Int × Value)} {ep : Nat} {t : SetTable}
theorem rows_size (h : es.toList = L.map (rowE w)) : es.size = L.length := by
  have q := congrArg List.length h
  rwa [Array.length_toList, List.length_map] at q
theorem NTab.size {h : Heap} (R : NTab w h a L es ep t) : es.size = L.length := rows_size R.rows
theorem fits_of {n : Nat} (h1 : t.place.size = n) (h2 : t.dummies = #[]) (h3 : n ≤ t.mask) : t.fits n = true := by
  unfold SetTable.fits SetTable.fill
  rw [h2, Bool.and_eq_true, beq_iff_eq, decide_eq_true_eq]
  exact ⟨h1, by rw [h1]; exact h3⟩
theorem NTab.plc {h : Heap} (R : NTab w h a L es ep t) : t.place.size = L.length := by
  have q := R.tab.sz
  rwa [List.length_map] at q
theorem NTab.fits {h : Heap} (R : NTab w h a L es ep t) : t.fits es.size = true := fits_of (by rw [R.plc, R.size]) R.tab.dm (by rw [R.size]; have := R.room; omega)
theorem rows_at (h : es.toList = L.map (rowE w)) {i : Nat} {r : Rw} (hr : L[i]? = some r) : es[i]? = some (rowE w r) := by
  rw [← Array.getElem?_toList, h, List.getElem?_map, hr]; rfl
theorem NTab.ask {h : Heap} (R : NTab w h a L es ep t) : ¬ t.gaveWay = true := by
  unfold SetTable.gaveWay
  rw [mask_odd R.tab.mok]
  decide
/-- no search among such keys shows the table -/
theorem unseen {k : NestedKey} {b : Addr} {Q : Bool → Shared → Prop} (hk : NK s.heap k b) (ys : List Value) (hy : ∀ y ∈ ys, ∃ k' c, y = Value.ref c ∧ NK s.heap k' c) (h : Q false s) : wpAny (model P w) A (searchCouldBeSeen (.ref b) ys) Q E s := by
  unfold searchCouldBeSeen
  refine wpAny_bind (forGo ys _ _ (fun v hv Q' q' => ?_) (wpAny_pure h))
  obtain ⟨k', c, rfl, hc⟩ := hy v hv
  dsimp only
  by_cases e : (b == c || (carriedByValue (.ref b) && carriedByValue (.ref c))) = true
  · exact wp_if_pos e (wpAny_pure q')
  · refine wp_if_neg e ?_
    refine wpAny_bind (quiet_key k _ 8 s hk.1 hk.2.1 A E _ ?_)
    simp only [Bool.not_true, Bool.false_eq_true, if_false]
    refine wpAny_bind (quiet_key k' _ 8 s hc.1 hc.2.1 A E _ ?_)
    simp only [Bool.not_true, Bool.false_eq_true, if_false]
    refine wpAny_bind (ofClsKey k _ 8 s _ hk.1 hk.2.1 ?_)
    simp only [Bool.false_eq_true, if_false]
    refine wpAny_bind (ofClsKey k' _ 8 s _ hc.1 hc.2.1 ?_)
    simp only [Bool.false_eq_true, if_false]
    exact wpAny_pure q'
/-- the c-th step of the way of a hash -/
abbrev stepW (m : Nat) (h : Int) (c : Nat) : SetTable.Probe := nth m (runAt m (SetTable.bits h % (m + 1)) (SetTable.bits h)) c
theorem stepW_add (m : Nat) (h : Int) (c q : Nat) : nth m (stepW m h c) q = stepW m h (c + q) := (nth_add m c _ q).symm
theorem stepW_dummy (m : Nat) (h : Int) (c : Nat) : (stepW m h c).dummy = none := by
  have key : ∀ (n : Nat) (p : SetTable.Probe), p.dummy = none → (nth m p n).dummy = none := by
    intro n
    induction n with
    | zero => exact fun _ e => e
    | succ n ih =>
      intro p e
      refine ih (adv m p) ?_
      unfold adv
      split <;> exact e
  exact key c _ rfl
/-- what a probe from the c-th step answers -/
theorem probe_says {h0 : Heap} (R : NTab w h0 a L es ep t) (hh : Int) {K c : Nat} (hKf : K < 10 * SetTable.turns t.mask) (hc : c ≤ K) (hK : way t.mask hh K ∉ t.place.toList) (hb : ∀ q, q < K → way t.mask hh q ∈ t.place.toList) :
    (∃ (q i : Nat) (r : Rw), c ≤ q ∧ q < K ∧ t.place.toList[i]? = some (way t.mask hh q) ∧ L[i]? = some r ∧ r.1.hash w = hh ∧ (∀ (q' i' : Nat) (r' : Rw), c ≤ q' → q' < q → t.place.toList[i']? = some (way t.mask hh q') → L[i']? = some r' → r'.1.hash w ≠ hh) ∧
      t.probe (fun i => (es[i]?.map (·.1)).getD 0) hh (stepW t.mask hh c) = some (.candidate (way t.mask hh q) i (stepW t.mask hh (q + 1)))) ∨
    ((∀ (q' i' : Nat) (r' : Rw), c ≤ q' → q' < K → t.place.toList[i']? = some (way t.mask hh q') → L[i']? = some r' → r'.1.hash w ≠ hh) ∧ t.probe (fun i => (es[i]?.map (·.1)).getD 0) hh (stepW t.mask hh c) = some (.empty (way t.mask hh K) none)) := by
  have jw : ∀ q, (nth t.mask (stepW t.mask hh c) q).j = way t.mask hh (c + q) := fun q => congrArg SetTable.Probe.j (stepW_add t.mask hh c q)
  have ha : ∀ {i : Nat} {r : Rw}, L[i]? = some r → (es[i]?.map (·.1)).getD 0 = r.1.hash w := fun hr => by rw [rows_at R.rows hr]; rfl
  have inL : ∀ {i j : Nat}, t.place.toList[i]? = some j → ∃ r, L[i]? = some r := fun {i j} hi => by
    have h1 := (List.getElem?_eq_some_iff.mp hi).1
    rw [Array.length_toList, R.plc] at h1
    exact ⟨_, List.getElem?_eq_getElem h1⟩
  rcases go_spec t R.tab.ris R.tab.dm (fun i => (es[i]?.map (·.1)).getD 0) hh (10 * SetTable.turns t.mask) (K - c) (stepW t.mask hh c) (stepW_dummy _ _ _) (by omega) (fun q hq => by rw [jw]; exact hb _ (by omega)) (by rw [jw, show c + (K - c) = K by omega]; exact hK) with ⟨q, i, h1, h2, h3, h4, h5⟩ | ⟨h1, h2⟩
  · left
    rw [jw] at h2
    obtain ⟨r, hr⟩ := inL h2
    refine ⟨c + q, i, r, by omega, by omega, h2, hr, (ha hr).symm.trans h3, fun q' i' r' g1 g2 g3 g4 => ?_, ?_⟩
    · rw [← ha g4]
      exact h4 (q' - c) i' (by omega) (by rw [jw, show c + (q' - c) = q' by omega]; exact g3)
    · have e : stepW t.mask hh (c + q + 1) = nth t.mask (stepW t.mask hh c) (q + 1) := by rw [stepW_add]; rfl
      rw [e, ← jw]
      exact h5
  · right
    refine ⟨fun q' i' r' g1 g2 g3 g4 => ?_, ?_⟩
    · rw [← ha g4]
      exact h1 (q' - c) i' (by omega) (by rw [jw, show c + (q' - c) = q' by omega]; exact g3)
    · have e := h2
      rw [jw, show c + (K - c) = K by omega] at e
      exact e
/-- the search, from the c-th step of the way -/
theorem search_go (R : NTab w s.heap a L es ep t) {x : Addr} {k : NestedKey} (hx : NK s.heap k x) (hu : A.units + 8 < cLine) {K : Nat} (hKf : K < 10 * SetTable.turns t.mask) (hK : way t.mask (k.hash w) K ∉ t.place.toList) (hb : ∀ q, q < K → way t.mask (k.hash w) q ∈ t.place.toList) {Q : SetFound → Shared → Prop}
    (yes : k ∈ L.map (·.1) → Q (.there none) s) (no : k ∉ L.map (·.1) → Q (.free (way t.mask (k.hash w) K) false) s) :
    ∀ (f c : Nat) (stand : Option SetTable.Probe), stand.getD (t.probeStart (k.hash w)) = stepW t.mask (k.hash w) c → c ≤ K → K - c < f → (∀ (i : Nat) (r : Rw), L[i]? = some r → r.1 = k → ∃ q, c ≤ q ∧ q < K ∧ t.place.toList[i]? = some (way t.mask (k.hash w) q)) →
      wpAny (model P w) A (setSearchFrom a (.ref x) (k.hash w) true f stand) Q E s
  | 0, _, _, _, _, hf, _ => absurd hf (Nat.not_lt_zero _)
  | f + 1, c, stand, hst, hc, hf, met => by
    obtain ⟨o, ho, hex, hd⟩ := R.obj
    rw [setSearchFrom_succ]
    refine wpAny_bind (wpAny_setState_of ho hd R.fits ?_)
    dsimp only
    refine wp_if_neg R.ask ?_
    try refine wpAny_bind (wpAny_pure ?_)
    rw [hst]
    rcases probe_says R (k.hash w) hKf hc hK hb with ⟨q, i, r, g1, g2, g3, g4, g5, g6, g7⟩ | ⟨g1, g2⟩
    · rw [g7]
      dsimp only
      have hrm := List.mem_of_getElem? g4
      have rest : wpAny (model P w) A (searchRest a (.ref x) (k.hash w) true f es t (way t.mask (k.hash w) q) i (stepW t.mask (k.hash w) (q + 1))) Q E s := by
        unfold searchRest
        rw [rows_at R.rows g4]
        dsimp only [rowE]
        refine wpAny_bind (wpAny_holding (eqAt_key r.1 k A s _ _ (R.keys r hrm).1 hx.1 (by have := hx.2.1; have := (R.keys r hrm).2.1; omega) P w _ _ ?_))
        refine wpAny_bind (wpAny_setState_of ho hd R.fits ?_)
        dsimp only
        by_cases e : r.1 = k
        · rw [show NestedKey.beq r.1 k = true by rw [e]; exact NestedKey.beq_self k]
          refine wp_if_pos rfl (wpAny_pure (yes (List.mem_map.mpr ⟨r, hrm, e⟩)))
        · have eb : NestedKey.beq r.1 k = false := by rw [← NestedKey.decide_eq]; exact decide_eq_false e
          rw [eb]
          refine wp_if_neg (by decide) ?_
          try refine wpAny_bind (wpAny_pure ?_)
          rw [sameMem]
          dsimp only
          have sl : t.slot (way t.mask (k.hash w) q) = .live i := slot_live R.tab.ris g3
          simp only [if_true, sl, rows_at R.rows g4, rowE]
          refine wpAny_bind (wpAny_isSame_ref_self (wpAny_bind (wpAny_pure ?_)))
          simp only [if_true]
          refine wp_if_neg (by decide) ?_
          refine search_go R hx hu hKf hK hb yes no f (q + 1) _ rfl (by omega) (by omega) fun i0 r0 h0 e0 => ?_
          obtain ⟨q0, m1, m2, m3⟩ := met i0 r0 h0 e0
          refine ⟨q0, ?_, m2, m3⟩
          rcases Nat.lt_trichotomy q0 q with z | z | z
          · exact absurd (congrArg (NestedKey.hash w) e0) (g6 q0 i0 r0 m1 z m3 h0)
          · rw [z] at m3
            have s0 := slot_live R.tab.ris m3
            rw [sl] at s0
            cases s0
            rw [g4] at h0
            cases h0
            exact absurd e0 e
          · exact z
      by_cases hl : t.led = true
      · refine wp_if_neg (by simp [hl]) ?_
        try refine wpAny_bind (wpAny_pure ?_)
        exact rest
      · refine wp_if_pos (by simp [hl]) ?_
        refine wpAny_bind (unseen hx _ (fun y hy => ?_) ?_)
        · obtain ⟨e, he, ee⟩ := List.mem_map.mp hy
          have he2 : e ∈ es.toList := by
            have z : e ∈ es ∧ e.1 = k.hash w := by simpa using he
            simpa using z.1
          rw [R.rows] at he2
          obtain ⟨r2, hr2, e2⟩ := List.mem_map.mp he2
          exact ⟨r2.1, r2.2, by rw [← ee, ← e2]; rfl, R.keys r2 hr2⟩
        · refine wp_if_neg (by decide) ?_
          try refine wpAny_bind (wpAny_pure ?_)
          exact rest
    · rw [g2]
      dsimp only
      refine wpAny_pure (no fun hm => ?_)
      obtain ⟨r0, h0, e0⟩ := List.mem_map.mp hm
      obtain ⟨i0, hi0, ei⟩ := List.getElem_of_mem h0
      have h00 : L[i0]? = some r0 := by rw [List.getElem?_eq_getElem hi0, ei]
      obtain ⟨q0, m1, m2, m3⟩ := met i0 r0 h00 e0
      exact absurd (congrArg (NestedKey.hash w) e0) (g1 q0 i0 r0 m1 m2 m3 h00)
theorem search_add (R : NTab w s.heap a L es ep t) {x : Addr} {k : NestedKey} (hx : NK s.heap k x) (hu : A.units + 8 < cLine) {Q : SetFound → Shared → Prop} (yes : k ∈ L.map (·.1) → Q (.there none) s)
    (no : ∀ K, k ∉ L.map (·.1) → way t.mask (k.hash w) K ∉ t.place.toList → (∀ q, q < K → way t.mask (k.hash w) q ∈ t.place.toList) → Q (.free (way t.mask (k.hash w) K) false) s) : wpAny (model P w) A (setSearch a (.ref x) (k.hash w) true) Q E s := by
  have room := R.room
  obtain ⟨K, hKf, hK, hb⟩ := R.tab.first (by rw [List.length_map]; omega) (k.hash w)
  have big : K < 100000 := by
    have : 10 * SetTable.turns t.mask ≤ 1420 := by
      unfold SetTable.turns
      rcases R.tab.mok with e | e | e <;> omega
    omega
  unfold setSearch
  refine search_go R hx hu hKf hK hb yes (fun hn => no K hn hK hb) 100000 0 none rfl (Nat.zero_le _) (by omega) fun i r hr e => ?_
  have hi : (L.map fun r => r.1.hash w)[i]? = some (k.hash w) := by rw [List.getElem?_map, hr, ← e]; rfl
  have hl : i < t.place.toList.length := by
    rw [Array.length_toList, R.plc]
    exact (List.getElem?_eq_some_iff.mp hr).1
  obtain ⟨q, hq, eq⟩ := R.tab.before hK hi (List.getElem?_eq_getElem hl)
  exact ⟨q, Nat.zero_le _, hq, by rw [List.getElem?_eq_getElem hl, eq]⟩
end
end K54
set_option Elab.async false
set_option linter.all false
set_option autoImplicit false
set_option maxRecDepth 100000
set_option maxHeartbeats 4000000
/-! K54: sets whose elements are nested tuples of numbers, 2: adding, set(a list) -/
namespace K54
open PySem PySem.Spec PyProof.Rows L2
section
variable {P : Program} {w : World} {A : Around} {E : Value → Shared → Prop} {s : Shared} {a : Addr} {L : List Rw} {es : Array (Int × Value)} {ep : Nat} {t : SetTable}
theorem fmEq {α β : Type} {f g : α → Option β} : ∀ {l : List α}, (∀ i ∈ l, f i = g i) → l.filterMap f = l.filterMap g
  | [], _ => rfl
  | x :: l, h => by
    rw [List.filterMap_cons, List.filterMap_cons, h x List.mem_cons_self, fmEq fun i hi => h i (List.mem_cons_of_mem _ hi)]
theorem fmRange {α : Type} (l : List α) : ∀ n, n ≤ l.length → (List.range n).filterMap (fun i => l[i]?) = l.take n
  | 0, _ => by simp
  | n + 1, h => by
    rw [List.range_succ, List.filterMap_append, fmRange l n (by omega), List.take_add_one, List.filterMap_cons, List.filterMap_nil, List.getElem?_eq_getElem (by omega)]; rfl
theorem fmMap {α β : Type} {f : α → Option β} {g : α → β} : ∀ {l : List α}, (∀ i ∈ l, f i = some (g i)) → l.filterMap f = l.map g
  | [], _ => rfl
  | x :: l, h => by
    rw [List.filterMap_cons, h x List.mem_cons_self, List.map_cons, ← fmMap fun i hi => h i (List.mem_cons_of_mem _ hi)]
/-- the rows in another order -/
theorem rows_order (hr : es.toList = L.map (rowE w)) (ord : Array Nat) (hp : ord.toList.Perm (List.range L.length)) :
    ∃ M : List Rw, (ord.filterMap (es[·]?)).toList = M.map (rowE w) ∧ M.Perm L ∧ M.map (fun r => r.1.hash w) = ord.toList.map fun i => (es.map (·.1)).getD i 0 := by
  have hin : ∀ i ∈ ord.toList, i < L.length := fun i hi => List.mem_range.mp (hp.mem_iff.mp hi)
  refine ⟨ord.toList.filterMap (fun i => L[i]?), ?_, ?_, ?_⟩
  · rw [Array.toList_filterMap, List.map_filterMap]
    refine fmEq fun i hi => ?_
    have hl := hin i hi
    rw [List.getElem?_eq_getElem hl, rows_at hr (List.getElem?_eq_getElem hl)]; rfl
  · have h1 : (ord.toList.filterMap (fun i => L[i]?)).Perm ((List.range L.length).filterMap (fun i => L[i]?)) := hp.filterMap _
    rw [fmRange L _ (Nat.le_refl _), List.take_length] at h1
    exact h1
  · rw [List.map_filterMap]
    refine fmMap fun i hi => ?_
    have hl := hin i hi
    rw [List.getElem?_eq_getElem hl]
    have e := rows_at hr (List.getElem?_eq_getElem hl)
    simp [Array.getD_eq_getD_getElem?, Array.getElem?_map, e, rowE]
/-- the table laid anew -/
theorem relay_go {o : Obj} (ho : s.heap.get? a = some o) (hex : o.ExactSet) (hd : o.data = .set es ep t) (hr : es.toList = L.map (rowE w)) (hz : t.place.size = es.size) (hdm : t.dummies = #[]) (hfl : es.size ≤ t.mask) (nd : (L.map (·.1)).Nodup) (ks : ∀ r ∈ L, NK s.heap r.1 r.2)
    (pl : t.plain = true) (ld : w.params.followText "set-order" = true ∨ t.led = true) (few : L.length < 64) {wanted m : Nat} (hw : SetTable.sizeAbove wanted - 1 = m) (hm : MaskOk m) (hw2 : SetTable.sizeAbove wanted ≤ 128) (hn : L.length * 5 < m * 3) {Q : Unit → Shared → Prop}
    (hQ : ∀ h' M es' ep' t', Heap.SameBut a s.heap h' → NTab w h' a M es' ep' t' → M.Perm L → Q () { s with heap := h' }) : wpAny (model P w) A (setRelay a wanted) Q E s := by
  have hsl := rows_size hr
  obtain ⟨t', ord, e, hp, T, em, el, epl, ed⟩ := relaid_ok t (hs := es.map (·.1)) (wanted := wanted) hw hm (by rw [Array.size_map, hsl]; omega)
  rw [Array.size_map, hsl] at hp
  obtain ⟨M, r1, r2, r3⟩ := rows_order hr ord hp
  rw [← r3] at T
  have hs2 : (ord.filterMap (es[·]?)).size = es.size := by rw [rows_size r1, r2.length_eq, hsl]
  rw [setRelay_eq]
  refine wpAny_bind (wpAny_setState_of ho hd (fits_of hz hdm hfl) ?_)
  dsimp only
  refine wp_if_neg (by rw [sizeLine_eq]; omega) ?_
  try refine wpAny_bind (wpAny_pure ?_)
  rw [e]
  dsimp only
  refine wpAny_bind ?_
  refine wp_if_neg (by rw [hs2]; simp) ?_
  try refine wpAny_bind (wpAny_pure ?_)
  refine wpAny_pure ?_
  dsimp only
  refine wpAny_storeSet_of ho hd ?_ (by rw [hs2, hsl, sizeLine_eq]; omega)
  have sb : Heap.SameBut a s.heap (s.heap.update a (Obj.putSet (ord.filterMap (es[·]?)) t')) := Heap.SameBut.update ..
  exact hQ _ M (ord.filterMap (es[·]?)) (ep + 1) t' sb ⟨⟨_, store_at ho hd, ⟨hex.1, hex.2.1, hex.2.2⟩, rfl⟩, r1, T, (r2.map (·.1)).nodup_iff.mpr nd, fun r hrm => (ks r (r2.mem_iff.mp hrm)).same ho hd sb,
    by rw [epl]; exact pl, by rw [el]; exact ld, by rw [r2.length_eq, em]; exact hn, by rw [r2.length_eq]; exact few⟩ r2
/-- adding: the rows as they were, or the new one among them -/
theorem add_go (R : NTab w s.heap a L es ep t) {x : Addr} {k : NestedKey} (hx : NK s.heap k x) (hu : A.units + 8 < cLine) (few : L.length + 1 < 64) {Q : Bool → Shared → Prop}
    (hQ : ∀ b h' M es' ep' t', Heap.SameBut a s.heap h' → NTab w h' a M es' ep' t' → (k ∈ L.map (·.1) → M = L) → (k ∉ L.map (·.1) → M.Perm ((k, x) :: L)) → Q b { s with heap := h' }) : wpAny (model P w) A (setAddHashed a (.ref x) (k.hash w)) Q E s := by
  obtain ⟨o, ho, hex, hd⟩ := R.obj
  have hsl := R.size
  have room := R.room
  unfold setAddHashed
  refine wpAny_holding ?_
  rw [show (100000 : Nat) = 99999 + 1 from rfl, setAddHashedIn_succ]
  refine wpAny_bind (wpAny_setState_of ho hd R.fits ?_)
  dsimp only
  refine wp_if_neg (by simp [byScan, Value.scannable]) ?_
  try refine wpAny_bind (wpAny_pure ?_)
  refine wpAny_bind (search_add R hx hu (fun hm => ?_) fun q hm hq hb => ?_)
  · dsimp only
    exact wpAny_pure (hQ false s.heap L es ep t (Heap.SameBut.refl a s.heap) R (fun _ => rfl) fun z => absurd hm z)
  · dsimp only
    refine wpAny_bind (wpAny_setState_of ho hd R.fits ?_)
    dsimp only
    obtain ⟨q1, q2, q3, q4, q5, q6, _, _, q9⟩ := R.tab.put hq hb
    have pl1 : (t.put (way t.mask (k.hash w) q)).1.plain = true := by rw [q6]; exact R.plain
    generalize t.put (way t.mask (k.hash w) q) = pt at q1 q3 q4 q5 q6 q9 pl1 ⊢
    obtain ⟨t1, p⟩ := pt
    dsimp only at q1 q3 q4 q5 q6 q9 pl1 ⊢
    subst q1
    first
      | (refine wpAny_bind ?_; refine wp_if_pos pl1 ?_; refine hashByKey k _ 8 s _ hx.1 hx.2.1 hx.2.2 ?_)
      | refine wp_if_pos pl1 (wpAny_bind (hashByKey k _ 8 s _ hx.1 hx.2.1 hx.2.2 ?_))
    simp only [if_true]
    generalize SetTable.below t.place (way t.mask (k.hash w) q) = p at q2 q3 ⊢
    rw [List.length_map] at q2
    -- the rows with the new one
    obtain ⟨M, hM⟩ : ∃ M, M = L.take p ++ (k, x) :: L.drop p := ⟨_, rfl⟩
    have pm : M.Perm ((k, x) :: L) := by rw [hM]; exact put_perm L p (k, x)
    have ml : M.length = L.length + 1 := pm.length_eq
    have rowsM : (SetTable.insertAt es p (k.hash w, Value.ref x)).toList = M.map (rowE w) := by
      rw [SetTable.toList_insertAt, R.rows, hM, List.map_append, List.map_cons, List.map_take, List.map_drop]; rfl
    have hashM : M.map (fun r => r.1.hash w) = (L.map fun r => r.1.hash w).take p ++ k.hash w :: (L.map fun r => r.1.hash w).drop p := by
      rw [hM, List.map_append, List.map_cons, List.map_take, List.map_drop]
    rw [← hashM] at q3
    have ndM : (M.map (·.1)).Nodup := by
      refine (pm.map (·.1)).nodup_iff.mpr ?_
      rw [List.map_cons]
      exact List.nodup_cons.mpr ⟨hm, R.nodup⟩
    have esz := rows_size rowsM
    rw [ml] at esz
    generalize SetTable.insertAt es p (k.hash w, Value.ref x) = es1 at rowsM esz ⊢
    refine wpAny_bind (wpAny_storeSet_of ho hd ?_ (by rw [esz, sizeLine_eq]; omega))
    have sb : Heap.SameBut a s.heap (s.heap.update a (Obj.putSet es1 t1)) := Heap.SameBut.update ..
    have ho1 := store_at (es' := es1) (t' := t1) ho hd
    generalize s.heap.update a (Obj.putSet es1 t1) = h1 at sb ho1 ⊢
    have ksM : ∀ r ∈ M, NK h1 r.1 r.2 := fun r hr => by
      rcases List.mem_cons.mp (pm.mem_iff.mp hr) with e | hr
      · rw [e]; exact hx.same ho hd sb
      · exact (R.keys r hr).same ho hd sb
    have ldM : w.params.followText "set-order" = true ∨ t1.led = true := by rw [q5]; exact R.led
    rw [List.length_map] at q9
    by_cases hf : t1.tooFull = true
    · first
        | (refine wpAny_bind ?_; refine wp_if_pos (by simp [hf]) ?_)
        | (refine wp_if_pos (by simp [hf]) ?_; refine wpAny_bind ?_)
      have full : (L.length + 1) * 5 ≥ t1.mask * 3 := by
        have z := hf
        unfold SetTable.tooFull at z
        rwa [decide_eq_true_eq, q9] at z
      have pz : t1.place.size = es1.size := by
        have z := q3.sz
        rw [List.length_map, ml] at z
        rw [z, esz]
      rw [hsl]
      have two : (t.mask = 7 ∧ L.length = 4) ∨ (t.mask = 31 ∧ L.length = 18) := by
        rcases R.tab.mok with e | e | e
        · left; rw [q4, e] at full; rw [e] at room; omega
        · right; rw [q4, e] at full; rw [e] at room; omega
        · exfalso; rw [q4, e] at full; omega
      have go : ∀ m, SetTable.sizeAbove (SetTable.grown (L.length + 1)) - 1 = m → MaskOk m → SetTable.sizeAbove (SetTable.grown (L.length + 1)) ≤ 128 → (L.length + 1) * 5 < m * 3 →
          wpAny (model P w) A (setRelay a (SetTable.grown (L.length + 1))) (fun _ s' => wpAny (model P w) A (pure true) Q E s') E { s with heap := h1 } := fun m g1 g2 g3 g4 =>
        relay_go (s := { s with heap := h1 }) ho1 ⟨hex.1, hex.2.1, hex.2.2⟩ rfl rowsM pz q3.dm (by rw [esz, q4]; rcases two with ⟨e, e2⟩ | ⟨e, e2⟩ <;> omega) ndM ksM pl1 ldM (by rw [ml]; exact few) g1 g2 g3 (by rw [ml]; exact g4)
          fun h2 N es2 ep2 t2 sb2 R2 pm2 => wpAny_pure (hQ true h2 N es2 ep2 t2 (sb.trans sb2) R2 (fun z => absurd z hm) fun _ => pm2.trans pm)
      rcases two with ⟨_, e⟩ | ⟨_, e⟩
      · exact go 31 (by rw [e, size_20]) (.inr (.inl rfl)) (by rw [e, size_20]; decide) (by omega)
      · exact go 127 (by rw [e, size_76]) (.inr (.inr rfl)) (by rw [e, size_76]; decide) (by omega)
    · first
        | refine wp_if_neg (by simp [hf]) ?_
        | (refine wpAny_bind ?_; refine wp_if_neg (by simp [hf]) ?_; refine wpAny_pure ?_)
      refine wpAny_pure (hQ true h1 M es1 (ep + 1) t1 sb ⟨⟨_, ho1, ⟨hex.1, hex.2.1, hex.2.2⟩, rfl⟩, rowsM, q3, ndM, ksM, pl1, ldM, ?_, by rw [ml]; exact few⟩ (fun z => absurd z hm) fun _ => pm)
      have z := hf
      unfold SetTable.tooFull at z
      rw [decide_eq_true_eq, q9] at z
      rw [ml]
      omega

/-! ### what a set has from the first i of the rows xs -/
structure Has (xs : List Rw) (i : Nat) (L : List Rw) : Prop where
  sub : ∀ r ∈ L, r ∈ xs.take i
  all : ∀ r ∈ xs.take i, r.1 ∈ L.map (·.1)
  len : L.length ≤ i
theorem Has.zero (xs : List Rw) : Has xs 0 [] := ⟨fun _ h => (nomatch h), fun r h => (by simp at h), Nat.le_refl _⟩
theorem Has.step {xs L M : List Rw} {i : Nat} {r : Rw} (g : Has xs i L) (h : xs[i]? = some r) (h1 : r.1 ∈ L.map (·.1) → M = L) (h2 : r.1 ∉ L.map (·.1) → M.Perm (r :: L)) : Has xs (i + 1) M := by
  have e : xs.take (i + 1) = xs.take i ++ [r] := by rw [List.take_add_one, h]; rfl
  by_cases c : r.1 ∈ L.map (·.1)
  · rw [h1 c]
    refine ⟨fun q hq => by rw [e]; exact List.mem_append_left _ (g.sub q hq), fun q hq => ?_, Nat.le_succ_of_le g.len⟩
    rw [e] at hq
    rcases List.mem_append.mp hq with z | z
    · exact g.all q z
    · rw [List.mem_singleton.mp z]; exact c
  · have pm := h2 c
    refine ⟨fun q hq => ?_, fun q hq => ?_, by rw [pm.length_eq, List.length_cons]; exact Nat.succ_le_succ g.len⟩
    · rw [e]
      rcases List.mem_cons.mp (pm.mem_iff.mp hq) with z | z
      · rw [z]; exact List.mem_append_right _ (List.mem_singleton.mpr rfl)
      · exact List.mem_append_left _ (g.sub q z)
    · rw [(pm.map (·.1)).mem_iff, List.map_cons]
      rw [e] at hq
      rcases List.mem_append.mp hq with z | z
      · exact List.mem_cons_of_mem _ (g.all q z)
      · rw [List.mem_singleton.mp z]; exact List.mem_cons_self
theorem NTab.keep {h h' : Heap} (R : NTab w h a L es ep t) (ha : ∀ o, h.get? a = some o → h'.get? a = some o) (hk : ∀ r ∈ L, NK h' r.1 r.2) : NTab w h' a L es ep t := by
  obtain ⟨o, ho, q⟩ := R.obj
  exact ⟨⟨o, ha o ho, q⟩, R.rows, R.tab, R.nodup, hk, R.plain, R.led, R.room, R.few⟩
abbrev newSet (w : World) : Obj := { cls := .type "set", dict := none, data := .set #[] 0 (.fresh 0 0 (!w.params.followText "set-order")) }
theorem ntab_new {h : Heap} (ho : h.get? a = some (newSet w)) : NTab w h a [] #[] 0 (.fresh 0 0 (!w.params.followText "set-order")) where
  obj := ⟨_, ho, ⟨rfl, rfl, rfl⟩, rfl⟩
  rows := rfl
  tab := ⟨List.Pairwise.nil, rfl, rfl, .inl rfl, fun x hx => (by cases hx), fun i h j hi => (by simp at hi)⟩
  nodup := List.nodup_nil
  keys := fun _ h => (nomatch h)
  plain := rfl
  led := by
    show _ ∨ (!w.params.followText "set-order") = true
    cases w.params.followText "set-order"
    · exact .inr rfl
    · exact .inl rfl
  room := by show 0 * 5 < 7 * 3; decide
  few := by show 0 < 64; decide
/-- the loop of set.update -/
theorem fill_set {I : Addr} {fp wr : List Addr} {G : Array GenState → Array GenState → Prop} {n : Nat} {Pv : Nat → Value → Prop} {St : Nat → Shared → Prop} {Rz : Result → Shared → Prop} (W : WalksS P w A.in1 I fp wr G n Pv St) (S : Addr) (hSf : S ∉ fp) (xs : List Rw) (hn : n = xs.length) (few : xs.length < 64)
    (hv : ∀ i v, Pv i v → ∃ r, xs[i]? = some r ∧ v = .ref r.2) (h0 : Heap) (hk : ∀ r ∈ xs, NK h0 r.1 r.2) (hS0 : h0.get? S = none) (hw0 : ∀ b ∈ wr, h0.get? b = none) (hu : A.in1.units + 8 < cLine) :
    ∀ (k i : Nat) (s : Shared), n - i = k → i ≤ n → St i s → (∀ b o, h0.get? b = some o → s.heap.get? b = some o) → (∃ L es ep t, NTab w s.heap S L es ep t ∧ Has xs i L) →
      (∀ s' L es ep t, Moved (S :: wr) G s s' → NTab w s'.heap S L es ep t → Has xs n L → (∀ b o, h0.get? b = some o → s'.heap.get? b = some o) → Rz (.ok (.ret .none)) s') →
      codeAny (model P w) A (.builtin "set.update.loop" ⟨[.ref S, .ref I], []⟩) Rz s := by
  have hSw : S ∉ wr := fun z => hSf (W.sub _ z)
  have up : ∀ b ∈ wr, b ∈ S :: wr := fun b hb => List.mem_cons_of_mem _ hb
  have keepM : ∀ {s s' : Shared}, Moved wr G s s' → (∀ b o, h0.get? b = some o → s.heap.get? b = some o) → ∀ b o, h0.get? b = some o → s'.heap.get? b = some o := fun hm kp b o e =>
    hm.heap b o (fun hb => by rw [hw0 b hb] at e; cases e) (kp b o e)
  have old : ∀ {s' : Shared}, (∀ b o, h0.get? b = some o → s'.heap.get? b = some o) → ∀ r ∈ xs, NK s'.heap r.1 r.2 := fun kp r hr => (hk r hr).keep fun c o _ _ e _ => kp c o e
  intro k
  induction k with
  | zero =>
    intro i s hk' hi hst kp ⟨L, es, ep, t, hS, g⟩ hR
    have hin : i = n := by omega
    subst hin
    refine codeAny_builtin F.entry_set_update_loop ?_
    rw [Around.under_plainId F.plain_set_update_loop _]
    show wpAny _ A.in1 (pyNext (.ref I) >>= _) _ _ s
    refine wpAny_bind (W.done s _ _ hst fun s' hm => ?_)
    show wpAny _ A.in1 (ret Value.none) _ _ s'
    have kp' := keepM hm kp
    exact wpAny_pure (hR s' L es ep t (hm.mono up) (hS.keep (fun o e => hm.heap S o hSw e) fun r hr => old kp' r (List.mem_of_mem_take (g.sub r hr))) g kp')
  | succ k ih =>
    intro i s hk' hi hst kp ⟨L, es, ep, t, hS, g⟩ hR
    have hlt : i < n := by omega
    refine codeAny_builtin F.entry_set_update_loop ?_
    rw [Around.under_plainId F.plain_set_update_loop _]
    show wpAny _ A.in1 (pyNext (.ref I) >>= _) _ _ s
    refine wpAny_bind (W.item i s _ _ hlt hst fun v s' hP hst' hm => ?_)
    obtain ⟨r, hr, rfl⟩ := hv i v hP
    have kp' := keepM hm kp
    have hS' : NTab w s'.heap S L es ep t := hS.keep (fun o e => hm.heap S o hSw e) fun q hq => old kp' q (List.mem_of_mem_take (g.sub q hq))
    have hx := old kp' r (List.mem_of_getElem? hr)
    show wpAny _ A.in1 (holding [Value.ref r.2] (setAdd S (.ref r.2)) >>= _) _ _ s'
    refine wpAny_bind (wpAny_holding ?_)
    unfold setAdd
    refine wpAny_holding ?_
    refine wpAny_bind (pyHash_key r.1 _ _ s' _ hx.1 (by have := hx.2.1; omega) ?_)
    refine add_go (s := { s' with toks := s'.toks + r.1.draws }) hS' hx hu (by have := g.len; omega) fun b h' M es' ep' t' sb hS2 c1 c2 => ?_
    have kp2 : ∀ b o, h0.get? b = some o → h'.get? b = some o := fun b o e => (sb.2 b (fun z => by rw [z, hS0] at e; cases e)).trans (kp' b o e)
    refine wpAny_pure ⟨plainId_quiet F.plain_set_update_loop _, ih (i + 1) _ (by omega) hlt (W.frame _ s' _ _ hst' (Nat.le_add_right _ _) fun b hb o e => ?_) kp2 ⟨M, es', ep', t', hS2, g.step hr c1 c2⟩ fun s'' L2 es2 ep2 t2 hm2 hS3 g3 kp3 => ?_⟩
    · rw [sb.2 b (fun z : b = S => hSf (by rw [← z]; exact hb))]; exact e
    · refine hR s'' L2 es2 ep2 t2 (Moved.trans W.gtrans ((hm.mono up).then_heap (Nat.le_add_right _ _) fun b o hb e => ?_) hm2) hS3 g3 kp3
      rw [sb.2 b (fun z : b = S => hb (by rw [z]; exact List.mem_cons_self))]; exact e
end
end K54
set_option Elab.async false
set_option linter.all false
set_option autoImplicit false
set_option maxRecDepth 100000
set_option maxHeartbeats 4000000
/-! K54: sets of nested tuples of numbers, 3: set(xs) of a list or of a tuple -/
namespace K54
open PySem PySem.Spec PyProof.Rows L2
section
variable {P : Program} {w : World} {A : Around} {E : Value → Shared → Prop} {s : Shared}
abbrev hSet (w : World) (h : Heap) : Heap := h.push (newSet w)
/-- how the loop of set.update must go for set(xs): over any walk of the items it ends in a heap of which Z holds -/
def Fills (P : Program) (w : World) (A : Around) (s : Shared) (items : Array Value) (Z : Heap → Prop) : Prop :=
  ∀ (A' : Around) (I : Addr) (fp : List Addr) (St : Nat → Shared → Prop) (s1 : Shared) (Rz : Result → Shared → Prop), A'.in1.units ≤ A.units + 4 → WalksS P w A'.in1 I fp [I] (fun a b => b = a) items.size (fun i v => items[i]? = some v) St → s.heap.objs.size ∉ fp → St 0 s1 → s.heap.objs.size < I →
    s1.heap.get? s.heap.objs.size = some (newSet w) → (∀ b o, s.heap.get? b = some o → s1.heap.get? b = some o) →
    (∀ s', Moved [s.heap.objs.size, I] (fun a b => b = a) s1 s' → Z s'.heap → Rz (.ok (.ret .none)) s') → codeAny (model P w) A' (.builtin "set.update.loop" ⟨[.ref s.heap.objs.size, .ref I], []⟩) Rz s1
theorem freeAt {h : Heap} {b : Addr} (hb : h.objs.size ≤ b) : h.get? b = none := by
  cases q : h.get? b with
  | none => rfl
  | some o => exact absurd (Nat.lt_of_lt_of_le (Heap.lt_size q) hb) (Nat.lt_irrefl _)
/-- iter(x) of the object at l, some T: a walk of these items -/
def Iters (P : Program) (w : World) (l : Addr) (ol : Obj) (items : Array Value) : Prop :=
  ∀ (A1 A2 : Around) (s1 : Shared) (E : Value → Shared → Prop) (Q : Value → Shared → Prop), A2.handled = none → s1.heap.get? l = some ol →
    (∀ (io : Obj) (St : Nat → Heap → Prop), PySem.Walks P w A2 s1.heap.objs.size [s1.heap.objs.size, l] [s1.heap.objs.size] items.size (fun i v => items[i]? = some v) St → St 0 (s1.heap.push io) → Q (.ref s1.heap.objs.size) { s1 with heap := s1.heap.push io }) → wpAny (model P w) A1 (pyIter (.ref l)) Q E s1
theorem iters_list {l : Addr} {ol : Obj} {items : Array Value} {n : Nat} (hc : ol.cls = .type "list") (hd : ol.data = .seq items n) : Iters P w l ol items := fun A1 A2 s1 E Q hh ho q => by
  have L1 : s1.heap.IsList l items := ⟨ol, ho, hc, n, hd⟩
  exact wpAny_pyIter_list L1 (q _ _ (PySem.Walks.list hh _ l (Nat.ne_of_lt (Heap.lt_size ho)) items) ⟨⟨_, Heap.get?_push_size _ rfl, rfl, rfl⟩, L1.push _⟩)
theorem iters_tup {l : Addr} {ol : Obj} {items : Array Value} {n : Nat} (hc : ol.cls = .type "tuple") (hd : ol.data = .seq items n) : Iters P w l ol items := fun A1 A2 s1 E Q hh ho q => by
  have L1 : s1.heap.IsTuple l items := ⟨ol, ho, hc, n, hd⟩
  exact wpAny_pyIter_tuple L1 (q _ _ (PySem.Walks.tuple hh _ l (Nat.ne_of_lt (Heap.lt_size ho)) items) ⟨⟨_, Heap.get?_push_size _ rfl, rfl, rfl⟩, L1.push _⟩)
set_option maxHeartbeats 8000000 in
theorem k_set_any {T : String} {l : Addr} {od : Option Addr} {ot : Data} {os : Array (Option Value)} {items : Array Value} {Z : Heap → Prop} {Q : Value → Shared → Prop} (n1 : isSubtype (.type T) (.type "set") = pure false) (n2 : isSubtype (.type T) (.type "frozenset") = pure false) (n3 : (Value.type T == Value.type "dict") = false)
    (hh : A.handled = none) (ho : s.heap.get? l = some { cls := .type T, dict := od, data := ot, slots := os }) (it : Iters P w l { cls := .type T, dict := od, data := ot, slots := os } items) (fill : Fills P w A s items Z)
    (hQ : ∀ (h' : Heap) (tk : Nat), Z h' → (∀ b o, s.heap.get? b = some o → h'.get? b = some o) → Q (.ref s.heap.objs.size) { s with heap := h', toks := tk }) : wpAny (model P w) A (call (.type "set") [.ref l]) Q E s := by
  obtain ⟨cc, tt, mro⟩ := F.called_set.mro
  have made := F.called_set.made
  have subs := F.called_set.sub
  refine wpAny_call (codeAny_of_tree ?_)
  show wpAny _ _ (callAny (.type "set") _) _ _ _
  refine wpAny_pure ⟨Code.quiet_builtin _ (by decide +kernel), codeAny_builtin F.entry_type_call ?_⟩
  rw [Around.under_plain (weight_type_call_type "set" [.ref l] []) rfl]
  have e1 := F.called_set.notType
  have e2 := F.called_set.canCreate
  have e3 := F.typeCall_set_1 (.ref l)
  repeat (any_goals (first | assumption | wp_step))
  refine codeAny_mono (code_set_led1 (.ref l) (E := E) (Q₁ := fun x y => x = .ref s.heap.objs.size ∧ y = { s with heap := hSet w s.heap }) ⟨rfl, rfl⟩) fun r y hr => ?_
  match r, hr with
  | .error e, hr => exact hr
  | .ok (.ret obj), hr =>
    obtain ⟨rfl, rfl⟩ := hr
    have at0 : (hSet w s.heap).get? s.heap.objs.size = some (newSet w) := Heap.get?_push_size _ rfl
    have ty0 : Shared.TypeIs { s with heap := hSet w s.heap } (.ref s.heap.objs.size) "set" := ⟨_, at0, rfl⟩
    have i1 := F.called_set.init.lookup
    have i2 := F.called_set.init.bind (.ref s.heap.objs.size)
    repeat (any_goals (first | assumption | wp_step))
    refine codeAny_mono (codeAny_call_builtin (R := wants (fun x y => x = .none ∧ ∃ h' tk, y = { s with heap := h', toks := tk } ∧ Z h' ∧ ∀ b o, s.heap.get? b = some o → h'.get? b = some o) E) F.called_set.init.plain F.entry_set_init (check_set_init_1 ty0 ?_)) fun r y hr => ?_
    · have ho1 : (hSet w s.heap).get? l = some { cls := .type T, dict := od, data := ot, slots := os } := Heap.get?_push_of_some _ ho
      unfold Builtin.«set.__init__» noKeywords Builtin.Frozenset.updateFrom
      generalize hit : pyIter = IT
      wp_walk
      subst hit
      refine it _ A.in1.in1.in1 _ _ _ (by simp [hh]) ho1 fun io St W st0 => ?_
      refine wpAny_bind (wpAny_runValue ?_)
      have lt : l < s.heap.objs.size := Heap.lt_size ho
      have sz : (hSet w s.heap).objs.size = s.heap.objs.size + 1 := Heap.size_push ..
      refine fill _ (hSet w s.heap).objs.size [(hSet w s.heap).objs.size, l] _ _ _ (by show A.units + 1 + 1 + 1 ≤ _; omega) W.toS ?_ st0 (by rw [sz]; exact Nat.lt_succ_self _) (Heap.get?_push_of_some _ at0) (fun b o e => Heap.get?_push_of_some _ (Heap.get?_push_of_some _ e)) ?_
      · rw [sz]
        intro z
        rcases List.mem_cons.mp z with z | z
        · exact absurd z (Nat.ne_of_lt (Nat.lt_succ_self _))
        · exact absurd (List.mem_singleton.mp z) (Nat.ne_of_gt lt)
      · intro ⟨h', g', d', tk', os'⟩ hm hz
        have eg : g' = s.gens := hm.gens
        have ed : d' = s.drawn := hm.drawn
        have eo : os' = s.os := hm.os
        subst eg ed eo
        show wpAny _ _ _ _ _ _
        refine wpAny_pure ?_
        show wpAny _ _ (ret Value.none) _ _ _
        refine wpAny_pure ⟨rfl, h', tk', rfl, hz, fun b o e => ?_⟩
        have lb := Heap.lt_size e
        refine hm.heap b o (fun z => ?_) (Heap.get?_push_of_some _ (Heap.get?_push_of_some _ e))
        rcases List.mem_cons.mp z with z | z
        · exact absurd z (Nat.ne_of_lt lb)
        · have := List.mem_singleton.mp z
          exact absurd (this.trans sz) (Nat.ne_of_lt (Nat.lt_succ_of_lt lb))
    · match r, hr with
      | .error e, hr => exact hr
      | .ok (.ret x), hr =>
        obtain ⟨rfl, h', tk, rfl, hz, hk⟩ := hr
        repeat (any_goals (first | assumption | wp_step))
        exact hQ _ _ hz hk
theorem k_set_list {l : Addr} {items : Array Value} {Z : Heap → Prop} {Q : Value → Shared → Prop} (hh : A.handled = none) (hl : s.heap.IsList l items) (fill : Fills P w A s items Z)
    (hQ : ∀ (h' : Heap) (tk : Nat), Z h' → (∀ b o, s.heap.get? b = some o → h'.get? b = some o) → Q (.ref s.heap.objs.size) { s with heap := h', toks := tk }) : wpAny (model P w) A (call (.type "set") [.ref l]) Q E s := by
  obtain ⟨⟨oc, od, ot, os⟩, ho, hc, nl, hd⟩ := hl
  obtain rfl : oc = .type "list" := hc
  exact k_set_any F.sub_list_set F.sub_list_frozenset (by decide) hh ho (iters_list rfl hd) fill hQ
theorem k_set_tup {l : Addr} {items : Array Value} {Z : Heap → Prop} {Q : Value → Shared → Prop} (hh : A.handled = none) (hl : s.heap.IsTuple l items) (fill : Fills P w A s items Z)
    (hQ : ∀ (h' : Heap) (tk : Nat), Z h' → (∀ b o, s.heap.get? b = some o → h'.get? b = some o) → Q (.ref s.heap.objs.size) { s with heap := h', toks := tk }) : wpAny (model P w) A (call (.type "set") [.ref l]) Q E s := by
  obtain ⟨⟨oc, od, ot, os⟩, ho, hc, nl, hd⟩ := hl
  obtain rfl : oc = .type "tuple" := hc
  exact k_set_any F.sub_tuple_set F.sub_tuple_frozenset (by decide) hh ho (iters_tup rfl hd) fill hQ
/-- ints -/
theorem fills_ints {items : Array Value} {ns : List Int} (hi : IntsAre items.toList ns) (hb : ns.length + 1 < scanBound) : Fills P w A s items (fun h => ∃ c, c ≤ ns.length ∧ SetR w h s.heap.objs.size (fun j => decide (j ∈ ns)) c) := by
  intro A' I fp St s1 Rz hu W hf st lt hS hk q
  have sz : items.size = ns.length := by
    have z := hi.length
    rwa [Array.length_toList] at z
  refine set_update_ints W s.heap.objs.size hf ns sz hb (fun i v hv => ?_) (items.size - 0) 0 s1 rfl (Nat.zero_le _) st ⟨0, Nat.le_refl _, setR_new_at hS⟩ fun s' c hm hc R => q s' hm ⟨c, by rw [← sz]; exact hc, R⟩
  obtain ⟨t, e⟩ := hi.int_at i v (by rw [Array.getElem?_toList]; exact hv)
  have lt : i < ns.length := by rw [← sz]; exact (Array.getElem?_eq_some_iff.mp hv).1
  exact ⟨ns[i], t, List.getElem?_eq_getElem lt, by rw [e, List.getD_eq_getElem?_getD, List.getElem?_eq_getElem lt]; rfl⟩
/-- nested tuples of numbers -/
theorem fills_rows {items : Array Value} {xs : List Rw} (hi : items.toList = xs.map fun r => Value.ref r.2) (few : xs.length < 64) (hk : ∀ r ∈ xs, NK s.heap r.1 r.2) (hu : A.units + 12 < cLine) : Fills P w A s items (fun h => ∃ L es ep t, NTab w h s.heap.objs.size L es ep t ∧ Has xs xs.length L) := by
  intro A' I fp St s1 Rz hu' W hf st lt hS hk' q
  have sz : items.size = xs.length := by
    have z := congrArg List.length hi
    rwa [Array.length_toList, List.length_map] at z
  refine fill_set W s.heap.objs.size hf xs sz few (fun i v hv => ?_) s.heap hk (freeAt (Nat.le_refl _)) (fun b hb => freeAt (by rw [List.mem_singleton.mp hb]; exact Nat.le_of_lt lt)) (by omega) (items.size - 0) 0 s1 rfl (Nat.zero_le _) st hk' ⟨[], #[], 0, _, ntab_new hS, Has.zero xs⟩ fun s' L es ep t hm R g kk => q s' hm ⟨L, es, ep, t, R, by rw [← sz]; exact g⟩
  have z : items.toList[i]? = some v := by rw [Array.getElem?_toList]; exact hv
  rw [hi, List.getElem?_map] at z
  obtain ⟨r, h1, h2⟩ := Option.map_eq_some_iff.mp z
  exact ⟨r, h1, h2.symm⟩
end
end K54
set_option Elab.async false
set_option linter.all false
set_option autoImplicit false
set_option maxRecDepth 100000
set_option maxHeartbeats 4000000
/-! K54: sets of nested tuples of numbers, 4: set(xs) and sorted(set) as calls on the abstract heap -/
namespace K54
open PySem PySem.Spec PyProof.Rows L2
open PySem.W (EachIs alike dataLe dataLt AllAlike Sortable)
mutual
theorem nestedOf {h : Heap} : ∀ (k : NestedKey) (v : Value) (as : List Addr), Reads h v k.data as → NestedIs h k v
  | .none, _, _, x => by
    rw [NestedKey.data] at x
    cases x; exact .none
  | .num i, _, _, x => by
    rw [NestedKey.data] at x
    cases x; exact .int _ _
  | .text y, _, _, x => by
    rw [NestedKey.data] at x
    cases x; exact .text _ _
  | .tup ks, _, _, x => by
    rw [NestedKey.data] at x
    cases x with
    | tuple h1 h2 h3 h4 => exact .tup h1 h2 h3 (nestedAllOf ks _ _ h4)
theorem nestedAllOf {h : Heap} : ∀ (ks : List NestedKey) (vs : List Value) (as : List Addr), ReadsAll h vs (NestedKey.datas ks) as → NestedAll h ks vs
  | [], _, _, x => by
    rw [NestedKey.datas] at x
    cases x; exact .nil
  | k :: ks, _, _, x => by
    rw [NestedKey.datas] at x
    cases x with
    | cons h1 h2 => exact .cons (nestedOf k _ _ h1) (nestedAllOf ks _ _ h2)
end
/-- a key that can be held -/
def KeyOk (k : NestedKey) : Prop := k.depth ≤ 8 ∧ numK k = true
/-- the set at a, the tuples aside -/
def SetN0 (w : World) (h : Heap) (a : Addr) (L : List Rw) : Prop :=
  ∃ (es : Array (Int × Value)) (ep : Nat) (t : SetTable), (∃ o, h.get? a = some o ∧ o.ExactSet ∧ o.data = .set es ep t) ∧ es.toList = L.map (rowE w) ∧ TabOk t (L.map fun r => r.1.hash w) ∧ (L.map (·.1)).Nodup ∧ t.plain = true ∧ (w.params.followText "set-order" = true ∨ t.led = true) ∧ L.length * 5 < t.mask * 3 ∧ L.length < 64
def SetNO (w : World) (a : Addr) (L : List Rw) : HO := .ext fun h => SetN0 w h a L
section
variable {P : Program} {w : World} {A : Around} {E : Value → Shared → Prop} {s : Shared} {a : Addr} {L : List Rw}
theorem NTab.bare {h : Heap} {es : Array (Int × Value)} {ep : Nat} {t : SetTable} (R : NTab w h a L es ep t) : SetN0 w h a L := ⟨es, ep, t, R.obj, R.rows, R.tab, R.nodup, R.plain, R.led, R.room, R.few⟩
theorem SetN0.full {h : Heap} (R : SetN0 w h a L) (hk : ∀ r ∈ L, NK h r.1 r.2) : ∃ es ep t, NTab w h a L es ep t := by
  obtain ⟨es, ep, t, h1, h2, h3, h4, h5, h6, h7, h8⟩ := R
  exact ⟨es, ep, t, h1, h2, h3, h4, hk, h5, h6, h7, h8⟩
theorem setNO_ok {H : Hp} {h : Heap} (R : SetN0 w h a L) : ObjOk P w H h a (SetNO w a L) := by
  obtain ⟨es, ep, t, ⟨o, ho, hr⟩, q⟩ := id R
  refine ⟨R, ⟨o, ho⟩, fun h1 h2 ⟨es', ep', t', ⟨o', ho', hr'⟩, q'⟩ k => ⟨es', ep', t', ⟨o', k o' ho', hr'⟩, q'⟩⟩
/-- a list of values that are rows' tuples -/
theorem rowsOfVals {L : List Rw} : ∀ vs : List Value, (∀ v ∈ vs, ∃ r ∈ L, v = Value.ref r.2) → ∃ M : List Rw, vs = M.map (fun r => Value.ref r.2) ∧ ∀ r ∈ M, r ∈ L
  | [], _ => ⟨[], rfl, fun _ h => nomatch h⟩
  | v :: vs, h => by
    obtain ⟨r, hr, e⟩ := h v List.mem_cons_self
    obtain ⟨M, e2, hM⟩ := rowsOfVals vs fun u hu => h u (List.mem_cons_of_mem _ hu)
    refine ⟨r :: M, by rw [e, e2]; rfl, fun q hq => ?_⟩
    rcases List.mem_cons.mp hq with z | z
    · rw [z]; exact hr
    · exact hM q z
theorem ndMap {α β : Type} {f : α → β} : ∀ {l : List α}, (l.map f).Nodup → l.Nodup
  | [], _ => List.nodup_nil
  | x :: l, h => by
    rw [List.map_cons, List.nodup_cons] at h
    exact List.nodup_cons.mpr ⟨fun z => h.1 (List.mem_map_of_mem z), ndMap h.2⟩
theorem rowsPerm {L M : List Rw} {h : Heap} (nd : (L.map (·.1)).Nodup) (hk : ∀ r ∈ L, NK h r.1 r.2) (hM : ∀ r ∈ M, r ∈ L) (pm : (M.map fun r => Value.ref r.2).Perm (L.map fun r => Value.ref r.2)) : M.Perm L := by
  have same : ∀ q ∈ L, ∀ r ∈ L, q.2 = r.2 → q = r := fun q hq r hr e => by
    have a1 := (hk q hq).1
    rw [e] at a1
    exact Prod.ext (NestedIs.inj _ _ _ a1 (hk r hr).1) e
  have nL : L.Nodup := ndMap nd
  have nR : (L.map fun r => Value.ref r.2).Nodup := by
    refine List.pairwise_map.mpr (nL.imp_of_mem fun {q r} hq hr hne e => ?_)
    injection e with e
    exact hne (same q hq r hr e)
  refine (List.perm_ext_iff_of_nodup (ndMap (pm.nodup_iff.mpr nR)) nL).mpr fun q => ⟨hM q, fun hq => ?_⟩
  obtain ⟨r, hr, e⟩ := List.mem_map.mp (pm.mem_iff.mpr (List.mem_map_of_mem (f := fun r : Rw => Value.ref r.2) hq))
  injection e with e
  rw [← same r (hM r hr) q hq e]
  exact hr
abbrev encR (r : Rw) : PyData := r.1.data
mutual
theorem dataDepth : ∀ k : NestedKey, k.data.depth = k.depth
  | .none => by simp [NestedKey.data, PyData.depth, NestedKey.depth]
  | .num i => by simp [NestedKey.data, PyData.depth, NestedKey.depth]
  | .text y => by simp [NestedKey.data, PyData.depth, NestedKey.depth]
  | .tup ks => by simp only [NestedKey.data, PyData.depth, NestedKey.depth]; rw [dataDepths ks]
theorem dataDepths : ∀ ks : List NestedKey, PyData.depthAll (NestedKey.datas ks) = NestedKey.depthAll ks
  | [] => by simp [NestedKey.datas, PyData.depthAll, NestedKey.depthAll]
  | k :: ks => by simp only [NestedKey.datas, PyData.depthAll, NestedKey.depthAll]; rw [dataDepth k, dataDepths ks]
end
mutual
/-- what reads as a key is read off no list -/
theorem readsNil {h : Heap} : ∀ (k : NestedKey) (v : Value) (as : List Addr), Reads h v k.data as → as = []
  | .none, _, _, x => by rw [NestedKey.data] at x; cases x; rfl
  | .num i, _, _, x => by rw [NestedKey.data] at x; cases x; rfl
  | .text y, _, _, x => by rw [NestedKey.data] at x; cases x; rfl
  | .tup ks, _, _, x => by
    rw [NestedKey.data] at x
    cases x with
    | tuple h1 h2 h3 h4 => exact readsNils ks _ _ h4
theorem readsNils {h : Heap} : ∀ (ks : List NestedKey) (vs : List Value) (as : List Addr), ReadsAll h vs (NestedKey.datas ks) as → as = []
  | [], _, _, x => by rw [NestedKey.datas] at x; cases x; rfl
  | k :: ks, _, _, x => by
    rw [NestedKey.datas] at x
    cases x with
    | cons h1 h2 => rw [readsNil k _ _ h1, readsNils ks _ _ h2]; rfl
end
theorem eachRows {h : Heap} {a : Addr} : ∀ {M : List Rw}, (∀ r ∈ M, Reads h (.ref r.2) r.1.data []) → EachIs (fun v b => ∃ as, Reads h v (encR b) as ∧ a ∉ as) (M.map fun r => Value.ref r.2) M
  | [], _ => .nil
  | r :: M, hr => .cons ⟨[], hr r List.mem_cons_self, fun z => nomatch z⟩ (eachRows fun q hq => hr q (List.mem_cons_of_mem _ hq))
theorem eachSelf : ∀ (M : List Rw), EachIs (fun (v : Value) (b : Rw) => v = Value.ref b.2) (M.map fun r => Value.ref r.2) M
  | [] => .nil
  | r :: M => .cons rfl (eachSelf M)
theorem eachEq : ∀ {vs : List Value} {M : List Rw}, EachIs (fun (v : Value) (b : Rw) => v = Value.ref b.2) vs M → vs = M.map fun r => Value.ref r.2
  | _, _, .nil => rfl
  | _, _, .cons h1 t => by rw [h1, eachEq t]; rfl
/-- sorted(set) -/
theorem sorted_set_rows {es : Array (Int × Value)} {ep : Nat} {t : SetTable} {Q : Value → Shared → Prop} (R : NTab w s.heap a L es ep t) (hh : A.handled = none) (hr : ∀ r ∈ L, Reads s.heap (.ref r.2) r.1.data []) (hal : AllAlike (L.map encR)) (hso : Sortable (L.map encR)) (hu : A.units + 12 < cLine)
    (hQ : ∀ s' p (out : Array Value) (c : Nat) (L' : List Rw), (∀ b o, s.heap.get? b = some o → s'.heap.get? b = some o) → s'.gens = s.gens → s'.os = s.os → s.heap.objs.size ≤ p → s'.heap.get? p = some (seqObj "list" out c) → out.toList = L'.map (fun r => Value.ref r.2) → L'.Perm L → L'.Pairwise (fun q r => dataLe false encR q r = true) → Q (.ref p) s') :
    wpAny (model P w) A (call (.builtin "sorted") [.ref a]) Q E s := by
  obtain ⟨o, ho, hex, hd⟩ := R.obj
  have hsz := R.size
  have hfew := R.few
  refine Calls.call_function_entry kind_sorted plain_sorted entry_sorted (args_sorted1 _) ?_
  unfold Builtin.«sorted»
  refine wpAny_bind (m := checkCount "sorted" 1 1 _) (wpAny_pure ?_)
  refine wpAny_bind (collect_set (A := A.in1) hh ⟨o, ho, hex.1, hd⟩ R.fits (by unfold scanBound; omega) R.tab.ris R.led fun s1 vs k1 hz g1 o1 pm => ?_)
  have rows2 : es.toList.map (·.2) = L.map fun r => Value.ref r.2 := by
    rw [R.rows, List.map_map]; rfl
  rw [rows2] at pm
  obtain ⟨M, rfl, hM⟩ := rowsOfVals vs fun v hv => by
    obtain ⟨r, hr', e⟩ := List.mem_map.mp (pm.mem_iff.mp hv)
    exact ⟨r, hr', e.symm⟩
  have pM := rowsPerm R.nodup R.keys hM pm
  have ml : M.length = L.length := pM.length_eq
  refine wpAny_bind (wpAny_newList ?_ (by rw [List.length_map, sizeLine_eq]; omega))
  have ho2 : (s1.heap.push (seqObj "list" (M.map fun r => Value.ref r.2).toArray 0)).get? s1.heap.objs.size = some (seqObj "list" (M.map fun r => Value.ref r.2).toArray 0) := Heap.get?_push_size _ rfl
  have alM : AllAlike (M.map encR) := fun d hd d' hd' => hal d ((pM.map encR).mem_iff.mp hd) d' ((pM.map encR).mem_iff.mp hd')
  have soM : Sortable (M.map encR) := by
    rcases hso with z | z
    · exact .inl fun d hd => z d ((pM.map encR).mem_iff.mp hd)
    · exact .inr fun d hd => z d ((pM.map encR).mem_iff.mp hd)
  refine wpAny_bind (wpAny_holding (PySem.W.list_sort_data (s := { s1 with heap := s1.heap.push (seqObj "list" (M.map fun r => Value.ref r.2).toArray 0) }) (enc := encR) (R := fun v b => v = Value.ref b.2) ho2 (eachSelf M) (eachRows fun r hrM => ?_) alM soM (by rw [ml, sizeLine_eq]; omega) (fun b hb => ?_) fun out hl eo => ?_))
  · exact PyProof.Rows.Reads.keeps (fun b u e => Heap.get?_push_of_some _ (k1 b u e)) (hr r (hM r hrM))
  · have q := (R.keys b (hM b hb)).2.1
    show A.units + 1 + 1 + b.1.data.depth < cLine
    rw [dataDepth]
    omega
  obtain ⟨c, hc⟩ := sortedHeap_at (vs := M.map fun r => Value.ref r.2) (out := out.toArray) ho2
  have eo' := eachEq eo
  have pS : (M.mergeSort (dataLe false encR)).Perm M := List.mergeSort_perm ..
  refine wpAny_pure ⟨_, rfl, hQ _ s1.heap.objs.size out.toArray c (M.mergeSort (dataLe false encR)) (fun b u e => ?_) g1 o1 hz hc (by simpa using eo') (pS.trans pM) ?_⟩
  · have q := k1 b u e
    have lt := Heap.lt_size q
    show (sortedHeap (s1.heap.push (seqObj "list" (M.map fun r => Value.ref r.2).toArray 0)) s1.heap.objs.size (M.map fun r => Value.ref r.2) out.toArray).get? b = some u
    rw [sortedHeap_old (Nat.ne_of_lt lt) (by rw [size_push']; exact Nat.lt_succ_of_lt lt)]
    exact Heap.get?_push_of_some _ q
  · exact PySem.W.sort_pairwise (PySem.W.sortLe_total _ _ _) M
end
section
variable {X : Cx}
theorem rows_vals : ∀ {xs : List Rw} {us : List Value}, Vals (xs.map fun r => V.ref r.2) us → us = xs.map fun r => Value.ref r.2
  | [], _, .nil => rfl
  | r :: xs, _, .cons h t => by
    cases h
    rw [rows_vals t]; rfl
theorem vals_rows : ∀ (xs : List Rw), Vals (xs.map fun r => V.ref r.2) (xs.map fun r => Value.ref r.2)
  | [] => .nil
  | r :: xs => .cons rfl (vals_rows xs)
theorem readsRow {pins : List (Addr × Obj)} {σ : L2.St} {H : Hp} {s : Shared} (I : Inv X pins σ H s) {r : Rw} (h : TD X.K H (.ref r.2) r.1.data) : Reads s.heap (.ref r.2) r.1.data [] := by
  obtain ⟨as, q⟩ := Dp.reads I _ _ _ (TD.dp _ _ h) (show RelV (.ref r.2) (.ref r.2) from rfl)
  have e := readsNil _ _ _ q
  subst e
  exact q
theorem nkRow {pins : List (Addr × Obj)} {σ : L2.St} {H : Hp} {s : Shared} (I : Inv X pins σ H s) {r : Rw} (h : TD X.K H (.ref r.2) r.1.data) (ok : KeyOk r.1) : NK s.heap r.1 r.2 := ⟨nestedOf _ _ _ (readsRow I h), ok⟩
/-- set(xs), xs a list or a tuple of such tuples -/
def rSetN (K : PySem.W.Frag) (w : World) : List V → Hp → VK → Prop := fun vs H Q => ∃ (l : Addr) (xs : List Rw), vs = [V.ref l] ∧ (SqL K H l (xs.map fun r => V.ref r.2) ∨ SqT K H l (xs.map fun r => V.ref r.2)) ∧ (∀ r ∈ xs, TD K H (.ref r.2) r.1.data ∧ KeyOk r.1) ∧ xs.length < 64 ∧
  ∀ a L, H a = none → (L.map (·.1)).Nodup → (∀ r ∈ L, r ∈ xs) → (∀ r ∈ xs, r.1 ∈ L.map (·.1)) → Q (.ref a) (upd H a (SetNO w a L))
theorem cr_setN (hc : X.calm = true) (hu : X.A.units + 64 < cLine) : CallR X (.type "set") (rSetN X.K X.w) := by
  intro pins s σ H vs us Q I r h
  obtain ⟨l, xs, rfl, hl, hk, few, q⟩ := h
  rw [Vals.ref1 r]
  have hn : H s.heap.objs.size = none := I.hok.fresh (Nat.le_refl _)
  have fin : ∀ (h' : Heap) (tk : Nat), (∃ L es ep t, NTab X.w h' s.heap.objs.size L es ep t ∧ Has xs xs.length L) → (∀ b o, s.heap.get? b = some o → h'.get? b = some o) → EP X pins σ Q (.ref s.heap.objs.size) { s with heap := h', toks := tk } := fun h' tk ⟨L, es, ep, t, R, g⟩ k =>
    ⟨.ref s.heap.objs.size, upd H s.heap.objs.size (SetNO X.w s.heap.objs.size L), I.laid (t' := tk) k (Nat.le_refl _) (setNO_ok R.bare), rfl, q _ L hn R.nodup (fun r hr => by
      have z := g.sub r hr
      rwa [List.take_length] at z) fun r hr => g.all r (by rw [List.take_length]; exact hr)⟩
  rcases hl with hl | hl
  · obtain ⟨its, rv, pl, hz⟩ := I.list hl
    exact k_set_list (I.ok.hd hc) pl.isList (fills_rows (by simpa using rows_vals rv) few (fun r hr => nkRow I (hk r hr).1 (hk r hr).2) (by omega)) fin
  · obtain ⟨its, rv, pl, hz⟩ := I.tuple hl
    exact k_set_tup (I.ok.hd hc) pl (fills_rows (by simpa using rows_vals rv) few (fun r hr => nkRow I (hk r hr).1 (hk r hr).2) (by omega)) fin
/-- sorted(set) -/
def rSortN (K : PySem.W.Frag) (w : World) : List V → Hp → VK → Prop := fun vs H Q => ∃ (a : Addr) (L : List Rw), vs = [V.ref a] ∧ H a = some (SetNO w a L) ∧ (∀ r ∈ L, TD K H (.ref r.2) r.1.data ∧ KeyOk r.1) ∧ AllAlike (L.map encR) ∧ Sortable (L.map encR) ∧
  ∀ (L' : List Rw) (p : Addr), L'.Perm L → L'.Pairwise (fun q r => dataLe false encR q r = true) → H p = none → Q (.ref p) (upd H p (.lst (L'.map fun r => V.ref r.2)))
theorem cr_sortN (hc : X.calm = true) (hu : X.A.units + 64 < cLine) : CallR X (.builtin "sorted") (rSortN X.K X.w) := by
  intro pins s σ H vs us Q I r h
  obtain ⟨a, L, rfl, ha, hk, hal, hso, q⟩ := h
  have R0 : SetN0 X.w s.heap a L := (I.hok a _ ha).1
  obtain ⟨es, ep, t, R⟩ := R0.full fun r hr => nkRow I (hk r hr).1 (hk r hr).2
  rw [Vals.ref1 r]
  refine sorted_set_rows R (I.ok.hd hc) (fun r hr => readsRow I (hk r hr).1) hal hso (by omega) fun s' p out c L' k g o hp hg hout pm pw => ?_
  have len : (L'.map fun r => V.ref r.2).length ≤ sizeLine := by rw [List.length_map, pm.length_eq, sizeLine_eq]; have := R.few; omega
  have hn : H p = none := I.hok.fresh hp
  have J : Inv X pins σ (upd H p (.lst (L'.map fun r => V.ref r.2))) { s with heap := s'.heap, gens := s'.gens, drawn := s'.drawn, toks := s'.toks } :=
    I.call (ch := []) (Un.laid k hp hn) (I.hok.laid k hp ⟨len, out.toList, c, by rw [hout]; exact vals_rows L', hg⟩) (by rw [g]; exact I.bare) (fun _ z => nomatch z)
  have e : s' = { s with heap := s'.heap, gens := s'.gens, drawn := s'.drawn, toks := s'.toks } := by
    cases s'; cases s; cases o; rfl
  rw [e]
  exact ⟨.ref p, _, J, rfl, q L' p pm pw hn⟩
end
end K54
set_option Elab.async false
set_option linter.all false
set_option autoImplicit false
set_option maxRecDepth 100000
set_option maxHeartbeats 1000000
/-! K54: orders on lots, looks, camps; canonical lists; how they stand as keys -/
namespace K54
open PySem PySem.Spec PyProof.Rows L2
open PySem.W (alike dataLe dataLt AllAlike Sortable)
/-- a strict linear order, as a test -/
structure Lin {α : Type} (lt : α → α → Bool) : Prop where
  irr : ∀ x, lt x x = false
  tr : ∀ x y z, lt x y = true → lt y z = true → lt x z = true
  tri : ∀ x y, x ≠ y → lt x y = true ∨ lt y x = true
section
variable {α β : Type} [DecidableEq α] [DecidableEq β]
def lexB (lt : α → α → Bool) : List α → List α → Bool
  | [], [] => false
  | [], _ :: _ => true
  | _ :: _, [] => false
  | x :: xs, y :: ys => if x = y then lexB lt xs ys else lt x y
def pairB (lt : α → α → Bool) (gt : β → β → Bool) (p q : α × β) : Bool := if p.1 = q.1 then gt p.2 q.2 else lt p.1 q.1
theorem Lin.asym {lt : α → α → Bool} (L : Lin lt) {x y : α} (h : lt x y = true) : lt y x = false := by
  cases e : lt y x with
  | false => rfl
  | true => have := L.tr _ _ _ h e; rw [L.irr] at this; cases this
theorem Lin.ne {lt : α → α → Bool} (L : Lin lt) {x y : α} (h : lt x y = true) : x ≠ y := fun e => by
  rw [e, L.irr] at h; cases h
theorem lin_lex {lt : α → α → Bool} (L : Lin lt) : Lin (lexB lt) where
  irr := fun xs => by
    induction xs with
    | nil => rfl
    | cons x xs ih => simp [lexB, ih]
  tr := fun xs => by
    induction xs with
    | nil =>
      intro ys zs h1 h2
      cases ys with
      | nil => simp [lexB] at h1
      | cons y ys =>
        cases zs with
        | nil => simp [lexB] at h2
        | cons z zs => rfl
    | cons x xs ih =>
      intro ys zs h1 h2
      cases ys with
      | nil => simp [lexB] at h1
      | cons y ys =>
        cases zs with
        | nil => simp [lexB] at h2
        | cons z zs =>
          simp only [lexB] at h1 h2 ⊢
          by_cases e1 : x = y
          · subst e1
            rw [if_pos rfl] at h1
            by_cases e2 : x = z
            · subst e2
              rw [if_pos rfl] at h2 ⊢
              exact ih _ _ h1 h2
            · rw [if_neg e2] at h2 ⊢
              exact h2
          · rw [if_neg e1] at h1
            by_cases e2 : y = z
            · subst e2
              rw [if_neg e1]; exact h1
            · rw [if_neg e2] at h2
              have t := L.tr _ _ _ h1 h2
              rw [if_neg (L.ne t)]; exact t
  tri := fun xs => by
    induction xs with
    | nil =>
      intro ys h
      cases ys with
      | nil => exact absurd rfl h
      | cons y ys => exact .inl rfl
    | cons x xs ih =>
      intro ys h
      cases ys with
      | nil => exact .inr rfl
      | cons y ys =>
        simp only [lexB]
        by_cases e : x = y
        · subst e
          rw [if_pos rfl, if_pos rfl]
          exact ih ys fun z => h (by rw [z])
        · rw [if_neg e, if_neg (fun z => e z.symm)]
          exact L.tri x y e
theorem lin_pair {lt : α → α → Bool} {gt : β → β → Bool} (L : Lin lt) (G : Lin gt) : Lin (pairB lt gt) where
  irr := fun x => by simp [pairB, G.irr]
  tr := fun x y z h1 h2 => by
    simp only [pairB] at h1 h2 ⊢
    by_cases e1 : x.1 = y.1
    · rw [if_pos e1] at h1
      by_cases e2 : y.1 = z.1
      · rw [if_pos e2] at h2
        rw [if_pos (e1.trans e2)]
        exact G.tr _ _ _ h1 h2
      · rw [if_neg e2] at h2
        rw [e1, if_neg e2]; exact h2
    · rw [if_neg e1] at h1
      by_cases e2 : y.1 = z.1
      · rw [← e2, if_neg e1]; exact h1
      · rw [if_neg e2] at h2
        have t := L.tr _ _ _ h1 h2
        rw [if_neg (L.ne t)]; exact t
  tri := fun x y h => by
    simp only [pairB]
    by_cases e : x.1 = y.1
    · rw [if_pos e, if_pos e.symm]
      exact G.tri _ _ fun z => h (Prod.ext e z)
    · rw [if_neg e, if_neg (fun z => e z.symm)]
      exact L.tri _ _ e
def ltN (n m : Nat) : Bool := decide (n < m)
theorem lin_N : Lin ltN := ⟨fun x => by simp [ltN], fun x y z => by simp only [ltN, decide_eq_true_eq]; omega, fun x y => by simp only [ltN, decide_eq_true_eq]; omega⟩
def ltLot : Lot → Lot → Bool := lexB ltN
def ltLooks : Looks → Looks → Bool := lexB ltLot
def ltCamps : Camps → Camps → Bool := pairB ltLot ltLot
theorem lin_Lot : Lin ltLot := lin_lex lin_N
theorem lin_Looks : Lin ltLooks := lin_lex lin_Lot
theorem lin_Camps : Lin ltCamps := lin_pair lin_Lot lin_Lot

/-! ### a list's canonical form: each item once, ascending -/
def insU (lt : α → α → Bool) (x : α) : List α → List α
  | [] => [x]
  | y :: ys => if x = y then y :: ys else if lt x y = true then x :: y :: ys else y :: insU lt x ys
def canon (lt : α → α → Bool) (xs : List α) : List α := xs.foldr (insU lt) []
theorem mem_insU {lt : α → α → Bool} {x z : α} : ∀ {ys : List α}, z ∈ insU lt x ys ↔ z = x ∨ z ∈ ys
  | [] => by simp [insU]
  | y :: ys => by
    simp only [insU]
    by_cases e : x = y
    · subst e
      rw [if_pos rfl]
      simp [List.mem_cons]
    · rw [if_neg e]
      by_cases h : lt x y = true
      · rw [if_pos h]; simp [List.mem_cons]
      · rw [if_neg h, List.mem_cons, mem_insU, List.mem_cons]
        constructor
        · rintro (h | h | h) <;> simp [h]
        · rintro (h | h | h) <;> simp [h]
theorem mem_canon {lt : α → α → Bool} {z : α} : ∀ {xs : List α}, z ∈ canon lt xs ↔ z ∈ xs
  | [] => by simp [canon]
  | x :: xs => by
    show z ∈ insU lt x (canon lt xs) ↔ _
    rw [mem_insU, mem_canon, List.mem_cons]
theorem insU_sorted {lt : α → α → Bool} (L : Lin lt) (x : α) : ∀ {ys : List α}, ys.Pairwise (fun a b => lt a b = true) → (insU lt x ys).Pairwise (fun a b => lt a b = true)
  | [], _ => List.pairwise_singleton _ _
  | y :: ys, h => by
    simp only [insU]
    by_cases e : x = y
    · rw [if_pos e]; exact h
    · rw [if_neg e]
      obtain ⟨h1, h2⟩ := List.pairwise_cons.mp h
      by_cases hl : lt x y = true
      · rw [if_pos hl]
        refine List.pairwise_cons.mpr ⟨fun z hz => ?_, h⟩
        rcases List.mem_cons.mp hz with e | hz
        · rw [e]; exact hl
        · exact L.tr _ _ _ hl (h1 z hz)
      · rw [if_neg hl]
        refine List.pairwise_cons.mpr ⟨fun z hz => ?_, insU_sorted L x h2⟩
        rcases mem_insU.mp hz with e2 | hz
        · rw [e2]
          exact (L.tri x y e).resolve_left hl
        · exact h1 z hz
theorem canon_sorted {lt : α → α → Bool} (L : Lin lt) : ∀ xs : List α, (canon lt xs).Pairwise (fun a b => lt a b = true)
  | [] => List.Pairwise.nil
  | x :: xs => insU_sorted L x (canon_sorted L xs)
/-- ascending lists with the same items are the same -/
theorem sorted_unique {lt : α → α → Bool} (L : Lin lt) : ∀ {xs ys : List α}, xs.Pairwise (fun a b => lt a b = true) → ys.Pairwise (fun a b => lt a b = true) → (∀ z, z ∈ xs ↔ z ∈ ys) → xs = ys
  | [], [], _, _, _ => rfl
  | [], y :: ys, _, _, h => absurd ((h y).mpr List.mem_cons_self) (by simp)
  | x :: xs, [], _, _, h => absurd ((h x).mp List.mem_cons_self) (by simp)
  | x :: xs, y :: ys, h1, h2, h => by
    obtain ⟨a1, a2⟩ := List.pairwise_cons.mp h1
    obtain ⟨b1, b2⟩ := List.pairwise_cons.mp h2
    have e : x = y := by
      rcases List.mem_cons.mp ((h x).mp List.mem_cons_self) with e | hx
      · exact e
      · rcases List.mem_cons.mp ((h y).mpr List.mem_cons_self) with e | hy
        · exact e.symm
        · have := L.asym (b1 x hx)
          rw [a1 y hy] at this; cases this
    subst e
    rw [sorted_unique L a2 b2 fun z => ?_]
    constructor
    · intro hz
      rcases List.mem_cons.mp ((h z).mp (List.mem_cons_of_mem _ hz)) with e | hz'
      · rw [e] at hz
        exact absurd rfl (L.ne (a1 x hz))
      · exact hz'
    · intro hz
      rcases List.mem_cons.mp ((h z).mpr (List.mem_cons_of_mem _ hz)) with e | hz'
      · rw [e] at hz
        exact absurd rfl (L.ne (b1 x hz))
      · exact hz'
theorem canon_is {lt : α → α → Bool} (L : Lin lt) {xs zs : List α} (h1 : zs.Pairwise (fun a b => lt a b = true)) (h2 : ∀ z, z ∈ zs ↔ z ∈ xs) : zs = canon lt xs :=
  sorted_unique L h1 (canon_sorted L xs) fun z => (h2 z).trans mem_canon.symm
theorem canon_congr {lt : α → α → Bool} (L : Lin lt) {xs ys : List α} (h : ∀ z, z ∈ xs ↔ z ∈ ys) : canon lt xs = canon lt ys := canon_is L (canon_sorted L xs) fun z => mem_canon.trans (h z)
theorem canon_nodup {lt : α → α → Bool} (L : Lin lt) (xs : List α) : (canon lt xs).Nodup := (canon_sorted L xs).imp fun h => L.ne h
theorem insU_len {lt : α → α → Bool} (x : α) : ∀ ys : List α, (insU lt x ys).length ≤ ys.length + 1
  | [] => by simp [insU]
  | y :: ys => by
    simp only [insU]
    split
    · simp
    · split
      · simp
      · have := insU_len (lt := lt) x ys
        simp only [List.length_cons]; omega
theorem canon_len {lt : α → α → Bool} : ∀ xs : List α, (canon lt xs).length ≤ xs.length
  | [] => Nat.le_refl _
  | x :: xs => by
    have h1 := canon_len (lt := lt) xs
    have h2 : (canon lt (x :: xs)).length ≤ (canon lt xs).length + 1 := insU_len x _
    rw [List.length_cons]; omega
/-- sorted (≤) lists without doubles ascend -/
theorem asc_of_le {lt : α → α → Bool} (L : Lin lt) {zs : List α} (h : zs.Pairwise (fun a b => lt b a = false)) (nd : zs.Nodup) : zs.Pairwise (fun a b => lt a b = true) :=
  (h.and nd).imp fun ⟨h1, h2⟩ => (L.tri _ _ h2).resolve_right (by rw [h1]; simp)
end

/-! ### kinds: how such things stand as data and as keys -/
structure Kd (α : Type) [DecidableEq α] where
  enc : α → PyData
  kof : α → NestedKey
  lt : α → α → Bool
  data : ∀ x, (kof x).data = enc x
  num : ∀ x, numK (kof x) = true
  inj : ∀ x y, kof x = kof y → x = y
  al : ∀ x y, alike (enc x) (enc y) = true
  ord : ∀ x y, dataLt (enc x) (enc y) = lt x y
  eqv : EqvIs enc
  lin : Lin lt
  dep : Nat
  deep : ∀ x, (kof x).depth ≤ dep
section
variable {α β : Type} [DecidableEq α] [DecidableEq β]
def kN : Kd Nat where
  enc := eN
  kof := fun n => .num n
  lt := ltN
  data := fun x => by simp [NestedKey.data, eN]
  num := fun x => rfl
  inj := fun x y h => by injection h with h; omega
  al := fun x y => by simp [alike, eN]
  ord := fun x y => by
    show dataLt (.int x) (.int y) = _
    rw [PySem.W.dataLt_int]
    simp [ltN]
  eqv := eqv_N
  lin := lin_N
  dep := 0
  deep := fun x => by simp [NestedKey.depth]
theorem datas_map (k : Kd α) : ∀ xs : List α, NestedKey.datas (xs.map k.kof) = xs.map k.enc
  | [] => by simp [NestedKey.datas]
  | x :: xs => by simp [NestedKey.datas, datas_map k xs, k.data]
theorem numKs_map (k : Kd α) : ∀ xs : List α, numKs (xs.map k.kof) = true
  | [] => rfl
  | x :: xs => by simp [numKs, numKs_map k xs, k.num]
theorem alikeAll_map (k : Kd α) : ∀ xs ys : List α, PySem.W.alikeAll (xs.map k.enc) (ys.map k.enc) = true
  | [], _ => by simp [PySem.W.alikeAll]
  | x :: xs, [] => by simp [PySem.W.alikeAll]
  | x :: xs, y :: ys => by simp [PySem.W.alikeAll, alikeAll_map k xs ys, k.al]
theorem kofs_inj (k : Kd α) : ∀ xs ys : List α, xs.map k.kof = ys.map k.kof → xs = ys
  | [], [], _ => rfl
  | [], _ :: _, h => by simp at h
  | _ :: _, [], h => by simp at h
  | x :: xs, y :: ys, h => by
    simp only [List.map_cons, List.cons.injEq] at h
    rw [k.inj _ _ h.1, kofs_inj k xs ys h.2]
theorem lexKd (k : Kd α) : ∀ xs ys : List α, PyProof.Rows.lexLt PyProof.Rows.itemOrd (PySem.W.keyToksAll (xs.map k.enc)) (PySem.W.keyToksAll (ys.map k.enc)) = lexB k.lt xs ys
  | [], [] => PyProof.Rows.lex_irrefl _
  | [], y :: ys => by
    show PyProof.Rows.lexLt PyProof.Rows.itemOrd (PySem.W.keyToksAll []) (PySem.W.keyToksAll (k.enc y :: ys.map k.enc)) = true
    simp only [PySem.W.keyToksAll]
    rw [PyProof.Rows.lex_diff (O := PyProof.Rows.itemOrd) (by simp)]
    rfl
  | x :: xs, [] => by
    show PyProof.Rows.lexLt PyProof.Rows.itemOrd (PySem.W.keyToksAll (k.enc x :: xs.map k.enc)) (PySem.W.keyToksAll []) = false
    simp only [PySem.W.keyToksAll]
    rw [PyProof.Rows.lex_diff (O := PyProof.Rows.itemOrd) (by simp)]
    rfl
  | x :: xs, y :: ys => by
    show PyProof.Rows.lexLt PyProof.Rows.itemOrd (PySem.W.keyToksAll (k.enc x :: xs.map k.enc)) (PySem.W.keyToksAll (k.enc y :: ys.map k.enc)) = _
    rw [PySem.W.dataLt_cons (k.al x y), lexKd k xs ys, k.eqv x y, k.ord]
    show (if decide (x = y) = true then _ else _) = if x = y then _ else _
    by_cases e : x = y <;> simp [e]
theorem depthAll_map (k : Kd α) : ∀ xs : List α, NestedKey.depthAll (xs.map k.kof) ≤ k.dep
  | [] => by simp [NestedKey.depthAll]
  | x :: xs => by
    have := depthAll_map k xs
    have := k.deep x
    simp only [List.map_cons, NestedKey.depthAll]; omega
/-- tuples of such -/
def kTup (k : Kd α) : Kd (List α) where
  enc := fun xs => .tuple (xs.map k.enc)
  kof := fun xs => .tup (xs.map k.kof)
  lt := lexB k.lt
  data := fun xs => by rw [NestedKey.data, datas_map]
  num := fun xs => by rw [numK, numKs_map]
  inj := fun xs ys h => by injection h with h; exact kofs_inj k _ _ h
  al := fun xs ys => by rw [alike, alikeAll_map]
  ord := fun xs ys => by rw [PySem.W.dataLt_tuple]; exact lexKd k xs ys
  eqv := eqv_tmap k.eqv
  lin := lin_lex k.lin
  dep := k.dep + 1
  deep := fun xs => by
    have := depthAll_map k xs
    simp only [NestedKey.depth]; omega
/-- pairs of such -/
def kPair (k : Kd α) (l : Kd β) : Kd (α × β) where
  enc := fun c => .tuple [k.enc c.1, l.enc c.2]
  kof := fun c => .tup [k.kof c.1, l.kof c.2]
  lt := pairB k.lt l.lt
  data := fun c => by simp [NestedKey.data, NestedKey.datas, k.data, l.data]
  num := fun c => by simp [numK, numKs, k.num, l.num]
  inj := fun c d h => by
    injection h with h
    simp only [List.cons.injEq, and_true] at h
    exact Prod.ext (k.inj _ _ h.1) (l.inj _ _ h.2)
  al := fun c d => by simp [alike, PySem.W.alikeAll, k.al, l.al]
  ord := fun c d => by
    rw [PySem.W.dataLt_pair (k.al _ _) (l.al _ _), k.eqv, l.eqv, k.ord, l.ord]
    simp only [pairB]
    by_cases e : c.1 = d.1
    · by_cases e2 : c.2 = d.2
      · simp [e, e2, l.lin.irr]
      · simp [e, e2]
    · simp [e]
  eqv := eqv_pair k.eqv l.eqv
  lin := lin_pair k.lin l.lin
  dep := max k.dep l.dep + 1
  deep := fun c => by
    have := k.deep c.1
    have := l.deep c.2
    simp only [NestedKey.depth, NestedKey.depthAll]; omega
def kLot : Kd Lot := kTup kN
def kLooks : Kd Looks := kTup kLot
def kCamps : Kd Camps := kPair kLot kLot
end
example : kLot.enc = eLot := rfl
example : kLooks.enc = eLooks := rfl
example : kCamps.enc = eCamps := rfl
example : kLot.lt = ltLot := rfl
example : kLooks.lt = ltLooks := rfl
example : kCamps.lt = ltCamps := rfl
end K54
set_option Elab.async false
set_option linter.all false
set_option autoImplicit false
set_option maxRecDepth 100000
set_option maxHeartbeats 1000000
/-! K54, the data layer, 6: operators on tuples and lists, isinstance, sorted(set(..)) -/
namespace K54
open PySem PySem.Spec PyProof.Rows L2
open PySem.W (alike dataLe dataLt AllAlike Sortable)

/-! ### tuples -/
theorem eN_map (l : Lot) : l.map eN = (l.map fun k : Nat => (k : Int)).map .int := by rw [List.map_map]; rfl
theorem opCatT {K : PySem.W.Frag} {ds es : List PyData} (hz : ds.length + es.length ≤ 100000) : OpT K (rCatA K) (.tuple ds) (.tuple es) (.tuple (ds ++ es)) := fun u v H Q h1 h2 q => by
  cases h1 with
  | @tup a xs _ s1 r1 =>
    cases h2 with
    | @tup b ys _ s2 r2 =>
      refine ⟨a, b, xs, ys, rfl, rfl, s1, s2, by rw [r1.length, r2.length]; exact Nat.le_trans hz (by decide), fun e => ?_, fun _ e => ?_, fun _ _ p hp => ?_⟩
      · subst e
        cases r1
        exact q _ H (Same.refl H) (.tup s2 r2)
      · subst e
        cases r2
        rw [List.append_nil] at q
        exact q _ H (Same.refl H) (.tup s1 r1)
      · exact q _ _ (sameNew hp) (.tup (.of upd_same) ((r1.append r2).ex (sameNew hp)))
theorem repTD {K : PySem.W.Frag} {H : Hp} {xs : List V} {ds : List PyData} (r : TDs K H xs ds) : ∀ n : Nat, TDs K H (List.replicate n xs).flatten (List.replicate n ds).flatten
  | 0 => .nil
  | n + 1 => by
    rw [List.replicate_succ, List.replicate_succ, List.flatten_cons, List.flatten_cons]
    exact r.append (repTD r n)
theorem opRepT {K : PySem.W.Frag} {ds : List PyData} {k : Int} (hn : ds ≠ []) (h1 : 2 ≤ k) (h2 : k ≤ 1000) (hz : ds.length ≤ 1000) : OpT K (rRepT K) (.tuple ds) (.int k) (.tuple (List.replicate k.toNat ds).flatten) := fun u v H Q h h' q => by
  cases h'
  cases h with
  | @tup a xs _ s1 r1 =>
    refine ⟨a, k, xs, rfl, rfl, s1, fun e => ?_, h1, h2, by rw [r1.length]; exact hz, fun p hp => q _ _ (sameNew hp) (.tup (.of upd_same) ((repTD r1 k.toNat).ex (sameNew hp)))⟩
    subst e
    cases r1
    exact hn rfl
theorem lexNat : ∀ l m : Lot, HT.lexLt (l.map fun k : Nat => (k : Int)) (m.map fun k : Nat => (k : Int)) = ltLot l m
  | [], [] => rfl
  | [], _ :: _ => rfl
  | _ :: _, [] => rfl
  | x :: l, y :: m => by
    show (if (x : Int) = (y : Int) then HT.lexLt (l.map _) (m.map _) else decide ((x : Int) < (y : Int))) = if x = y then ltLot l m else ltN x y
    rw [lexNat l m]
    by_cases e : x = y
    · subst e; simp
    · have e' : ¬ ((x : Int) = (y : Int)) := by omega
      rw [if_neg e, if_neg e']
      simp [ltN]
theorem opLtT {K : PySem.W.Frag} {l m : Lot} : OpT K (rLtT K) (eLot l) (eLot m) (.bool (ltLot l m)) := fun u v H Q h1 h2 q => by
  obtain ⟨a, rfl, s1⟩ := tdLot h1
  obtain ⟨b, rfl, s2⟩ := tdLot h2
  refine ⟨a, b, l.map fun k : Nat => (k : Int), m.map fun k : Nat => (k : Int), rfl, rfl, by rw [List.map_map]; exact s1, by rw [List.map_map]; exact s2, ?_⟩
  rw [lexNat]
  exact q _ _ (Same.refl H) (.bl _)
section
variable {X : Cx} {Γ : List Cell} {a b c e : Expr} {d x y z : PyData} {ds es : List PyData} {p pos : Pos}
/-- slices of tuples -/
def cutD (ds : List PyData) (l u : Option Int) : List PyData := (ds.drop (HT.sIx ds.length 0 l)).take (HT.sIx ds.length ds.length u - HT.sIx ds.length 0 l)
theorem cutAll {l u : Option Int} (h1 : HT.sIx ds.length 0 l = 0) (h2 : HT.sIx ds.length ds.length u = ds.length) : cutD ds l u = ds := by
  unfold cutD
  rw [h1, h2, List.drop_zero, Nat.sub_zero, List.take_length]
theorem de_slT {lo hi : Option Expr} {l u : Option Int} {p2 : Pos} {tl th : TO} (ha : DE X Γ a (.tuple ds)) (hl : PO X lo tl) (hu : PO X hi th) (rl : ∀ σ H Q, (∃ H0, EnvOk X.prog X.w X.K H0 H σ Γ ∧ ∀ H', Same H H' → Q l H') → tl σ H Q) (ru : ∀ σ H Q, (∃ H0, EnvOk X.prog X.w X.K H0 H σ Γ ∧ ∀ H', Same H H' → Q u H') → th σ H Q) :
    DE X Γ (.Subscript a (.Slice lo hi none p2) pos) (.tuple (cutD ds l u)) :=
  PE.wk (pe_slice sl_tupA ha hl hu) fun σ H Q ⟨H0, ok, q⟩ => ⟨H0, ok, fun v H1 e1 r1 => rl σ H1 _ ⟨H0, ok.mono e1, fun H2 e2 => ru σ H2 _ ⟨H0, ok.mono (e1.trans e2), fun H3 e3 => by
    have r3 := TD.ex (e2.trans e3) r1
    have e' := (e1.trans e2).trans e3
    cases r3 with
    | @tup t vs _ s r =>
      refine ⟨t, vs, rfl, s, fun ⟨w1, w2⟩ => ?_, fun _ pp hp => ?_⟩
      · rw [r.length] at w1 w2
        rw [cutAll w1 w2] at q
        exact q _ H3 e' (.tup s r)
      · refine q _ _ (e'.trans (sameNew hp)) (.tup (.of upd_same) ?_)
        unfold cutV cutD
        rw [r.length]
        exact ((r.drop _).take _).ex (sameNew hp)⟩⟩⟩
/-- list + list -/
theorem dn_cat (ha : DL X Γ a ds) (hb : DL X Γ b es) (hz : ds.length + es.length ≤ 100000) : DN X Γ (.BinOp a .Add b pos) (ds ++ es) :=
  PE.wk (pe_op op_cat ha hb) fun σ H Q ⟨H0, ok, q⟩ => ⟨H0, ok, fun l xs H1 e1 h1 r1 => ⟨H0, ok.mono e1, fun m ys H2 e2 h2 r2 =>
    ⟨l, m, xs, ys, rfl, rfl, e2 _ _ h1, h2, by rw [r1.length, r2.length]; exact Nat.le_trans hz (by decide), fun pp hp => by
      have e' := e1.trans e2
      exact q pp _ _ (e'.free hp) (e'.trans (sameNew hp)) upd_same (((r1.ex e2).append r2).ex (sameNew hp))⟩⟩⟩
/-- a op b op' c, ints -/
theorem de_chain {op op' : CmpOp} {g g' : Int → Int → Bool} {i j k : Int} (ho : OpR X (compareOp op) (rI0 fun i j => .bl (g i j))) (ho' : OpR X (compareOp op') (rI0 fun i j => .bl (g' i j))) (ha : DE X Γ a (.int i)) (hb : DE X Γ b (.int j)) (hc : DE X Γ c (.int k))
    (hm : lastMarks [op, op'] [b, c] = false := by with_unfolding_all rfl) : DE X Γ (.Compare a [op, op'] [b, c] pos) (.bool (g i j && g' j k)) :=
  PE.wk (pe_chain ho ho' ha hb hc hm) fun σ H Q ⟨H0, ok, q⟩ => ⟨H0, ok, fun u H1 e1 r1 => ⟨H0, ok.mono e1, fun v H2 e2 r2 => by
    cases r1
    cases r2
    refine ⟨i, j, rfl, rfl, g i j, rfl, ?_⟩
    cases hg : g i j with
    | false =>
      rw [hg] at q
      exact q _ H2 (e1.trans e2) (.bl _)
    | true =>
      rw [hg] at q
      exact ⟨H0, ok.mono (e1.trans e2), fun w3 H3 e3 r3 => by
        cases r3
        exact ⟨j, k, rfl, rfl, q _ H3 ((e1.trans e2).trans e3) (.bl _)⟩⟩⟩⟩
/-- tuple(range(n)) -/
theorem de_tupRg {n : Nat} {p2 pos2 : Pos} (h : DE X Γ e (.int n)) (hz : n ≤ 1000) (hm : X.mg "tuple" = none) (hm2 : X.mg "range" = none) (hc : X.calm = true := by rfl) (hg : Gl X "tuple" := by rfl) (hg2 : Gl X "range" := by rfl) (hs : starEach [e] X.env = (false, eval e X.env) :: starEach [] X.env := by rfl)
    (hs2 : starEach [.Call (.Name "range" p2) [e] [] pos2] X.env = (false, eval (.Call (.Name "range" p2) [e] [] pos2) X.env) :: starEach [] X.env := by rfl) : DE X Γ (.Call (.Name "tuple" p) [.Call (.Name "range" p2) [e] [] pos2] [] pos) (eLot (List.range n)) :=
  PE.wk (pe_tupRg hc hg hm (prg_1 hg2 hm2 h hs) hs2) fun σ H Q ⟨H0, ok, q⟩ => ⟨H0, ok, fun v H1 e1 r1 => by
    cases r1
    refine ⟨n, rfl, RgOk.of_le (Int.le_refl 0) (by omega) (by decide) (by omega), fun l hl => q _ _ (e1.trans (sameNew hl)) (.tup (.of upd_same) ?_)⟩
    unfold rgV
    have e0 : ((n : Int) - 0).toNat = n := by omega
    rw [e0]
    have e2 : ((List.range n).map fun i : Nat => V.int (0 + (i : Nat))) = ((List.range n).map fun i : Nat => (i : Int)).map V.int := by
      rw [List.map_map]
      refine List.map_congr_left fun i _ => ?_
      show V.int (0 + (i : Int)) = V.int (i : Int)
      rw [Int.zero_add]
    rw [e2, eN_map]
    exact TDs.ofInts _⟩
/-- x in a list of data -/
theorem de_inL (hu : X.A.units + 65 < cLine) (ha : DG X Γ a x) (hb : DL X Γ b ds) (h1 : SeqAt.shaped x = true) (h2 : SeqAt.shaped (.list ds) = true) (hm : behindInMarks .In b = false := by first | exact nomark _ | rfl) : DE X Γ (.Compare a [.In] [b] pos) (.bool (ds.any fun z => PyData.eqv z x)) :=
  PE.wk (pe_cmpR (op_inD hu) ha hb hm) fun σ H Q ⟨H0, ok, q⟩ => ⟨H0, ok, fun u H1 e1 r1 => ⟨H0, ok.mono e1, fun l vs H2 e2 h2' r2 =>
    ⟨x, ds, dpEx e2 r1, .lst (.of h2') (TDs.dps _ _ r2), h1, h2, q _ H2 (e1.trans e2) (.bl _)⟩⟩⟩
theorem dt_inL (hu : X.A.units + 65 < cLine) (ha : DG X Γ a x) (hb : DL X Γ b ds) (h1 : SeqAt.shaped x = true) (h2 : SeqAt.shaped (.list ds) = true) (hm : behindInMarks .In b = false := by first | exact nomark _ | rfl) : DT X Γ (.Compare a [.In] [b] pos) (ds.any fun z => PyData.eqv z x) :=
  PT.wk (pt_cmpR (op_inD hu) ha hb hm) fun σ H Q ⟨H0, ok, q⟩ => ⟨H0, ok, fun u H1 e1 r1 => ⟨H0, ok.mono e1, fun l vs H2 e2 h2' r2 =>
    ⟨x, ds, dpEx e2 r1, .lst (.of h2') (TDs.dps _ _ r2), h1, h2, _, rfl, q H2 (e1.trans e2)⟩⟩⟩
theorem dt_notInL (hu : X.A.units + 65 < cLine) (ha : DG X Γ a x) (hb : DL X Γ b ds) (h1 : SeqAt.shaped x = true) (h2 : SeqAt.shaped (.list ds) = true) (hm : behindInMarks .NotIn b = false := by first | exact nomark _ | rfl) : DT X Γ (.Compare a [.NotIn] [b] pos) (!ds.any fun z => PyData.eqv z x) :=
  PT.wk (pt_cmpR (op_notInD hu) ha hb hm) fun σ H Q ⟨H0, ok, q⟩ => ⟨H0, ok, fun u H1 e1 r1 => ⟨H0, ok.mono e1, fun l vs H2 e2 h2' r2 =>
    ⟨x, ds, dpEx e2 r1, .lst (.of h2') (TDs.dps _ _ r2), h1, h2, _, rfl, q H2 (e1.trans e2)⟩⟩⟩
end

/-! ### isinstance -/
def tyN : PyData → String
  | .none => "NoneType"
  | .bool _ => "bool"
  | .int _ => "int"
  | .str _ => "str"
  | .list _ => "list"
  | .tuple _ => "tuple"
  | .dict _ => "dict"
def isTy (T : String) (d : PyData) : Bool := (kitB (tyN d) T).getD false
theorem tyxOf {K : PySem.W.Frag} {H : Hp} {v : V} {d : PyData} (h : Dp K H v d) : TyX K H v (.type (tyN d)) := by
  cases h with
  | non => exact .base .non
  | bl b => exact .base (.bl b)
  | int i => exact .base (.int i)
  | str x => exact .base (.str x)
  | lst s _ =>
    rcases s with s | ⟨o, its, n, h1, h2, _⟩
    · rcases s with s | ⟨o, s⟩
      · exact .base (.lst s)
      · exact .base (.frz s)
    · exact .kList h1 h2
  | tup s _ =>
    rcases s with s | ⟨o, its, n, h1, h2, _⟩
    · rcases s with s | ⟨o, s⟩
      · exact .base (.tup s)
      · exact .fTuple s
    · exact .kTuple h1 h2
section
variable {X : Cx} {Γ : List Cell} {e : Expr} {d : PyData} {p p1 p2 pos tpos : Pos} {T T2 : String} {n n2 : Str} {b b2 : Bool} {kk : Nat}
theorem pe_ty (hg : Gl X n) (hm : X.mg n = none) (hv : bootBuiltins n = some (.type T)) (hn : n ≠ "__name__" := by decide) (hdb : (n == ("__debug__" : Str)) = false := by decide) : PE X (.Name n p1) (tC (.ty T)) := pe_bltn hg hm hv rfl hn hdb
theorem isi_pa (h : DG X Γ e d) (hb : kitB (tyN d) T = some b) (hm : X.mg "isinstance" = none) (hm1 : X.mg n = none) (hv : bootBuiltins n = some (.type T)) (hg : Gl X "isinstance") (hg1 : Gl X n) (hn : n ≠ "__name__") (hdb : (n == ("__debug__" : Str)) = false)
    (hs : starEach [e, .Name n p1] X.env = (false, eval e X.env) :: starEach [.Name n p1] X.env) (hs1 : starEach [.Name n p1] X.env = (false, eval (.Name n p1) X.env) :: starEach [] X.env) (hpl : (backTo pos (starEach [.Name n p1] X.env)).any (·.1) = false) :
    PE X (.Call (.Name "isinstance" p) [e, .Name n p1] [] pos) (tD X.prog X.w X.K Γ (.bool b)) :=
  PE.wk (pe_callB call_isi hg hm (by decide +kernel) (pa_cons h (pa_cons (pe_ty hg1 hm1 hv hn hdb) pa_nil hs1) hs) (by decide) (by decide) hs hpl) fun σ H Q ⟨H0, ok, q⟩ => ⟨H0, ok, fun v H1 e1 r1 =>
    ⟨v, .ty T, _, _, b, rfl, .ty T, tyxOf r1, kit_ty hb, q _ H1 e1 (.bl _)⟩⟩
theorem de_isi (T : String) (h : DG X Γ e d) (hb : kitB (tyN d) T = some b) (hm : X.mg "isinstance" = none) (hm1 : X.mg n = none) (hv : bootBuiltins n = some (.type T) := by decide +kernel) (hg : Gl X "isinstance" := by rfl) (hg1 : Gl X n := by rfl) (hn : n ≠ "__name__" := by decide) (hdb : (n == ("__debug__" : Str)) = false := by decide)
    (hs : starEach [e, .Name n p1] X.env = (false, eval e X.env) :: starEach [.Name n p1] X.env := by rfl) (hs1 : starEach [.Name n p1] X.env = (false, eval (.Name n p1) X.env) :: starEach [] X.env := by rfl) (hpl : (backTo pos (starEach [.Name n p1] X.env)).any (·.1) = false := by rfl) :
    DE X Γ (.Call (.Name "isinstance" p) [e, .Name n p1] [] pos) (.bool b) := isi_pa h hb hm hm1 hv hg hg1 hn hdb hs hs1 hpl
/-- isinstance(e, (T, T2)) -/
theorem de_isi2 (T T2 : String) (h : DG X Γ e d) (hb : kitB (tyN d) T = some b) (hb2 : kitB (tyN d) T2 = some b2) (hm : X.mg "isinstance" = none) (hm1 : X.mg n = none) (hm2 : X.mg n2 = none) (hv : bootBuiltins n = some (.type T) := by decide +kernel) (hv2 : bootBuiltins n2 = some (.type T2) := by decide +kernel) (hg : Gl X "isinstance" := by rfl) (hg1 : Gl X n := by rfl) (hg2 : Gl X n2 := by rfl) (hn : n ≠ "__name__" := by decide) (hdb : (n == ("__debug__" : Str)) = false := by decide) (hn2 : n2 ≠ "__name__" := by decide) (hdb2 : (n2 == ("__debug__" : Str)) = false := by decide)
    (hs : starEach [e, .Tuple [.Name n p1, .Name n2 p2] kk tpos] X.env = (false, eval e X.env) :: starEach [.Tuple [.Name n p1, .Name n2 p2] kk tpos] X.env := by rfl) (hs1 : starEach [.Tuple [.Name n p1, .Name n2 p2] kk tpos] X.env = (false, eval (.Tuple [.Name n p1, .Name n2 p2] kk tpos) X.env) :: starEach [] X.env := by rfl)
    (hs2 : starEach [.Name n p1, .Name n2 p2] X.env = (false, eval (.Name n p1) X.env) :: starEach [.Name n2 p2] X.env := by rfl) (hs3 : starEach [.Name n2 p2] X.env = (false, eval (.Name n2 p2) X.env) :: starEach [] X.env := by rfl) (hpl : (backTo pos (starEach [.Tuple [.Name n p1, .Name n2 p2] kk tpos] X.env)).any (·.1) = false := by rfl) :
    DE X Γ (.Call (.Name "isinstance" p) [e, .Tuple [.Name n p1, .Name n2 p2] kk tpos] [] pos) (.bool (b || b2)) :=
  PE.wk (pe_callB call_isiT hg hm (by decide +kernel) (pa_cons h (pa_cons (pe_tup (pa_cons (pe_ty hg1 hm1 hv hn hdb) (pa_cons (pe_ty hg2 hm2 hv2 hn2 hdb2) pa_nil hs3) hs2)) pa_nil hs1) hs) (by decide) (by decide) hs hpl) fun σ H Q ⟨H0, ok, q⟩ => ⟨H0, ok, fun v H1 e1 r1 => by
    refine ⟨by show 2 ≤ sizeLine; decide, fun tp htp => ?_⟩
    refine ⟨v, tp, [.ty T, .ty T2], _, [.type T, .type T2], b || b2, rfl, upd_same, .cons (.ty T) (.cons (.ty T2) .nil), tyxOf (dpEx (sameNew htp) r1), ?_, q _ _ (e1.trans (sameNew htp)) (.bl _)⟩
    refine kitAny_cons (kit_ty hb) (fun hf => ?_) fun ht => by rw [ht]; rfl
    refine kitAny_cons (kit_ty hb2) (fun hf2 => ?_) fun ht => by rw [ht]; simp
    rw [hf, hf2]
    exact kitAny_nil⟩
end
end K54
set_option Elab.async false
set_option linter.all false
set_option autoImplicit false
set_option maxRecDepth 100000
set_option maxHeartbeats 2000000
/-! K54, the data layer, 7: sorted(set(..)), sorted(list), told in data -/
namespace K54
open PySem PySem.Spec PyProof.Rows L2
open PySem.W (EachIs alike dataLe dataLt AllAlike Sortable)
section
variable {α : Type} [DecidableEq α] (k : Kd α)
/-- the tuples that read as the items xs, as rows -/
theorem rowsOf {K : PySem.W.Frag} {H : Hp} : ∀ (xs : List α) (vs : List V), TDs K H vs (xs.map k.enc) → (∀ x ∈ xs, ∃ ds, k.enc x = .tuple ds) → ∃ rows : List Rw, vs = rows.map (fun r => V.ref r.2) ∧ rows.map (·.1) = xs.map k.kof ∧ ∀ r ∈ rows, TD K H (.ref r.2) r.1.data
  | [], _, h, _ => by
    have h' : TDs K H _ [] := h
    cases h'
    exact ⟨[], rfl, rfl, fun _ z => nomatch z⟩
  | x :: xs, _, h, ht => by
    have h' : TDs K H _ (k.enc x :: xs.map k.enc) := h
    cases h' with
    | cons h1 h2 =>
      obtain ⟨rows, e1, e2, e3⟩ := rowsOf xs _ h2 fun y hy => ht y (List.mem_cons_of_mem _ hy)
      obtain ⟨ds, hd⟩ := ht x List.mem_cons_self
      have h1' := h1
      rw [hd] at h1'
      cases h1' with
      | @tup a _ _ _ _ =>
        refine ⟨(k.kof x, a) :: rows, by rw [e1]; rfl, by rw [List.map_cons, e2]; rfl, fun r hr => ?_⟩
        rcases List.mem_cons.mp hr with e | hr
        · rw [e]
          show TD K H (.ref a) (k.kof x).data
          rw [k.data]; exact h1
        · exact e3 r hr
/-- rows whose keys are items' keys, as items -/
theorem itemsOf (xs : List α) : ∀ rows : List Rw, (∀ r ∈ rows, r.1 ∈ xs.map k.kof) → ∃ zs : List α, rows.map (·.1) = zs.map k.kof ∧ ∀ z ∈ zs, z ∈ xs
  | [], _ => ⟨[], rfl, fun _ z => nomatch z⟩
  | r :: rows, h => by
    obtain ⟨zs, e, hz⟩ := itemsOf xs rows fun q hq => h q (List.mem_cons_of_mem _ hq)
    obtain ⟨x, hx, ex⟩ := List.mem_map.mp (h r List.mem_cons_self)
    refine ⟨x :: zs, by rw [List.map_cons, e, List.map_cons, ex], fun z hm => ?_⟩
    rcases List.mem_cons.mp hm with q | hm
    · rw [q]; exact hx
    · exact hz z hm
theorem tdsRows {K : PySem.W.Frag} {H : Hp} : ∀ (rows : List Rw) (zs : List α), rows.map (·.1) = zs.map k.kof → (∀ r ∈ rows, TD K H (.ref r.2) r.1.data) → TDs K H (rows.map fun r => V.ref r.2) (zs.map k.enc)
  | [], [], _, _ => .nil
  | [], _ :: _, e, _ => by simp at e
  | _ :: _, [], e, _ => by simp at e
  | r :: rows, z :: zs, e, h => by
    simp only [List.map_cons, List.cons.injEq] at e
    refine .cons ?_ (tdsRows rows zs e.2 fun q hq => h q (List.mem_cons_of_mem _ hq))
    have q := h r List.mem_cons_self
    rw [e.1, k.data] at q
    exact q
theorem mapKof {zs : List α} {z : α} : k.kof z ∈ zs.map k.kof ↔ z ∈ zs := by
  rw [List.mem_map]
  constructor
  · rintro ⟨y, hy, e⟩
    rw [← k.inj _ _ e]; exact hy
  · exact fun h => ⟨z, h, rfl⟩
theorem encRows : ∀ (rows : List Rw) (zs : List α), rows.map (·.1) = zs.map k.kof → rows.map encR = zs.map k.enc
  | [], [], _ => rfl
  | [], _ :: _, e => by simp at e
  | _ :: _, [], e => by simp at e
  | r :: rows, z :: zs, e => by
    simp only [List.map_cons, List.cons.injEq] at e
    rw [List.map_cons, List.map_cons, encRows rows zs e.2]
    show r.1.data :: _ = _
    rw [e.1, k.data]
theorem pairKof : ∀ (rows : List Rw) (zs : List α), rows.map (·.1) = zs.map k.kof → rows.Pairwise (fun q r => dataLe false encR q r = true) → zs.Pairwise (fun x y => k.lt y x = false)
  | [], [], _, _ => List.Pairwise.nil
  | [], _ :: _, e, _ => by simp at e
  | _ :: _, [], e, _ => by simp at e
  | r :: rows, z :: zs, e, h => by
    simp only [List.map_cons, List.cons.injEq] at e
    obtain ⟨h1, h2⟩ := List.pairwise_cons.mp h
    refine List.pairwise_cons.mpr ⟨fun y hy => ?_, pairKof rows zs e.2 h2⟩
    have hm : k.kof y ∈ rows.map (·.1) := by rw [e.2]; exact (mapKof k).mpr hy
    obtain ⟨q, hq, eq⟩ := List.mem_map.mp hm
    have c := h1 q hq
    have c' : (!dataLt q.1.data r.1.data) = true := c
    rw [eq, e.1, k.data, k.data, k.ord] at c'
    simpa using c'
theorem ndKof {zs : List α} (h : (zs.map k.kof).Nodup) : zs.Nodup := ndMap h
end
/-- a list or a tuple, to be read -/
def tQ (P : Program) (w : World) (K : PySem.W.Frag) (Γ : List Cell) (ds : List PyData) : TE := fun σ H Q => ∃ H0, EnvOk P w K H0 H σ Γ ∧ ∀ a vs H', Same H H' → (SqL K H' a vs ∨ SqT K H' a vs) → TDs K H' vs ds → Q (.ref a) H'
abbrev DQ (X : Cx) (Γ : List Cell) (e : Expr) (ds : List PyData) : Prop := PE X e (tQ X.prog X.w X.K Γ ds)
section
variable {X : Cx} {Γ : List Cell} {e : Expr} {d : PyData} {ds : List PyData} {p p2 pos pos2 : Pos}
theorem DL.q (h : DL X Γ e ds) : DQ X Γ e ds := PE.wk h fun σ H Q ⟨H0, ok, q⟩ => ⟨H0, ok, fun a vs H' s e r => q a vs H' s (.inl (.of e)) r⟩
theorem DE.q (h : DE X Γ e (.tuple ds)) : DQ X Γ e ds := PE.wk h fun σ H Q ⟨H0, ok, q⟩ => ⟨H0, ok, fun v H' s r => by
  cases r with
  | tup h1 h2 => exact q _ _ H' s (.inr h1) h2⟩
/-- sorted(set(xs)), xs fewer than 64 tuples, none of them empty -/
theorem dn_sortSet {α : Type} [DecidableEq α] (k : Kd α) {xs : List α} (h : DQ X Γ e (xs.map k.enc)) (ht : ∀ x ∈ xs, ∃ d ds, k.enc x = .tuple (d :: ds)) (hd : k.dep ≤ 8) (few : xs.length < 64) (hu : X.A.units + 64 < cLine) (hm : X.mg "sorted" = none) (hm2 : X.mg "set" = none) (hc : X.calm = true := by rfl) (hg : Gl X "sorted" := by rfl) (hg2 : Gl X "set" := by rfl)
    (hs : starEach [.Call (.Name "set" p2) [e] [] pos2] X.env = (false, eval (.Call (.Name "set" p2) [e] [] pos2) X.env) :: starEach [] X.env := by rfl) (hs2 : starEach [e] X.env = (false, eval e X.env) :: starEach [] X.env := by rfl) (hpl : (backTo pos (starEach [] X.env)).any (·.1) = false := by rfl) (hpl2 : (backTo pos2 (starEach [] X.env)).any (·.1) = false := by rfl) :
    DN X Γ (.Call (.Name "sorted" p) [.Call (.Name "set" p2) [e] [] pos2] [] pos) ((canon k.lt xs).map k.enc) :=
  PE.wk (pe_callB (cr_sortN hc hu) hg hm (by decide +kernel) (pa_cons (pe_callTy (cr_setN hc hu) hg2 hm2 (by decide +kernel) (pa_cons h pa_nil hs2) (by decide) (by decide) hs2 hpl2) pa_nil hs) (by decide) (by decide) hs hpl) fun σ H Q ⟨H0, ok, q⟩ => ⟨H0, ok, fun l vs H1 e1 h1 r1 => by
    obtain ⟨rows, ev, ek, hr⟩ := rowsOf k xs vs r1 fun x hx => let ⟨d, ds, h⟩ := ht x hx; ⟨_, h⟩
    subst ev
    have kok : ∀ r ∈ rows, KeyOk r.1 := fun r hr' => by
      have hm : r.1 ∈ xs.map k.kof := by rw [← ek]; exact List.mem_map_of_mem hr'
      obtain ⟨x, _, ex⟩ := List.mem_map.mp hm
      rw [← ex]
      exact ⟨Nat.le_trans (k.deep x) hd, k.num x⟩
    have hl : rows.length = xs.length := by
      have z := congrArg List.length ek
      rwa [List.length_map, List.length_map] at z
    refine ⟨l, rows, rfl, h1, fun r hr' => ⟨hr r hr', kok r hr'⟩, by rw [hl]; exact few, fun s L ns nd sub all => ?_⟩
    have e2 : Same H1 (upd H1 s (SetNO X.w s L)) := sameNew ns
    have hrL : ∀ r ∈ L, TD X.K (upd H1 s (SetNO X.w s L)) (.ref r.2) r.1.data := fun r hr' => (hr r (sub r hr')).ex e2
    have inx : ∀ r ∈ L, r.1 ∈ xs.map k.kof := fun r hr' => by rw [← ek]; exact List.mem_map_of_mem (sub r hr')
    obtain ⟨zs, ez, hz⟩ := itemsOf k xs L inx
    have eL := encRows k L zs ez
    refine ⟨s, L, rfl, upd_same, fun r hr' => ⟨hrL r hr', kok r (sub r hr')⟩, ?_, ?_, fun L' pp pm pw np => ?_⟩
    · rw [eL]
      exact PySem.W.AllAlike.of k.al
    · rw [eL]
      refine .inl fun d hd' => ?_
      obtain ⟨z, hz', rfl⟩ := List.mem_map.mp hd'
      exact ht z (hz z hz')
    · obtain ⟨ys, ey, hy⟩ := itemsOf k xs L' fun r hr' => inx r (pm.mem_iff.mp hr')
      have e3 : Same (upd H1 s (SetNO X.w s L)) (upd (upd H1 s (SetNO X.w s L)) pp (.lst (L'.map fun r => V.ref r.2))) := sameNew np
      have e' := (e1.trans e2).trans e3
      have tds := tdsRows k L' ys ey fun r hr' => (hrL r (pm.mem_iff.mp hr')).ex e3
      have ndy : ys.Nodup := ndKof k (by rw [← ey]; exact (pm.map (·.1)).nodup_iff.mpr nd)
      have asc := asc_of_le k.lin (pairKof k L' ys ey pw) ndy
      have mem : ∀ z, z ∈ ys ↔ z ∈ xs := fun z => by
        rw [← mapKof k (zs := ys), ← ey, (pm.map (·.1)).mem_iff, ← mapKof k (zs := xs)]
        refine ⟨fun h => ?_, fun h => ?_⟩
        · obtain ⟨r, hr', er⟩ := List.mem_map.mp h
          rw [← er]; exact inx r hr'
        · rw [← ek] at h
          obtain ⟨r, hr', er⟩ := List.mem_map.mp h
          rw [← er]; exact all r hr'
      rw [canon_is k.lin asc mem] at tds
      exact q pp _ _ ((e1.trans e2).free np) e' upd_same tds⟩
end
end K54
set_option Elab.async false
set_option linter.all false
set_option autoImplicit false
set_option maxRecDepth 100000
set_option maxHeartbeats 2000000
/-! K54, the data layer, 8: sorted(set(ints)), sorted(a list of tuples) -/
namespace K54
open PySem PySem.Spec PyProof.Rows L2
open PySem.W (EachIs alike dataLe dataLt AllAlike Sortable)
section
variable {X : Cx}
/-- set(xs) of ints -/
def rSetI (K : PySem.W.Frag) (w : World) : List V → Hp → VK → Prop := fun vs H Q => ∃ (l : Addr) (ns : List Int), vs = [V.ref l] ∧ (SqL K H l (ns.map V.int) ∨ SqT K H l (ns.map V.int)) ∧ ns.length ≤ 1000 ∧
  ∀ a c, H a = none → c ≤ ns.length → Q (.ref a) (upd H a (SetO w a (fun j => decide (j ∈ ns)) c))
theorem cr_setI (hc : X.calm = true) : CallR X (.type "set") (rSetI X.K X.w) := by
  intro pins s σ H vs us Q I r h
  obtain ⟨l, ns, rfl, hl, few, q⟩ := h
  rw [Vals.ref1 r]
  have hn : H s.heap.objs.size = none := I.hok.fresh (Nat.le_refl _)
  have fin : ∀ (h' : Heap) (tk : Nat), (∃ c, c ≤ ns.length ∧ SetR X.w h' s.heap.objs.size (fun j => decide (j ∈ ns)) c) → (∀ b o, s.heap.get? b = some o → h'.get? b = some o) → EP X pins σ Q (.ref s.heap.objs.size) { s with heap := h', toks := tk } := fun h' tk ⟨c, hc', R⟩ k =>
    ⟨.ref s.heap.objs.size, upd H s.heap.objs.size (SetO X.w s.heap.objs.size (fun j => decide (j ∈ ns)) c), I.laid (t' := tk) k (Nat.le_refl _) (setO_new R), rfl, q _ c hn hc'⟩
  rcases hl with hl | hl
  · obtain ⟨its, rv, pl, hz⟩ := I.list hl
    exact k_set_list (I.ok.hd hc) pl.isList (fills_ints (by simpa using rv.ints) (by unfold scanBound; omega)) fin
  · obtain ⟨its, rv, pl, hz⟩ := I.tuple hl
    exact k_set_tup (I.ok.hd hc) pl (fills_ints (by simpa using rv.ints) (by unfold scanBound; omega)) fin
/-- sorted(xs) of a list of such tuples -/
def rSortR (K : PySem.W.Frag) : List V → Hp → VK → Prop := fun vs H Q => ∃ (a : Addr) (M : List Rw), vs = [V.ref a] ∧ SqL K H a (M.map fun r => V.ref r.2) ∧ (∀ r ∈ M, TD K H (.ref r.2) r.1.data ∧ KeyOk r.1) ∧ M.length ≤ 1000 ∧ AllAlike (M.map encR) ∧ Sortable (M.map encR) ∧
  ∀ (L' : List Rw) (p : Addr), L'.Perm M → L'.Pairwise (fun q r => dataLe false encR q r = true) → H p = none → Q (.ref p) (upd H p (.lst (L'.map fun r => V.ref r.2)))
theorem cr_sortR (hu : X.A.units + 64 < cLine) : CallR X (.builtin "sorted") (rSortR X.K) := by
  intro pins s σ H vs us Q I r h
  obtain ⟨a, M, rfl, ha, hk, few, hal, hso, q⟩ := h
  rw [Vals.ref1 r]
  obtain ⟨its, rv, pl, hz⟩ := I.list ha
  have ei := rows_vals rv
  subst ei
  refine PySem.W.sorted_data (enc := encR) (R := fun v b => v = Value.ref b.2) pl.isList (eachSelf M) ((eachRows (a := 0) fun r hr => readsRow I (hk r hr).1).mono fun _ _ ⟨as, q, _⟩ => ⟨as, q⟩) hal hso (by rw [sizeLine_eq]; omega) (fun b hb => ?_) fun out hl eo => ?_
  · have z := (hk b hb).2.1
    show X.A.units + 2 + b.1.data.depth < cLine
    rw [dataDepth]; omega
  · have eo' := eachEq eo
    subst eo'
    obtain ⟨ep, he'⟩ := PyProof.Rows.sortedAll_at s.heap (M.map fun r => Value.ref r.2) ((M.mergeSort (dataLe false encR)).map fun r => Value.ref r.2).toArray
    have pS : (M.mergeSort (dataLe false encR)).Perm M := List.mergeSort_perm ..
    refine ⟨.ref _, upd H (s.heap.objs.size + 1) (.lst ((M.mergeSort (dataLe false encR)).map fun r => V.ref r.2)), I.laid (t' := s.toks) (fun _ _ => PyProof.Rows.sortedAll_old) (Nat.le_succ _) ⟨?_, _, ep, vals_rows _, by simpa using he'⟩, rfl, q _ _ pS (PySem.W.sort_pairwise (PySem.W.sortLe_total _ _ _) M) (I.hok.fresh (Nat.le_succ _))⟩
    rw [List.length_map, pS.length_eq, sizeLine_eq]; omega
end
def ltI (i j : Int) : Bool := decide (i < j)
theorem lin_I : Lin ltI := ⟨fun x => by simp [ltI], fun x y z => by simp only [ltI, decide_eq_true_eq]; omega, fun x y => by simp only [ltI, decide_eq_true_eq]; omega⟩
theorem insU_cast (n : Nat) : ∀ l : Lot, insU ltI (n : Int) (l.map fun k : Nat => (k : Int)) = (insU ltN n l).map fun k : Nat => (k : Int)
  | [] => rfl
  | m :: l => by
    show (if (n : Int) = (m : Int) then _ else if ltI n m = true then _ else _) = _
    simp only [insU]
    have e2 : ltI n m = ltN n m := by simp [ltI, ltN]
    rw [e2, insU_cast n l]
    by_cases h : n = m
    · subst h; simp
    · have h' : ¬ ((n : Int) = (m : Int)) := by omega
      rw [if_neg h, if_neg h']
      split
      · rfl
      · rfl
theorem canon_cast : ∀ l : Lot, canon ltI (l.map fun k : Nat => (k : Int)) = (canon ltN l).map fun k : Nat => (k : Int)
  | [] => rfl
  | n :: l => by
    show insU ltI (n : Int) (canon ltI (l.map _)) = _
    rw [canon_cast l, insU_cast]; rfl
section
variable {X : Cx} {Γ : List Cell} {e : Expr} {d : PyData} {ds : List PyData} {p p2 pos pos2 : Pos}
theorem dn_sortInts {ns : List Int} (h : DQ X Γ e (ns.map .int)) (few : ns.length < 64) (hm : X.mg "sorted" = none) (hm2 : X.mg "set" = none) (hc : X.calm = true := by rfl) (hg : Gl X "sorted" := by rfl) (hg2 : Gl X "set" := by rfl)
    (hs : starEach [.Call (.Name "set" p2) [e] [] pos2] X.env = (false, eval (.Call (.Name "set" p2) [e] [] pos2) X.env) :: starEach [] X.env := by rfl) (hs2 : starEach [e] X.env = (false, eval e X.env) :: starEach [] X.env := by rfl) (hpl : (backTo pos (starEach [] X.env)).any (·.1) = false := by rfl) (hpl2 : (backTo pos2 (starEach [] X.env)).any (·.1) = false := by rfl) :
    DN X Γ (.Call (.Name "sorted" p) [.Call (.Name "set" p2) [e] [] pos2] [] pos) ((canon ltI ns).map .int) :=
  PE.wk (pe_callB (cr_sortedSet hc) hg hm (by decide +kernel) (pa_cons (pe_callTy (cr_setI hc) hg2 hm2 (by decide +kernel) (pa_cons h pa_nil hs2) (by decide) (by decide) hs2 hpl2) pa_nil hs) (by decide) (by decide) hs hpl) fun σ H Q ⟨H0, ok, q⟩ => ⟨H0, ok, fun l vs H1 e1 h1 r1 => by
    rw [r1.ints] at h1
    refine ⟨l, ns, rfl, h1, by omega, fun s c ns' hc' => ⟨s, _, c, rfl, upd_same, by omega, fun ms pp pw mem len np => ?_⟩⟩
    have e2 : Same H1 (upd H1 s (SetO X.w s (fun j => decide (j ∈ ns)) c)) := sameNew ns'
    have e3 : Same (upd H1 s (SetO X.w s (fun j => decide (j ∈ ns)) c)) (upd (upd H1 s (SetO X.w s (fun j => decide (j ∈ ns)) c)) pp (.lst (ms.map V.int))) := sameNew np
    have em : ms = canon ltI ns := canon_is lin_I (pw.imp fun h => by simpa [ltI] using h) fun z => by rw [mem z]; simp
    rw [em] at e3 ⊢
    exact q pp _ _ ((e1.trans e2).free np) ((e1.trans e2).trans e3) upd_same (TDs.ofInts _)⟩
/-- sorted(a list of tuples without doubles) -/
theorem dn_sortL {α : Type} [DecidableEq α] (k : Kd α) {xs : List α} (h : DL X Γ e (xs.map k.enc)) (ht : ∀ x ∈ xs, ∃ d ds, k.enc x = .tuple (d :: ds)) (hd : k.dep ≤ 8) (few : xs.length ≤ 1000) (nd : xs.Nodup) (hu : X.A.units + 64 < cLine) (hm : X.mg "sorted" = none) (hg : Gl X "sorted" := by rfl)
    (hs : starEach [e] X.env = (false, eval e X.env) :: starEach [] X.env := by rfl) (hpl : (backTo pos (starEach [] X.env)).any (·.1) = false := by rfl) :
    DN X Γ (.Call (.Name "sorted" p) [e] [] pos) ((canon k.lt xs).map k.enc) :=
  PE.wk (pe_callB (cr_sortR hu) hg hm (by decide +kernel) (pa_cons h pa_nil hs) (by decide) (by decide) hs hpl) fun σ H Q ⟨H0, ok, q⟩ => ⟨H0, ok, fun l vs H1 e1 h1 r1 => by
    obtain ⟨rows, ev, ek, hr⟩ := rowsOf k xs vs r1 fun x hx => let ⟨d, ds, h⟩ := ht x hx; ⟨_, h⟩
    subst ev
    have eL := encRows k rows xs ek
    have hl : rows.length = xs.length := by
      have z := congrArg List.length ek
      rwa [List.length_map, List.length_map] at z
    refine ⟨l, rows, rfl, .of h1, fun r hr' => ⟨hr r hr', ?_⟩, by rw [hl]; exact few, by rw [eL]; exact PySem.W.AllAlike.of k.al, by
      rw [eL]
      refine .inl fun d hd' => ?_
      obtain ⟨z, hz', rfl⟩ := List.mem_map.mp hd'
      exact ht z hz', fun L' pp pm pw np => ?_⟩
    · have hm : r.1 ∈ xs.map k.kof := by rw [← ek]; exact List.mem_map_of_mem hr'
      obtain ⟨x, _, ex⟩ := List.mem_map.mp hm
      rw [← ex]
      exact ⟨Nat.le_trans (k.deep x) hd, k.num x⟩
    · obtain ⟨ys, ey, hy⟩ := itemsOf k xs L' fun r hr' => by rw [← ek]; exact List.mem_map_of_mem (pm.mem_iff.mp hr')
      have e3 : Same H1 (upd H1 pp (.lst (L'.map fun r => V.ref r.2))) := sameNew np
      have tds := tdsRows k L' ys ey fun r hr' => (hr r (pm.mem_iff.mp hr')).ex e3
      have pk : (ys.map k.kof).Perm (xs.map k.kof) := by rw [← ey, ← ek]; exact pm.map _
      have ndx : (xs.map k.kof).Nodup := List.pairwise_map.mpr (nd.imp fun hne e => hne (k.inj _ _ e))
      have ndy : ys.Nodup := ndKof k (pk.nodup_iff.mpr ndx)
      have mem : ∀ z, z ∈ ys ↔ z ∈ xs := fun z => by rw [← mapKof k (zs := ys), pk.mem_iff, mapKof k]
      rw [canon_is k.lin (asc_of_le k.lin (pairKof k L' ys ey pw) ndy) mem] at tds
      exact q pp _ _ (e1.free np) (e1.trans e3) upd_same tds⟩
end
end K54
set_option Elab.async false
set_option linter.all false
set_option autoImplicit false
set_option maxRecDepth 100000
set_option maxHeartbeats 2000000
/-! K54, the data layer, 9: comprehensions with two clauses; names of lists handed on -/
namespace K54
open PySem PySem.Spec PyProof.Rows L2
/-- a place that is nobody's changes -/
theorem EnvOk.other {P : Program} {w : World} {K : PySem.W.Frag} {H0 H : Hp} {σ : L2.St} {Γ : List Cell} (ok : EnvOk P w K H0 H σ Γ) {D : Addr} {u : HO} (n : H0 D = none) (nt : ∀ xs, ¬ Rd H D (.tup xs)) (no : ∀ i, ¬ OwnAt σ Γ i D) : EnvOk P w K H0 (upd H D u) σ Γ := by
  refine ⟨fun b x e => ?_, ok.len, fun i c x h1 h2 => (ok.at_ i c x h1 h2).stay (fun a o ex ec v hv => ?_) (TupEx.write nt), ok.apart⟩
  · rw [upd_ne (ne_of_none e n)]
    exact ok.ex b x e
  · have na : a ≠ D := fun z => no i ⟨by rw [h2, ex, z], o, by rw [h1, ec]⟩
    rw [upd_ne na]
    exact hv
/-- nobody's place joins the base -/
theorem EnvOk.join {P : Program} {w : World} {K : PySem.W.Frag} {H0 H : Hp} {σ : L2.St} {Γ : List Cell} (ok : EnvOk P w K H0 H σ Γ) {D : Addr} {u : HO} (n : H0 D = none) (h : H D = some u) (no : ∀ i, ¬ OwnAt σ Γ i D) : EnvOk P w K (upd H0 D u) H σ Γ := by
  have s0 : Same H0 (upd H0 D u) := sameNew n
  refine ⟨fun b x e => ?_, ok.len, fun i c x h1 h2 => ?_, ok.apart⟩
  · by_cases z : b = D
    · subst z
      rw [upd_same] at e
      rw [h, e]
    · rw [upd_ne z] at e
      exact ok.ex b x e
  · have r := ok.at_ i c x h1 h2
    cases c with
    | un => trivial
    | dat d => exact r
    | gd d => obtain ⟨v, e, q⟩ := r; exact ⟨v, e, dpEx s0 q⟩
    | rdl ds => obtain ⟨a, vs, e, q, q2⟩ := r; exact ⟨a, vs, e, s0 _ _ q, q2.ex s0⟩
    | own o =>
      obtain ⟨a, ea, na, q⟩ := r
      have z : a ≠ D := fun z => no i ⟨by rw [h2, ea, z], o, h1⟩
      exact ⟨a, ea, by rw [upd_ne z]; exact na, q⟩
section
variable {X : Cx} {Γ : List Cell} {tg iter elt tg1 iter1 : Expr} {ifs ifs1 : List Expr} {scope : Scope} {own : List (Str × Nat)} {pos : Pos} {α β : Type} {xs : List α} {enc : α → Arg} {p1 : α → Bool} {g : α → List β} {enc1 : β → Arg} {p : α → β → Bool} {f : α → β → PyData}
/-- what a turn of the inner loop does -/
def In2 (X : Cx) (scope : Scope) (B : List Cell) (tg1 elt : Expr) (ifs1 : List Expr) (vs1 : List Nat) (enc1 : β → Arg) (py : β → Bool) (fy : β → PyData) (y : β) (B2 : List Cell) (js : List Nat) : Prop :=
  (∀ j ∈ js, j ∈ vs1) ∧ ∀ (s : Shared) (H : Hp) (C : Addr) (cl : List (Str × Addr)) (fp : List Addr), DGt (X.blk s H scope (compEnvC scope cl C X.env) fp) (wipeC B vs1) tg1 (enc1 y) B2 js ∧
    DTs (X.blk s H scope (compEnvC scope cl C X.env) fp) B2 ifs1 (py y) ∧ (py y = true → DE (X.blk s H scope (compEnvC scope cl C X.env) fp) B2 elt (fy y))
/-- what a turn of the outer loop does -/
def Out2 (X : Cx) (scope : Scope) (Γ : List Cell) (tg iter1 tg1 elt : Expr) (ifs ifs1 : List Expr) (vs vs1 : List Nat) (enc : α → Arg) (p1 : α → Bool) (g : α → List β) (enc1 : β → Arg) (p : α → β → Bool) (f : α → β → PyData) (x : α) (B : List Cell) (js : List Nat) : Prop :=
  (∀ j ∈ js, j ∈ vs) ∧ (∀ (s : Shared) (H : Hp) (C : Addr) (cl : List (Str × Addr)) (fp : List Addr), DGt (X.blk s H scope (compEnvC scope cl C X.env) fp) (wipeC Γ vs) tg (enc x) B js ∧
    DTs (X.blk s H scope (compEnvC scope cl C X.env) fp) B ifs (p1 x) ∧ (p1 x = true → DI (X.blk s H scope (compEnvC scope cl C X.env) fp) B tg1 iter1 ((g x).map enc1))) ∧ ∀ y ∈ g x, ∃ B2 js2, In2 X scope B tg1 elt ifs1 vs1 enc1 (p x) (f x) y B2 js2
structure OIx (X : Cx) (scope : Scope) (Γ : List Cell) (tg iter1 tg1 elt : Expr) (ifs ifs1 : List Expr) (vs vs1 : List Nat) (enc : α → Arg) (p1 : α → Bool) (g : α → List β) (enc1 : β → Arg) (p : α → β → Bool) (f : α → β → PyData) where
  x : α
  B : List Cell
  js : List Nat
  ok : Out2 X scope Γ tg iter1 tg1 elt ifs ifs1 vs vs1 enc p1 g enc1 p f x B js
structure IIx (X : Cx) (scope : Scope) (tg1 elt : Expr) (ifs1 : List Expr) (vs1 : List Nat) (enc1 : β → Arg) (p : α → β → Bool) (f : α → β → PyData) where
  x : α
  y : β
  B : List Cell
  B2 : List Cell
  js : List Nat
  ok : In2 X scope B tg1 elt ifs1 vs1 enc1 (p x) (f x) y B2 js
theorem peIfI {t : TI} {X : Cx} {tg e : Expr} {p : Prop} (h : p → PI X tg e t) : PI X tg e (fun σ H R => p ∧ t σ H R) := ⟨fun pins s σ H R I ⟨k, q⟩ => (h k).run pins s σ H R I q⟩
/-- what has come of the turns of x up to the j-th -/
def part (g : α → List β) (p : α → β → Bool) (f : α → β → PyData) (x : α) (j : Nat) : List PyData := (((g x).take j).filter (p x)).map (f x)
def whole (p1 : α → Bool) (g : α → List β) (p : α → β → Bool) (f : α → β → PyData) (x : α) : List PyData := if p1 x = true then ((g x).filter (p x)).map (f x) else []
theorem dn_lc2 (own : List (Str × Nat)) (vs1 : List Nat) (hi : DI X Γ tg iter (xs.map enc)) (hb : ∀ x ∈ xs, ∃ B js, Out2 X scope Γ tg iter1 tg1 elt ifs ifs1 (own.map (·.2)) vs1 enc p1 g enc1 p f x B js) (hz : (xs.flatMap (whole p1 g p f)).length ≤ 100000) (hk : blkC X.N X.env.scope scope own = true := by kernel_rfl) (hv : ∀ i ∈ vs1, i ∈ own.map (·.2) := by decide)
    (hN : X.N.Nodup := by assumption) (hc : X.calm = true := by rfl) (hs : ∀ x, foldedSetIterable iter X.env x = pure x := by intro _; rfl) (hs1 : ∀ env x, foldedSetIterable iter1 env x = pure x := by intro _ _; rfl) :
    DN X Γ (.ListComp elt [⟨tg, iter, ifs, 0⟩, ⟨tg1, iter1, ifs1, 0⟩] scope pos) (xs.flatMap (whole p1 g p f)) := by
  refine PE.wk (pe_lc2 (g := fun v σ H Q => ∃ q : OIx X scope Γ tg iter1 tg1 elt ifs ifs1 (own.map (·.2)) vs1 enc p1 g enc1 p f, gD X.prog X.w X.K (wipeC Γ (own.map (·.2))) (enc q.x) q.B q.js v σ H Q)
    (tt := fun σ H Q => ∃ q : OIx X scope Γ tg iter1 tg1 elt ifs ifs1 (own.map (·.2)) vs1 enc p1 g enc1 p f, tB1 X.prog X.w X.K q.B (p1 q.x) σ H Q)
    (wi1 := fun σ H R => ∃ q : OIx X scope Γ tg iter1 tg1 elt ifs ifs1 (own.map (·.2)) vs1 enc p1 g enc1 p f, p1 q.x = true ∧ tI X.prog X.w X.K q.B ((g q.x).map enc1) σ H R)
    (g1 := fun v σ H Q => ∃ q : IIx X scope tg1 elt ifs1 vs1 enc1 p f, gD X.prog X.w X.K (wipeC q.B vs1) (enc1 q.y) q.B2 q.js v σ H Q)
    (tt1 := fun σ H Q => ∃ q : IIx X scope tg1 elt ifs1 vs1 enc1 p f, tB1 X.prog X.w X.K q.B2 (p q.x q.y) σ H Q)
    (te := fun σ H Q => ∃ q : IIx X scope tg1 elt ifs1 vs1 enc1 p f, p q.x q.y = true ∧ tD X.prog X.w X.K q.B2 (f q.x q.y) σ H Q)
    hc hN hi (blkOk_by hk) hv
    (fun s H C cl fp => PG.ex fun q => (q.ok.2.1 s H C cl fp).1) (fun s H C cl fp => PTs.ex fun q => (q.ok.2.1 s H C cl fp).2.1) (fun s H C cl fp => PI.ex fun q => peIfI fun hp => (q.ok.2.1 s H C cl fp).2.2 hp)
    (fun s H C cl fp => PG.ex fun q => (q.ok.2 s H C cl fp).1) (fun s H C cl fp => PTs.ex fun q => (q.ok.2 s H C cl fp).2.1) (fun s H C cl fp => PE.ex fun q => peIf fun hp => (q.ok.2 s H C cl fp).2.2 hp) hs hs1) fun σ H Q h => ?_
  obtain ⟨H0, ok, q⟩ := h
  refine ⟨H0, ok, fun J H1 Hb e1 b1 _ okb wk D nD => ?_⟩
  have nDb : Hb D = none := okb.ex.free nD
  have low : ∀ i, ((xs.take i).flatMap (whole p1 g p f)).length ≤ 100000 := fun i => by
    refine Nat.le_trans ?_ hz
    have z : xs.flatMap (whole p1 g p f) = (xs.take i).flatMap (whole p1 g p f) ++ (xs.drop i).flatMap (whole p1 g p f) := by
      rw [← List.flatMap_append, List.take_append_drop]
    rw [z, List.length_append]
    exact Nat.le_add_right _ _
  refine ⟨fun i m H' => i ≤ xs.length ∧ m = xs.length - i ∧ Same H1 H' ∧ ∃ us, H' D = some (.lst us) ∧ TDs X.K H' us ((xs.take i).flatMap (whole p1 g p f)), ⟨_, Nat.zero_le _, rfl, sameNew nD, [], upd_same, .nil⟩, ?_⟩
  rintro i m H' ⟨hil, rfl, e', us, hD, rD⟩
  have eb : Same Hb H' := okb.ex.trans e'
  by_cases hlt : i < xs.length
  · have hx : xs[i]? = some xs[i] := List.getElem?_eq_getElem hlt
    generalize xs[i] = x at hx
    obtain ⟨go, yl⟩ := (wk i H' eb).1 (enc x) (by rw [List.getElem?_map, hx]; rfl)
    have up : (xs.take (i + 1)).flatMap (whole p1 g p f) = (xs.take i).flatMap (whole p1 g p f) ++ whole p1 g p f x := by
      rw [take_succ_of hx, List.flatMap_append, List.flatMap_cons, List.flatMap_nil, List.append_nil]
    refine .inr ⟨go, fun H'' => i + 1 ≤ xs.length ∧ Same H1 H'' ∧ ∃ us, H'' D = some (.lst us) ∧ TDs X.K H'' us ((xs.take (i + 1)).flatMap (whole p1 g p f)), fun H'' ⟨k1, k2, k3⟩ => ⟨xs.length - (i + 1), by omega, k1, rfl, k2, k3⟩, fun v H'' y => ?_⟩
    obtain ⟨e2, Hi, i1, i2, i3, rv⟩ := yl v H'' y
    obtain ⟨B, js, hB⟩ := hb x (List.mem_of_getElem? hx)
    refine ⟨⟨x, B, js, hB⟩, Hi, i2, rv, fun σ' l' o' k' => ⟨wipe_eq (by rw [l', wipe_length]) hB.1 o', ?_⟩⟩
    have nDi : Hi D = none := by
      cases hd : Hi D with
      | none => rfl
      | some u => rw [i3 D u hd nDb] at hD; cases hD
    have okW := ((okb.mono e').rebase e2 i1 i2 i3).wipe (own.map (·.2))
    have okB := k' Hi (Same.refl Hi) okW
    have noD : ∀ ii, ¬ OwnAt σ' B ii D := fun ii hii => by
      have noW : ∀ ii, ¬ OwnAt (L2.wipe σ (own.map (·.2))) (wipeC Γ (own.map (·.2))) ii D := fun ii hii => by
        have z : ∀ ii, ¬ OwnAt (L2.wipe σ (own.map (·.2))) (wipeC Γ (own.map (·.2))) ii D := (okb.wipe (own.map (·.2))).fresh nD
        exact z ii hii
      have z := ((k' _ (sameNew nDi) (okW.join nDi (e2 D _ hD) noW)).ownAt hii).1
      rw [upd_same] at z
      cases z
    refine ⟨⟨x, B, js, hB⟩, Hi, okB, fun H3 e3 => ?_⟩
    have hD3 := e3 D _ (e2 D _ hD)
    have e13 : Same H1 H3 := (e'.trans e2).trans e3
    cases hp : p1 x with
    | true =>
      refine iteT ⟨⟨x, B, js, hB⟩, hp, Hi, okB.mono e3, fun J1 H4 Hc e4 c1 c2 okc wk1 => ?_⟩
      have nDc : Hc D = none := c2 D _ hD3 (lstNoTup hD3) nDi
      have hw : whole p1 g p f x = ((g x).filter (p x)).map (f x) := by unfold whole; rw [if_pos hp]
      refine ⟨fun j k H => j ≤ (g x).length ∧ k = (g x).length - j ∧ Same H1 H ∧ EnvOk X.prog X.w X.K Hc H σ' B ∧ ∃ us, H D = some (.lst us) ∧ TDs X.K H us ((xs.take i).flatMap (whole p1 g p f) ++ part g p f x j), ⟨_, Nat.zero_le _, rfl, e13.trans e4, okc, us, e4 D _ hD3, ?_⟩, ?_⟩
      · show TDs X.K H4 us (_ ++ [])
        rw [List.append_nil]
        exact rD.ex ((e2.trans e3).trans e4)
      rintro j k H5 ⟨hjl, rfl, e15, ok5, us5, hD5, rD5⟩
      by_cases hjt : j < (g x).length
      · have hy : (g x)[j]? = some (g x)[j] := List.getElem?_eq_getElem hjt
        generalize (g x)[j] = yv at hy
        obtain ⟨go1, yl1⟩ := (wk1 j H5 ok5.ex).1 (enc1 yv) (by rw [List.getElem?_map, hy]; rfl)
        refine .inr ⟨go1, fun H6 => j + 1 ≤ (g x).length ∧ Same H1 H6 ∧ EnvOk X.prog X.w X.K Hc H6 σ' B ∧ ∃ us, H6 D = some (.lst us) ∧ TDs X.K H6 us ((xs.take i).flatMap (whole p1 g p f) ++ part g p f x (j + 1)), fun H6 ⟨k1, k2, k3, k4⟩ => ⟨(g x).length - (j + 1), by omega, k1, rfl, k2, k3, k4⟩, fun v1 H6 y1 => ?_⟩
        obtain ⟨e6, Hj, j1, j2, j3, rv1⟩ := yl1 v1 H6 y1
        obtain ⟨B2, js2, hB2⟩ := hB.2.2 yv (List.mem_of_getElem? hy)
        have ok6 := ok5.mono e6
        refine ⟨⟨x, yv, B, B2, js2, hB2⟩, Hj, j2, rv1, fun σ3 l3 o3 k3 => ⟨wipe_eq (by rw [l3, wipe_length]) hB2.1 o3, ?_⟩⟩
        have okB2 := k3 Hj (Same.refl Hj) ((ok5.rebase e6 j1 j2 j3).wipe _)
        refine ⟨⟨x, yv, B, B2, js2, hB2⟩, Hj, okB2, fun H7 e7 => ?_⟩
        have hD7 := e7 D _ (e6 D _ hD5)
        cases hpy : p x yv with
        | true =>
          refine iteT ⟨⟨x, yv, B, B2, js2, hB2⟩, hpy, Hj, okB2.mono e7, fun y8 H8 e8 ry => ⟨us5, e8 D _ hD7, ?_, hjt, ?_, ?_, us5 ++ [y8], upd_same, ?_⟩⟩
          · rw [rD5.length]
            have z : (xs.take i).flatMap (whole p1 g p f) ++ part g p f x j = (xs.take i).flatMap (whole p1 g p f) ++ part g p f x j := rfl
            have lp : (part g p f x j).length ≤ (whole p1 g p f x).length := by
              rw [hw]
              unfold part
              rw [List.length_map, List.length_map]
              have z2 : (g x).filter (p x) = ((g x).take j).filter (p x) ++ ((g x).drop j).filter (p x) := by rw [← List.filter_append, List.take_append_drop]
              rw [z2, List.length_append]
              exact Nat.le_add_right _ _
            have lo := low (i + 1)
            rw [up, List.length_append] at lo
            rw [List.length_append]
            exact Nat.lt_of_le_of_lt (by omega : _ ≤ 100000) (by decide)
          · intro b z hbz
            rw [upd_ne (ne_of_none hbz nD)]
            exact e8 b z (e7 b z (e6 b z (e15 b z hbz)))
          · exact ((ok6.mono e7).mono e8).other nDc (lstNoTup (e8 D _ hD7)) noD
          · have t : TupEx H8 (upd H8 D (.lst (us5 ++ [y8]))) := TupEx.write (lstNoTup (e8 D _ hD7))
            have pj : part g p f x (j + 1) = part g p f x j ++ [f x yv] := by
              unfold part
              rw [take_succ_of hy, List.filter_append, List.map_append, List.filter_cons, if_pos hpy]; rfl
            rw [pj, ← List.append_assoc]
            exact ((rD5.ex ((e6.trans e7).trans e8)).at t).append (.cons (ry.at t) .nil)
        | false =>
          refine iteF ⟨hjt, (e15.trans e6).trans e7, ok6.mono e7, us5, hD7, ?_⟩
          have pj : part g p f x (j + 1) = part g p f x j := by
            unfold part
            rw [take_succ_of hy, List.filter_append, List.map_append, List.filter_cons, if_neg (by rw [hpy]; exact Bool.false_ne_true)]
            simp
          rw [pj]
          exact rD5.ex (e6.trans e7)
      · have hjn : j = (g x).length := by omega
        subst hjn
        refine .inl ⟨(wk1 _ H5 ok5.ex).2 (by rw [List.length_map]), hlt, e15, us5, hD5, ?_⟩
        have pj : part g p f x (g x).length = whole p1 g p f x := by rw [hw]; unfold part; rw [List.take_length]
        rw [up, ← pj]
        exact rD5
    | false =>
      refine iteF ⟨hlt, e13, us, hD3, ?_⟩
      have hw : whole p1 g p f x = [] := by unfold whole; rw [if_neg (by rw [hp]; exact Bool.false_ne_true)]
      rw [up, hw, List.append_nil]
      exact rD.ex (e2.trans e3)
  · have hin : i = xs.length := by omega
    subst hin
    refine .inl ⟨(wk _ H' eb).2 (by rw [List.length_map]), ?_⟩
    rw [List.take_length] at rD
    exact q D us H' (e1.free nD) (e1.trans e') hD rD
end
/-- less is known of one slot -/
theorem ele_un {Γ : List Cell} (i : Nat) : ELe Γ (Γ.set i .un) := ⟨by rw [List.length_set], fun j c h => by
  rcases getSetC h with ⟨e1, e2, e3⟩ | ⟨e1, e2⟩
  · rw [e2, e1]
    exact ⟨Γ[i], List.getElem?_eq_getElem e3, .un _⟩
  · exact ⟨c, e2, .eq c⟩⟩
section
variable {X : Cx} {Γ : List Cell} {ds : List PyData} {pos : Pos}
/-- y = x, x an owned list: from now on it is y's, and read only -/
theorem ds_move (i j : Nat) {n m : Str} {pn pm : Pos} (hc : Γ[i]? = some (.own (.lst ds)) := by rfl) (hN : X.N[i]? = some m := by rfl) (hj : X.N[j]? = some n := by rfl) (hv : Vis X.env.scope m := by first | exact Or.inl rfl | exact Or.inr (Or.inl rfl) | exact Or.inr (Or.inr rfl)) (hd : (m == ("__debug__" : Str)) = false := by decide) (hcd : (m == ("__classdict__" : Str)) = false := by decide)
    (hNd : X.N.Nodup := by assumption) (hx : Loc X.env.scope n := by first | exact .inl rfl | exact .inr rfl) (hs : swapsWith (.Name m pm) (some (.Name n pn)) pos.line X.env = pure false := by rfl) (hf : X.fn n = true ∨ X.env.scope.names.lookup n = some .local := by first | exact .inl rfl | exact .inr rfl) :
    DS X Γ (.Assign [.Name n pn] (.Name m pm) pos) (.nx ((Γ.set i .un).set j (.rdl ds))) :=
  PS.wk (ps_set hNd hj hx (pe_var hN hv hd hcd) hs hf) fun D σ H ⟨H0, ok, q⟩ => by
    obtain ⟨a, e, na, vs, s, r⟩ := ok.own hc
    refine ⟨.ref a, e, ?_⟩
    have ok1 := ok.wk (ele_un (Γ := Γ) i)
    have no : ∀ k, ¬ OwnAt σ (Γ.set i .un) k a := fun k ⟨k1, o, k2⟩ => by
      rcases getSetC k2 with ⟨_, e2, _⟩ | ⟨e1, e2⟩
      · cases e2
      · exact e1 (ok.apart k i a ⟨k1, o, e2⟩ ⟨e, _, hc⟩)
    have ok2 := ok1.join na s no
    obtain ⟨Hb, b1, b2, b3, b4, b5⟩ := ok2.max
    exact q Hb _ H ((sameNew na).trans b1) (b3.putR (b4 a _ s no) (r.at b5))
end
end K54
set_option Elab.async false
set_option linter.all false
set_option autoImplicit false
set_option maxRecDepth 100000
set_option maxHeartbeats 1000000
/-! K54, the data layer, 10: data of any kind: walked, asked for its length and its items -/
namespace K54
open PySem PySem.Spec PyProof.Rows L2
/-- data that is read in the base -/
def tBs (P : Program) (w : World) (K : PySem.W.Frag) (Γ : List Cell) (d : PyData) : TE := fun σ H Q => ∃ H0, EnvOk P w K H0 H σ Γ ∧ ∀ v H' Hb, Same H H' → Same H0 Hb → (∀ a u, H a = some u → (∀ xs, ¬ Rd H a (.tup xs)) → H0 a = none → Hb a = none) → EnvOk P w K Hb H' σ Γ → Dp K Hb v d → Q v H'
abbrev DB (X : Cx) (Γ : List Cell) (e : Expr) (d : PyData) : Prop := PE X e (tBs X.prog X.w X.K Γ d)
section
variable {K : PySem.W.Frag} {Hb : Hp}
theorem dpGet : ∀ {vs : List V} {ds : List PyData} {i : Nat} {d : PyData}, DpAll K Hb vs ds → ds[i]? = some d → ∃ v, vs[i]? = some v ∧ Dp K Hb v d
  | _, [], _, _, _, e => by simp at e
  | _, _ :: _, 0, _, h, e => by
    cases h with
    | cons h1 _ => simp at e; subst e; exact ⟨_, rfl, h1⟩
  | _, _ :: ds, i + 1, _, h, e => by
    cases h with
    | cons _ h2 =>
      obtain ⟨v, q, r⟩ := dpGet (i := i) h2 (by simpa using e)
      exact ⟨v, by simpa using q, r⟩
/-- a walk whose items are read in the base -/
theorem walksG {J : It} {ds : List PyData} (h : ∀ i H, Same Hb H → (∀ d, ds[i]? = some d → J.go i H ∧ ∀ x H', J.yld i H x H' → H' = H ∧ Dp K Hb x d) ∧ (i = ds.length → J.stop i H)) : Walks K J (ds.map .g) Hb := fun i H e => by
  refine ⟨fun a ha => ?_, fun hi => (h i H e).2 (by rw [hi, List.length_map])⟩
  rw [List.getElem?_map] at ha
  obtain ⟨d, hd, rfl⟩ := Option.map_eq_some_iff.mp ha
  obtain ⟨g, y⟩ := (h i H e).1 d hd
  refine ⟨g, fun v H' hy => ?_⟩
  obtain ⟨rfl, r⟩ := y v H' hy
  exact ⟨Same.refl _, Hb, Same.refl Hb, e, fun b u h1 h2 => (by rw [h1] at h2; cases h2), r⟩
theorem walksTupG {a : Addr} {vs : List V} {ds : List PyData} (s : SqT K Hb a vs) (r : DpAll K Hb vs ds) : Walks K (Itt K a) (ds.map .g) Hb := walksG fun i H e => by
  have s' := sqTSame e s
  refine ⟨fun d hd => ?_, fun hi => ⟨vs, s', by rw [dpAllLen r, hi]; exact Nat.le_refl _⟩⟩
  obtain ⟨v, hv, rv⟩ := dpGet r hd
  refine ⟨⟨vs, v, s', hv⟩, fun x H' ⟨e1, e2⟩ => ?_⟩
  have ex : x = v := Option.some.inj ((e2 vs s').symm.trans hv)
  rw [ex]
  exact ⟨e1, rv⟩
theorem walksLstG {a : Addr} {vs : List V} {ds : List PyData} (s : SqL K Hb a vs) (r : DpAll K Hb vs ds) : Walks K (Itl K a) (ds.map .g) Hb := walksG fun i H e => by
  have s' := sqLSame e s
  refine ⟨fun d hd => ?_, fun hi => ⟨vs, s', by rw [dpAllLen r, hi]; exact Nat.le_refl _⟩⟩
  obtain ⟨v, hv, rv⟩ := dpGet r hd
  refine ⟨⟨vs, v, s', hv⟩, fun x H' ⟨e1, e2⟩ => ?_⟩
  have ex : x = v := Option.some.inj ((e2 vs s').symm.trans hv)
  rw [ex]
  exact ⟨e1, rv⟩
end
/-- a sequence's parts -/
inductive IsSq : PyData → List PyData → Prop
  | lst (ds : List PyData) : IsSq (.list ds) ds
  | tup (ds : List PyData) : IsSq (.tuple ds) ds
section
variable {X : Cx} {Γ : List Cell} {tg e a b : Expr} {d x : PyData} {ds : List PyData} {p pos : Pos}
theorem db_var (i : Nat) {n : Str} (hc : Γ[i]? = some (.gd d) := by rfl) (hN : X.N[i]? = some n := by rfl) (hv : Vis X.env.scope n := by first | exact Or.inl rfl | exact Or.inr (Or.inl rfl) | exact Or.inr (Or.inr rfl)) (hd : (n == ("__debug__" : Str)) = false := by decide) (hcd : (n == ("__classdict__" : Str)) = false := by decide) : DB X Γ (.Name n pos) d :=
  PE.wk (pe_var hN hv hd hcd) fun σ H Q ⟨H0, ok, q⟩ => by
    obtain ⟨x, e, v, rfl, r⟩ := ok.get hc
    exact ⟨v, e, q v H H0 (Same.refl H) (Same.refl H0) (fun _ _ _ _ n => n) ok r⟩
theorem DE.bs (h : DE X Γ e d) : DB X Γ e d := PE.wk h fun σ H Q ⟨H0, ok, q⟩ => ⟨H0, ok, fun v H1 e1 r1 => by
  obtain ⟨Hb, b1, b2, b3, b4, b5, b6⟩ := ok.grow e1
  exact q v H1 Hb e1 b1 b6 b3 (TD.dp _ _ (r1.at b5))⟩
theorem DN.bs (h : DN X Γ e ds) : DB X Γ e (.list ds) := PE.wk h fun σ H Q ⟨H0, ok, q⟩ => ⟨H0, ok, fun a vs H1 n e1 h1 r1 => by
  obtain ⟨Hb, b1, b2, b3, b4, b5, b6⟩ := ok.grow e1
  exact q _ H1 Hb e1 b1 b6 b3 (.lst (.of (b4 a _ h1 n)) (TDs.dps _ _ (r1.at b5)))⟩
theorem DB.g (h : DB X Γ e d) : DG X Γ e d := PE.wk h fun σ H Q ⟨H0, ok, q⟩ => ⟨H0, ok, fun v H1 Hb e1 b1 b6 b3 r1 => q v H1 e1 (dpEx b3.ex r1)⟩
/-- a walk over a list or tuple of any data -/
theorem di_gen (h : DB X Γ e d) (hq : IsSq d ds) : DI X Γ tg e (ds.map .g) := by
  cases hq with
  | lst ds => exact PI.wk (pi_list h) fun σ H R ⟨H0, ok, q⟩ => ⟨H0, ok, fun v H1 Hb e1 b1 b6 b3 r1 => by
      cases r1 with
      | @lst a vs _ s r => exact ⟨a, rfl, ⟨vs, sqLSame b3.ex s⟩, q _ H1 Hb e1 b1 b6 b3 (walksLstG s r)⟩⟩
  | tup ds => exact PI.wk (pi_tup h) fun σ H R ⟨H0, ok, q⟩ => ⟨H0, ok, fun v H1 Hb e1 b1 b6 b3 r1 => by
      cases r1 with
      | @tup a vs _ s r => exact ⟨a, rfl, ⟨vs, sqTSame b3.ex s⟩, q _ H1 Hb e1 b1 b6 b3 (walksTupG s r)⟩⟩
theorem de_lenG (h : DG X Γ e d) (hq : IsSq d ds) (hm : X.mg "len" = none) (hg : Gl X "len" := by rfl) (hs : starEach [e] X.env = (false, eval e X.env) :: starEach [] X.env := by rfl) (hpl : (backTo pos (starEach [] X.env)).any (·.1) = false := by rfl) : DE X Γ (.Call (.Name "len" p) [e] [] pos) (.int ds.length) :=
  PE.wk (pe_callB call_len_seq hg hm (by decide +kernel) (pa_cons h pa_nil hs) (by decide) (by decide) hs hpl) fun σ H Q ⟨H0, ok, q⟩ => ⟨H0, ok, fun v H1 e1 r1 => by
    cases hq with
    | lst ds =>
      cases r1 with
      | @lst a vs _ s r =>
        refine ⟨a, vs, rfl, .inl s, ?_⟩
        rw [dpAllLen r]
        exact q _ H1 e1 (.int _)
    | tup ds =>
      cases r1 with
      | @tup a vs _ s r =>
        refine ⟨a, vs, rfl, .inr s, ?_⟩
        rw [dpAllLen r]
        exact q _ H1 e1 (.int _)⟩
theorem dg_ix {i : Int} (ha : DG X Γ a d) (hq : IsSq d ds) (hb : DE X Γ b (.int i)) (he : atI ds i = some x) (hp : PlainIx b := by exact fun _ _ => rfl) : DG X Γ (.Subscript a b pos) x := by
  cases hq with
  | lst ds => exact PE.wk (pe_ix ix_list ha hb hp) fun σ H Q ⟨H0, ok, q⟩ => ⟨H0, ok, fun u H1 e1 r1 => ⟨H0, ok.mono e1, fun v H2 e2 r2 => by
      have r1' := dpEx e2 r1
      cases r2
      cases r1' with
      | @lst t vs _ s r =>
        unfold atI at he
        obtain ⟨j, hj, hd⟩ := Option.bind_eq_some_iff.mp he
        obtain ⟨z, hz, rz⟩ := dpGet r hd
        refine ⟨t, vs, i, z, rfl, rfl, s, ?_, q z H2 (e1.trans e2) rz⟩
        unfold atI
        rw [dpAllLen r, hj]
        exact hz⟩⟩
  | tup ds => exact PE.wk (pe_ix ix_tup ha hb hp) fun σ H Q ⟨H0, ok, q⟩ => ⟨H0, ok, fun u H1 e1 r1 => ⟨H0, ok.mono e1, fun v H2 e2 r2 => by
      have r1' := dpEx e2 r1
      cases r2
      cases r1' with
      | @tup t vs _ s r =>
        unfold atI at he
        obtain ⟨j, hj, hd⟩ := Option.bind_eq_some_iff.mp he
        obtain ⟨z, hz, rz⟩ := dpGet r hd
        refine ⟨t, vs, i, z, rfl, rfl, s, ?_, q z H2 (e1.trans e2) rz⟩
        unfold atI
        rw [dpAllLen r, hj]
        exact hz⟩⟩
end
/-! ### general data that is known to be of a simple kind -/
mutual
/-- tuples, ints, bools, None, texts only -/
def tonly : PyData → Bool
  | .none => true
  | .bool _ => true
  | .int _ => true
  | .str _ => true
  | .tuple ds => tonlys ds
  | .list _ => false
  | .dict _ => false
def tonlys : List PyData → Bool
  | [] => true
  | d :: ds => tonly d && tonlys ds
end
section
variable {K : PySem.W.Frag} {H : Hp}
mutual
theorem tdOf : ∀ (d : PyData) (v : V), tonly d = true → Dp K H v d → TD K H v d
  | .none, _, _, h => by cases h; exact .non
  | .bool _, _, _, h => by cases h; exact .bl _
  | .int _, _, _, h => by cases h; exact .int _
  | .str _, _, _, h => by cases h; exact .str _
  | .list _, _, t, _ => by simp [tonly] at t
  | .tuple ds, _, t, h => by
    cases h with
    | tup h1 h2 => exact .tup h1 (tdsOf ds _ (by simpa [tonly] using t) h2)
  | .dict _, _, t, _ => by simp [tonly] at t
theorem tdsOf : ∀ (ds : List PyData) (vs : List V), tonlys ds = true → DpAll K H vs ds → TDs K H vs ds
  | [], _, _, h => by cases h; exact .nil
  | d :: ds, _, t, h => by
    simp only [tonlys, Bool.and_eq_true] at t
    cases h with
    | cons h1 h2 => exact .cons (tdOf d _ t.1 h1) (tdsOf ds _ t.2 h2)
end
end
theorem DG.t {X : Cx} {Γ : List Cell} {e : Expr} {d : PyData} (h : DG X Γ e d) (t : tonly d = true) : DE X Γ e d := PE.wk h fun σ H Q ⟨H0, ok, q⟩ => ⟨H0, ok, fun v H' s r => q v H' s (tdOf d v t r)⟩
end K54
set_option Elab.async false
set_option linter.all false
set_option autoImplicit false
set_option maxRecDepth 100000
set_option maxHeartbeats 1000000
/-! K54, the data layer, 11: slices by natural bounds; env-weakening -/
namespace K54
open PySem PySem.Spec PyProof.Rows L2
theorem cutFrom {ds : List PyData} (i : Nat) : cutD ds (some (i : Int)) none = ds.drop i := by
  unfold cutD
  rw [HT.sIx_nat, HT.sIx_none]
  by_cases h : i ≤ ds.length
  · rw [Nat.min_eq_left h, List.take_of_length_le (by simp)]
  · rw [Nat.min_eq_right (by omega), List.drop_of_length_le (Nat.le_refl _), List.drop_of_length_le (by omega)]; simp
theorem cutTo {ds : List PyData} (i : Nat) : cutD ds none (some (i : Int)) = ds.take i := by
  unfold cutD
  rw [HT.sIx_nat, HT.sIx_none, List.drop_zero, Nat.sub_zero]
  by_cases h : i ≤ ds.length
  · rw [Nat.min_eq_left h]
  · rw [Nat.min_eq_right (by omega), List.take_length, List.take_of_length_le (by omega)]
section
variable {X : Cx} {Γ : List Cell} {a e : Expr} {ds : List PyData} {p2 pos : Pos}
theorem dn_slFrom (i : Nat) (ha : DL X Γ a ds) (hb : DE X Γ e (.int (i : Int))) : DN X Γ (.Subscript a (.Slice (some e) none none p2) pos) (ds.drop i) := by
  obtain ⟨t1, h1, r1⟩ := po_so hb
  obtain ⟨t2, h2, r2⟩ := po_no (X := X) (Γ := Γ)
  exact DN.is (dn_slL ha h1 h2 r1 r2) (cutFrom i)
theorem dn_slTo (i : Nat) (ha : DL X Γ a ds) (hb : DE X Γ e (.int (i : Int))) : DN X Γ (.Subscript a (.Slice none (some e) none p2) pos) (ds.take i) := by
  obtain ⟨t1, h1, r1⟩ := po_so hb
  obtain ⟨t2, h2, r2⟩ := po_no (X := X) (Γ := Γ)
  exact DN.is (dn_slL ha h2 h1 r2 r1) (cutTo i)
theorem de_slFrom (i : Nat) (ha : DE X Γ a (.tuple ds)) (hb : DE X Γ e (.int (i : Int))) : DE X Γ (.Subscript a (.Slice (some e) none none p2) pos) (.tuple (ds.drop i)) := by
  obtain ⟨t1, h1, r1⟩ := po_so hb
  obtain ⟨t2, h2, r2⟩ := po_no (X := X) (Γ := Γ)
  exact DE.is (de_slT ha h1 h2 r1 r2) (by rw [cutFrom])
theorem de_slTo (i : Nat) (ha : DE X Γ a (.tuple ds)) (hb : DE X Γ e (.int (i : Int))) : DE X Γ (.Subscript a (.Slice none (some e) none p2) pos) (.tuple (ds.take i)) := by
  obtain ⟨t1, h1, r1⟩ := po_so hb
  obtain ⟨t2, h2, r2⟩ := po_no (X := X) (Γ := Γ)
  exact DE.is (de_slT ha h2 h1 r2 r1) (by rw [cutTo])
/-- by an int that is less than none -/
theorem de_slFromI (i : Int) (ha : DE X Γ a (.tuple ds)) (hb : DE X Γ e (.int i)) : DE X Γ (.Subscript a (.Slice (some e) none none p2) pos) (.tuple (cutD ds (some i) none)) := by
  obtain ⟨t1, h1, r1⟩ := po_so hb
  obtain ⟨t2, h2, r2⟩ := po_no (X := X) (Γ := Γ)
  exact de_slT ha h1 h2 r1 r2
theorem de_slToI (i : Int) (ha : DE X Γ a (.tuple ds)) (hb : DE X Γ e (.int i)) : DE X Γ (.Subscript a (.Slice none (some e) none p2) pos) (.tuple (cutD ds none (some i))) := by
  obtain ⟨t1, h1, r1⟩ := po_so hb
  obtain ⟨t2, h2, r2⟩ := po_no (X := X) (Γ := Γ)
  exact de_slT ha h2 h1 r2 r1
end
theorem atI_nat {α : Type} {xs : List α} {i : Nat} {x : α} (h : xs[i]? = some x) : atI xs (i : Int) = some x := by
  have hl := (List.getElem?_eq_some_iff.mp h).1
  unfold atI ixN
  rw [if_pos (by omega), if_pos (by omega), Int.toNat_natCast]
  exact h
/-- what is known of the slots, cell by cell -/
theorem ele_same {Γ : List Cell} : ELe Γ Γ := ELe.refl Γ
end K54
set_option Elab.async false
set_option linter.all false
set_option autoImplicit false
set_option maxRecDepth 100000
set_option maxHeartbeats 4000000
/-! K54: dicts keyed by nested tuples, 1: told on the abstract heap; what is asked of them -/
namespace K54
open PySem PySem.Spec PyProof.Rows L2
open PySem.W (EachIs alike dataLe dataLt AllAlike Sortable)
section
variable {P : Program} {w : World} {A : Around} {E : Value → Shared → Prop} {s : Shared}
abbrev rows3 (rows : List Rw) : List (NestedKey × Addr × Value) := rows.map fun r => (r.1, r.2, Value.bool true)
theorem rows3_keys (rows : List Rw) : (rows3 rows).map (·.1) = rows.map (·.1) := by rw [List.map_map]; rfl
theorem ndo_ok {H : Hp} {h : Heap} {a : Addr} {rows : List Rw} (hs : (a == sysModules) = false) (x : h.DictOfH (nestedKind P w) a (rows3 rows)) : ObjOk P w H h a (NDO P w a rows) := by
  obtain ⟨o, es, ep, ho, hc, hd, he, _, _⟩ := x
  refine ⟨⟨hs, o, es, ep, ho, hc, hd, by rw [he, List.map_map]; rfl⟩, ⟨o, ho⟩, fun h1 h2 ⟨z, o', es', ep', ho', r⟩ k => ⟨z, o', es', ep', k o' ho', r⟩⟩
theorem ndo_full {H : Hp} {h : Heap} {a : Addr} {rows : List Rw} (x : ObjOk P w H h a (NDO P w a rows)) (hk : ∀ r ∈ rows, NestedIs h r.1 (.ref r.2) ∧ r.1.depth ≤ 8) (nd : (rows.map (·.1)).Nodup) : (a == sysModules) = false ∧ h.DictOfH (nestedKind P w) a (rows3 rows) := by
  obtain ⟨⟨hs, o, es, ep, ho, hc, hd, he⟩, _, _⟩ := x
  refine ⟨hs, o, es, ep, ho, hc, hd, by rw [he, List.map_map]; rfl, fun y hy => ?_, by rw [rows3_keys]; exact nd⟩
  obtain ⟨r, hr, rfl⟩ := List.mem_map.mp hy
  exact hk r hr
/-- the row r joins -/
def addRow (rows : List Rw) (r : Rw) : List Rw := if r.1 ∈ rows.map (·.1) then rows else rows ++ [r]
theorem atKey_rows (rows : List Rw) (k : NestedKey) : (atKey (rows3 rows) k).isSome = decide (k ∈ rows.map (·.1)) := by
  induction rows with
  | nil => rfl
  | cons r rows ih =>
    by_cases e : r.1 = k
    · simp [rows3, atKey, e]
    · have e' : ¬ (k = r.1) := fun z => e z.symm
      have z : atKey (rows3 (r :: rows)) k = atKey (rows3 rows) k := by simp [rows3, atKey, e]
      rw [z, ih, List.map_cons]
      simp [e']
theorem put_rows (rows : List Rw) (k : NestedKey) (b : Addr) : storedH (rows3 rows) k b (.bool true) = rows3 (addRow rows (k, b)) := by
  have z := atKey_rows rows k
  unfold addRow
  by_cases h : k ∈ rows.map (·.1)
  · rw [if_pos h]
    rw [decide_eq_true h] at z
    obtain ⟨p, hp⟩ := Option.isSome_iff_exists.mp z
    rw [storedH_old hp]
    show (rows3 rows).map (putAt k (.bool true)) = rows3 rows
    rw [List.map_map]
    refine List.map_congr_left fun r _ => ?_
    show putAt k (.bool true) (r.1, r.2, .bool true) = _
    unfold putAt
    split <;> rfl
  · rw [if_neg h]
    rw [decide_eq_false h] at z
    rw [storedH_new (Option.not_isSome_iff_eq_none.mp (by rw [z]; exact Bool.false_ne_true))]
    show rows3 rows ++ _ = (rows ++ [(k, b)]).map _
    rw [List.map_append]; rfl
theorem addRow_nd {rows : List Rw} {r : Rw} (nd : (rows.map (·.1)).Nodup) : ((addRow rows r).map (·.1)).Nodup := by
  unfold addRow
  split
  · exact nd
  · rename_i h
    rw [List.map_append, List.map_singleton]
    exact List.nodup_append.mpr ⟨nd, by simp, fun x hx y hy e => h (by rw [← List.mem_singleton.mp hy, ← e]; exact hx)⟩
theorem addRow_mem {rows : List Rw} {r q : Rw} (h : q ∈ addRow rows r) : q ∈ rows ∨ q = r := by
  unfold addRow at h
  split at h
  · exact .inl h
  · rcases List.mem_append.mp h with h | h
    · exact .inl h
    · exact .inr (List.mem_singleton.mp h)
/-- the search for None among tuples -/
theorem find_none {d : Addr} {o : Obj} {es : Array DictEntry} {ep : Nat} {rows : List Rw} {hv : Int} {Q : Option Nat → Shared → Prop} (hu : A.units + 8 < cLine) (ho : s.heap.get? d = some o) (hd : o.data = .dict es ep) (he : es.toList = rows.map fun r => entryOfKey (nestedKind P w) (r.1, r.2, Value.bool true))
    (hk : ∀ r ∈ rows, NestedIs s.heap r.1 (.ref r.2) ∧ r.1.depth ≤ 8 ∧ ∃ ks, r.1 = .tup ks) (hQ : Q none s) : wpAny (model P w) A (dictFind d .none hv) Q E s := by
  have hmem : ∀ e ∈ es.toList, ∃ r ∈ rows, e = entryOfKey (nestedKind P w) (r.1, r.2, Value.bool true) := fun e hin => by
    rw [he] at hin
    obtain ⟨r, hr, rfl⟩ := List.mem_map.mp hin
    exact ⟨r, hr, rfl⟩
  unfold dictFind
  try with_reducible refine wpAny_holding ?_
  refine wpAny_bind (wpAny_dictEntries ho hd ?_)
  dsimp only
  have inr : ∀ i ∈ placesWithHash es.size (fun i => es[i]?.map (·.hash)) hv, ∃ r ∈ rows, es[i]? = some (entryOfKey (nestedKind P w) (r.1, r.2, Value.bool true)) := fun i hi => by
    unfold placesWithHash at hi
    have lt : i < es.size := List.mem_range.mp (List.mem_filter.mp hi).1
    obtain ⟨r, hr, e⟩ := hmem es[i] (by rw [← Array.getElem_toList]; exact List.getElem_mem _)
    exact ⟨r, hr, by rw [Array.getElem?_eq_getElem lt, e]⟩
  generalize placesWithHash es.size (fun i => es[i]?.map (·.hash)) hv = pl at inr ⊢
  cases pl with
  | nil =>
    rw [if_pos (by rfl)]
    unfold dictWalkPlain
    refine wpAny_bind ?_
    exact wpAny_pure (wpAny_pure hQ)
  | cons i0 rest0 =>
    have st0 : ∀ v ∈ (i0 :: rest0).filterMap (fun i => es[i]?.map (·.key)), ∃ r ∈ rows, v = .ref r.2 := fun v hv' => by
      obtain ⟨i, hi, e⟩ := List.mem_filterMap.mp hv'
      obtain ⟨r, hr, e2⟩ := inr i hi
      rw [e2] at e
      exact ⟨r, hr, (Option.some.inj e).symm⟩
    have ne0 : ∃ r ∈ rows, ∃ tl, (i0 :: rest0).filterMap (fun i => es[i]?.map (·.key)) = .ref r.2 :: tl := by
      obtain ⟨r, hr, e2⟩ := inr i0 List.mem_cons_self
      refine ⟨r, hr, rest0.filterMap (fun i => es[i]?.map (·.key)), ?_⟩
      rw [List.filterMap_cons, e2]; rfl
    obtain ⟨r0, hr0, tl, etl⟩ := ne0
    rw [etl] at st0 ⊢
    rw [if_neg (by simp [carriedByValue])]
    rw [if_neg (show ¬ ((Value.ref r0.2 :: tl) == [Value.none]) = true by simp)]
    refine wpAny_bind ?_
    unfold tableMayTell
    rw [if_neg (by simp)]
    have quiet : ∀ v, (v = .none ∨ ∃ r ∈ rows, v = .ref r.2) → ∀ Q : Bool → Shared → Prop, Q true s → wpAny (model P w) A (eqIsQuiet 8 v) Q E s := fun v hv' Q q => by
      rcases hv' with e | ⟨r, hr, e⟩
      · subst e
        exact QuietAt.byValue rfl A E Q q
      · subst e
        exact quiet_key r.1 _ 8 s (hk r hr).1 (hk r hr).2.1 A E Q q
    refine wpAny_bind (quiet .none (.inl rfl) _ ?_)
    simp only [Bool.not_true, Bool.false_eq_true, if_false]
    refine wpAny_bind (wpAny_forIn_list _ (fun rest r s' => s' = s ∧ r = (none, ()) ∧ ∀ v ∈ rest, ∃ q ∈ rows, v = .ref q.2) _ ?_ ?_ _ _ ⟨rfl, rfl, st0⟩)
    · rintro x rest r s' ⟨rfl, rfl, hr⟩
      refine wpAny_bind (quiet x (.inr (hr x List.mem_cons_self)) _ ?_)
      simp only [Bool.not_true, Bool.false_eq_true, if_false]
      exact wpAny_pure ⟨rfl, rfl, fun v hv' => hr v (List.mem_cons_of_mem _ hv')⟩
    · rintro r s' ⟨rfl, rfl, _⟩
      refine wpAny_pure ?_
      rw [if_neg (by simp)]
      refine wpAny_bind ?_
      refine wpAny_forIn_list _ (fun rest b s'' => s'' = s' ∧ b = (none, none) ∧ ∀ i ∈ rest, ∃ r ∈ rows, es[i]? = some (entryOfKey (nestedKind P w) (r.1, r.2, Value.bool true))) _ ?_ ?_ _ _ ⟨rfl, rfl, inr⟩
      · rintro i rest b s'' ⟨rfl, rfl, hr⟩
        obtain ⟨r, hrr, ei⟩ := hr i List.mem_cons_self
        rw [ei]
        dsimp only
        by_cases hh : ((entryOfKey (nestedKind P w) (r.1, r.2, Value.bool true)).hash == hv) = true
        · rw [if_pos hh]
          refine wpAny_bind (wpAny_dictEpoch ho hd (wpAny_bind ?_))
          obtain ⟨k1, k2, ks, k3⟩ := hk r hrr
          have eqn : SeqAt.EqAt A s'' (.ref r.2) .none false := by
            rw [k3] at k1
            cases k1 with
            | @tup _ ob vs n _ h1 h2 h3 h4 => exact SeqAt.EqAt.tuple_none ⟨_, h1, h2, _, h3⟩ (by omega)
          refine eqn P w _ _ ?_
          refine wpAny_bind (wpAny_dictEpoch ho hd ?_)
          show wpAny _ _ (if (ep != ep) = true then _ else _) _ E _
          rw [if_neg (by simp)]
          simp only [Bool.false_eq_true, if_false]
          refine wpAny_bind (wpAny_rule ?_)
          first | rw [if_neg (by simp)] | skip
          first
            | exact wpAny_pure ⟨rfl, rfl, fun j hj => hr j (List.mem_cons_of_mem _ hj)⟩
            | exact wpAny_bind (wpAny_pure (wpAny_pure ⟨rfl, rfl, fun j hj => hr j (List.mem_cons_of_mem _ hj)⟩))
        · rw [if_neg hh]
          exact wpAny_pure ⟨rfl, rfl, fun j hj => hr j (List.mem_cons_of_mem _ hj)⟩
      · rintro b s'' ⟨rfl, rfl, _⟩
        exact wpAny_pure hQ
end
end K54
set_option Elab.async false
set_option linter.all false
set_option autoImplicit false
set_option maxRecDepth 100000
set_option maxHeartbeats 4000000
/-! K54: dicts keyed by nested tuples, 2: made, written, asked, counted, sorted -/
namespace K54
open PySem PySem.Spec PyProof.Rows L2
open PySem.W (EachIs alike dataLe dataLt AllAlike Sortable)
/-- the rows of such a dict, as they are held -/
def NRows (K : PySem.W.Frag) (H : Hp) (rows : List Rw) : Prop := (rows.map (·.1)).Nodup ∧ ∀ r ∈ rows, TD K H (.ref r.2) r.1.data ∧ r.1.depth ≤ 8
theorem keyTup {K : PySem.W.Frag} {H : Hp} {b : Addr} {k : NestedKey} (h : TD K H (.ref b) k.data) : ∃ ks, k = .tup ks := by
  cases k with
  | none => rw [NestedKey.data] at h; cases h
  | num i => rw [NestedKey.data] at h; cases h
  | text x => rw [NestedKey.data] at h; cases h
  | tup ks => exact ⟨ks, rfl⟩
section
variable {X : Cx} {pins : List (Addr × Obj)} {σ : L2.St} {H : Hp} {s : Shared}
theorem nrows_full (I : Inv X pins σ H s) {a : Addr} {rows : List Rw} (ha : H a = some (NDO X.prog X.w a rows)) (hr : NRows X.K H rows) : (a == sysModules) = false ∧ s.heap.DictOfH (nestedKind X.prog X.w) a (rows3 rows) :=
  ndo_full (I.hok a _ ha) (fun r hm => ⟨nestedOf _ _ _ (readsRow I (hr.2 r hm).1), (hr.2 r hm).2⟩) hr.1
/-- a new object at a place that was free, the heap's end aside -/
theorem laidAt {a : Addr} {o : HO} {h' : Heap} {t' : Nat} (I : Inv X pins σ H s) (k : ∀ b u, s.heap.get? b = some u → h'.get? b = some u) (ha : s.heap.get? a = none) (new : ObjOk X.prog X.w (upd H a o) h' a o) : H a = none ∧ Inv X pins σ (upd H a o) { s with heap := h', toks := t' } := by
  have hn : H a = none := by
    cases q : H a with
    | none => rfl
    | some u =>
      have z : a < s.heap.objs.size := I.hok.lt q
      exfalso
      have y := I.hok a u q
      obtain ⟨_, _, ex⟩ : True ∧ True ∧ ∃ v, s.heap.get? a = some v := ⟨trivial, trivial, by
        cases u with
        | lst xs => obtain ⟨_, _, _, _, e⟩ := y; exact ⟨_, e⟩
        | tup xs => obtain ⟨_, _, _, ob, e, _⟩ := y; exact ⟨_, e⟩
        | dK kvs => obtain ⟨_, _, _, _, ob, _, _, e, _⟩ := y; exact ⟨_, e⟩
        | dT kvs => obtain ⟨_, _, _, _, ob, _, _, e, _⟩ := y; exact ⟨_, e⟩
        | set S n => obtain ⟨ob, _, _, _, e, _⟩ := y; exact ⟨_, e⟩
        | ins C dx fs => obtain ⟨_, _, _, e, _⟩ := y; exact ⟨_, e⟩
        | own y => obtain ⟨_, e⟩ := y; exact ⟨_, e⟩
        | xd fs => obtain ⟨_, ⟨_, _, _, e, _⟩, _⟩ := y; exact ⟨_, e⟩
        | rng lo hi => obtain ⟨_, _, _, e⟩ := y; exact ⟨_, e⟩
        | frz ob u => obtain ⟨e, _⟩ := y; exact ⟨_, e⟩
        | tbl ps => exact ⟨_, show s.heap.get? a = some _ from y⟩
        | met f y' => exact ⟨_, show s.heap.get? a = some _ from y⟩
        | ext φ => obtain ⟨_, ⟨_, e⟩, _⟩ := y; exact ⟨_, e⟩⟩
      obtain ⟨v, e⟩ := ex
      rw [ha] at e
      cases e
  have ne : ∀ b u, s.heap.get? b = some u → b ≠ a := fun b u q z => by rw [z, ha] at q; cases q
  refine ⟨hn, I.un ⟨fun b u q _ _ _ => k b u q, fun b u q _ _ _ => ⟨u.slots, k b u q⟩, fun b u q n _ => by rw [upd_ne (ne b u q)]; exact n, fun b u q _ => ⟨u, k b u q⟩, fun b xs q => by rw [upd_ne (ne_of_none q hn)]; exact q, fun b u xs q => by rw [upd_ne (ne_of_none q hn)]; exact q, fun b ps q => ⟨#[], by rw [upd_ne (ne_of_none q hn), q]; simp⟩⟩ fun b u e => ?_⟩
  by_cases hb : b = a
  · subst hb
    rw [upd_same] at e
    cases e
    exact new
  · rw [upd_ne hb] at e
    exact (I.hok b u e).stay (fun c v _ q => k c v q) (fun c q => by rw [upd_ne (ne_of_none q hn)]; exact q) fun c xs q => by rw [upd_ne (ne_of_none q hn)]; exact q
/-- {} -/
def tND (P : Program) (w : World) : TE := fun _ H Q => ∀ p, H p = none → Q (.ref p) (upd H p (NDO P w p []))
theorem pe_nd0 {pos : Pos} : PE X (.Dict [] [] pos) (tND X.prog X.w) := ⟨fun pins s σ H Q I h =>
  wpAny_Dict_empty ⟨.ref s.heap.objs.size, _, I.laid (a := s.heap.objs.size) (o := NDO X.prog X.w s.heap.objs.size []) (t' := s.toks) (fun _ _ q => Heap.get?_push_of_some _ q) (Nat.le_refl _)
    (ndo_ok (beq_eq_false_iff_ne.mpr (Ne.symm (Nat.ne_of_lt I.big))) (Heap.DictOfH.new s.heap)), rfl, h _ (I.hok.fresh (Nat.le_refl _))⟩⟩
/-- d[k] = True -/
def rSetND (P : Program) (w : World) (K : PySem.W.Frag) : TSet := fun o i v H Q => ∃ (a b : Addr) (rows : List Rw) (k : NestedKey), o = .ref a ∧ i = .ref b ∧ v = .bl true ∧ H a = some (NDO P w a rows) ∧ NRows K H rows ∧ TD K H (.ref b) k.data ∧ k.depth ≤ 8 ∧ rows.length ≤ 1000 ∧ Q (upd H a (NDO P w a (addRow rows (k, b))))
theorem set_nd (hu : X.A.units + 12 < cLine) : PSet X (rSetND X.prog X.w X.K) := by
  intro pins s σ H o i v ov iv u Q I ro ri rv h
  obtain ⟨a, b, rows, k, rfl, rfl, rfl, ha, hr, hk, hd, few, q⟩ := h
  cases ro
  cases ri
  cases rv
  obtain ⟨hs, D⟩ := nrows_full I ha hr
  refine wpAny_setItem_heap (knd := nestedKind X.prog X.w) (show X.A.units + 1 + 8 < cLine by omega) ⟨nestedOf _ _ _ (readsRow (r := (k, b)) I hk), hd⟩ D (fun h' D' sb => ?_) (by rw [List.length_map, sizeLine_eq]; omega)
  rw [put_rows] at D'
  have he : ∃ u, h'.get? a = some u := let ⟨o, _, _, ho, _⟩ := D'; ⟨o, ho⟩
  exact ⟨upd H a (NDO X.prog X.w a (addRow rows (k, b))), I.write (e := a) (t' := s.toks + (nestedKind X.prog X.w).draws k) (by rw [ha]; trivial) (.inl rfl) (fun c u hc hu' => (sb.2 c hc).trans hu') he (ndo_ok hs D'), q⟩
/-- len(d) -/
def rLenND (P : Program) (w : World) (K : PySem.W.Frag) : List V → Hp → VK → Prop := fun vs H Q => ∃ (a : Addr) (rows : List Rw), vs = [.ref a] ∧ H a = some (NDO P w a rows) ∧ NRows K H rows ∧ rows.length ≤ 1000 ∧ Q (.int (rows.length : Nat)) H
theorem cr_lenND : CallR X (.builtin "len") (rLenND X.prog X.w X.K) := by
  intro pins s σ H vs us Q I r h
  obtain ⟨a, rows, rfl, ha, hr, few, q⟩ := h
  rw [Vals.ref1 r]
  obtain ⟨hs, D⟩ := nrows_full I ha hr
  refine call_len_dictH (knd := nestedKind X.prog X.w) hs D (by rw [List.length_map]; omega) ?_
  rw [List.length_map]
  exact ⟨.int (rows.length : Nat), H, I.tok _, ⟨_, rfl⟩, q⟩
/-- sorted(d) -/
def rSortND (P : Program) (w : World) (K : PySem.W.Frag) : List V → Hp → VK → Prop := fun vs H Q => ∃ (a : Addr) (rows : List Rw), vs = [.ref a] ∧ H a = some (NDO P w a rows) ∧ NRows K H rows ∧ rows.length ≤ 1000 ∧ AllAlike (rows.map encR) ∧ Sortable (rows.map encR) ∧
  ∀ (L' : List Rw) (p : Addr), L'.Perm rows → L'.Pairwise (fun q r => dataLe false encR q r = true) → H p = none → Q (.ref p) (upd H p (.lst (L'.map fun r => V.ref r.2)))
theorem cr_sortND (hc : X.calm = true) (hu : X.A.units + 64 < cLine) : CallR X (.builtin "sorted") (rSortND X.prog X.w X.K) := by
  intro pins s σ H vs us Q I r h
  obtain ⟨a, rows, rfl, ha, hr, few, hal, hso, q⟩ := h
  rw [Vals.ref1 r]
  obtain ⟨hs, D⟩ := nrows_full I ha hr
  obtain ⟨es, ep, raw, hsz, hes⟩ := D.raw
  rw [List.length_map] at hsz
  refine Calls.call_function_entry kind_sorted plain_sorted entry_sorted (args_sorted1 _) ?_
  unfold Builtin.«sorted»
  refine wpAny_bind (m := checkCount "sorted" 1 1 _) (wpAny_pure ?_)
  refine wpAny_bind (PySem.W.kdu_collect (A := X.A.in1) (KdlSrc.rawDict (es := es) (ep := ep) hs) (I.ok.hd hc) raw (by rw [hsz, sizeLine_eq]; omega) fun h' tk acc hk hacc => ?_)
  have eacc : acc.toList = rows.map fun r => Value.ref r.2 := by
    refine items_out (Pv := fun i v => ∃ hi : i < es.size, v = es[i].key) (by rw [List.length_map, ← hsz]; exact hacc) fun j v ⟨hj, e⟩ => ?_
    obtain ⟨y, hy, h1, _, _⟩ := hes j hj
    rw [List.getElem?_map] at hy
    obtain ⟨r, hr', rfl⟩ := Option.map_eq_some_iff.mp hy
    rw [List.getElem?_map, hr', e, h1]; rfl
  rw [eacc]
  refine wpAny_bind (wpAny_newList ?_ (by rw [List.length_map, sizeLine_eq]; omega))
  have ho2 : (h'.push (seqObj "list" (rows.map fun r => Value.ref r.2).toArray 0)).get? h'.objs.size = some (seqObj "list" (rows.map fun r => Value.ref r.2).toArray 0) := Heap.get?_push_size _ rfl
  refine wpAny_bind (wpAny_holding (PySem.W.list_sort_data (s := { s with heap := h'.push (seqObj "list" (rows.map fun r => Value.ref r.2).toArray 0), toks := tk }) (enc := encR) (R := fun v b => v = Value.ref b.2) ho2 (eachSelf rows) (eachRows fun r hrM => ?_) hal hso (by rw [sizeLine_eq]; omega) (fun b hb => ?_) fun out hl eo => ?_))
  · exact PyProof.Rows.Reads.keeps (fun b u e => Heap.get?_push_of_some _ (hk b u e)) (readsRow I (hr.2 r hrM).1)
  · have z := (hr.2 b hb).2
    show X.A.units + 1 + 1 + b.1.data.depth < cLine
    rw [dataDepth]; omega
  obtain ⟨c, hc'⟩ := sortedHeap_at (vs := rows.map fun r => Value.ref r.2) (out := out.toArray) ho2
  have eo' := eachEq eo
  have pS : (rows.mergeSort (dataLe false encR)).Perm rows := List.mergeSort_perm ..
  have free : s.heap.get? h'.objs.size = none := by
    cases q : s.heap.get? h'.objs.size with
    | none => rfl
    | some u => exact absurd (Heap.lt_size (hk _ _ q)) (Nat.lt_irrefl _)
  have keep : ∀ b u, s.heap.get? b = some u → (sortedHeap (h'.push (seqObj "list" (rows.map fun r => Value.ref r.2).toArray 0)) h'.objs.size (rows.map fun r => Value.ref r.2) out.toArray).get? b = some u := fun b u e => by
    have q := hk b u e
    have lt := Heap.lt_size q
    rw [sortedHeap_old (Nat.ne_of_lt lt) (by rw [size_push']; exact Nat.lt_succ_of_lt lt)]
    exact Heap.get?_push_of_some _ q
  obtain ⟨hn, J⟩ := laidAt (t' := tk) (o := .lst ((rows.mergeSort (dataLe false encR)).map fun r => V.ref r.2)) I keep free ⟨by rw [List.length_map, pS.length_eq, sizeLine_eq]; omega, out, c, by rw [eo']; exact vals_rows _, hc'⟩
  exact wpAny_pure ⟨_, rfl, ⟨.ref h'.objs.size, _, J, rfl, q _ _ pS (PySem.W.sort_pairwise (PySem.W.sortLe_total _ _ _) rows) hn⟩⟩
/-- k in d, None in d -/
def rInND (P : Program) (w : World) (K : PySem.W.Frag) : R2 := fun x y H Q => ∃ (a : Addr) (rows : List Rw), y = .ref a ∧ H a = some (NDO P w a rows) ∧ NRows K H rows ∧
  ((∃ (b : Addr) (k : NestedKey), x = .ref b ∧ TD K H (.ref b) k.data ∧ k.depth ≤ 8 ∧ Q (.bl (decide (k ∈ rows.map (·.1)))) H) ∨ (x = .non ∧ Q (.bl false) H))
theorem op_inND (hu : X.A.units + 20 < cLine) : OpR X (compareOp .In) (rInND X.prog X.w X.K) := by
  intro pins s σ H x y v u Q I rx ry h
  obtain ⟨a, rows, rfl, ha, hr, h⟩ := h
  cases ry
  obtain ⟨hs, D⟩ := nrows_full I ha hr
  rcases h with ⟨b, k, rfl, hk, hd, q⟩ | ⟨rfl, q⟩
  · cases rx
    refine wpAny_in_heap (knd := nestedKind X.prog X.w) (show X.A.units + 1 + 8 < cLine by omega) ⟨nestedOf _ _ _ (readsRow (r := (k, b)) I hk), hd⟩ hs D ?_
    rw [atKey_rows]
    refine ⟨_, H, I.tok _, ?_, q⟩
    exact (show RelV (V.bl (decide (k ∈ rows.map fun r => r.1))) (Value.bool (decide (k ∈ rows.map fun r => r.1))) from rfl)
  · cases rx
    obtain ⟨o, es, ep, ho, hc, hd, he, his, hn⟩ := id D
    show wpAny _ _ (do return Value.bool (← contains (.ref a) .none)) _ _ s
    refine wpAny_bind ?_
    refine wpAny_contains_slot D.typeIs F.slot_dict_contains ?_
    refine wpAny_call_entry F.slot_dict_contains D.typeIs F.entry_dict_contains ?_ (F.args_dict_contains_2 _ _)
    show wpAny _ _ (dictGet a .none >>= _) _ _ _
    unfold dictGet
    refine wpAny_bind ?_
    try with_reducible refine wpAny_holding ?_
    refine wpAny_bind (pyHash_key .none _ _ s _ .none (by show X.A.units + 1 + 0 < cLine; omega) (wpAny_bind (find_none (s := { s with toks := s.toks + NestedKey.none.draws }) (rows := rows) (show X.A.units + 1 + 8 < cLine by omega) ho hd (by rw [he, List.map_map]; rfl) (fun r hm => ⟨nestedOf _ _ _ (readsRow I (hr.2 r hm).1), (hr.2 r hm).2, keyTup (hr.2 r hm).1⟩) ?_)))
    refine wpAny_pure ?_
    show wpAny _ _ (Builtin.Dict.pendingKey? a .none >>= _) _ _ _
    exact wpAny_bind (wpAny_pendingKey_other hs (wpAny_pure ⟨_, rfl, wpAny_truthy_bool (wpAny_pure ⟨.bl false, H, I.tok _, rfl, q⟩)⟩))
end
end K54
set_option Elab.async false
set_option linter.all false
set_option autoImplicit false
set_option maxRecDepth 100000
set_option maxHeartbeats 4000000
/-! K54: dicts keyed by nested tuples, 3: walked; by a comprehension -/
namespace K54
open PySem PySem.Spec PyProof.Rows L2
/-- the keys of the locked dict at d -/
def ItN (P : Program) (w : World) (d : Addr) (o : Obj) (rows : List Rw) : It where
  go i H := H d = some (.frz o (NDO P w d rows)) ∧ i < rows.length
  yld i H x H' := H' = H ∧ ∃ r, rows[i]? = some r ∧ x = .ref r.2
  stop i H := H d = some (.frz o (NDO P w d rows)) ∧ rows.length ≤ i
section
variable {P : Program} {w : World} {K : PySem.W.Frag} {tg : Expr} {d : Addr} {o : Obj} {es : Array DictEntry} {ep : Nat} {rows : List Rw}
theorem frzN {X : Cx} {pins : List (Addr × Obj)} {σ : L2.St} {H : Hp} {s : Shared} (I : Inv X pins σ H s) (h : H d = some (.frz o (NDO X.prog X.w d rows))) :
    (d == sysModules) = false ∧ s.heap.get? d = some o ∧ o.ExactDict ∧ ∃ es ep, o.data = .dict es ep ∧ es.size = rows.length ∧ ∀ (i : Nat) (r : Rw), rows[i]? = some r → ∃ en, es[i]? = some en ∧ en.key = .ref r.2 := by
  obtain ⟨hd, ⟨hs, o', es, ep, ho, hx, hdt, he⟩, _⟩ := (show s.heap.get? d = some o ∧ ObjOk X.prog X.w H s.heap d (NDO X.prog X.w d rows) from I.hok d _ h)
  rw [hd] at ho
  cases ho
  have sz : es.size = rows.length := by
    have z := congrArg List.length he
    rwa [Array.length_toList, List.length_map] at z
  refine ⟨hs, hd, hx, es, ep, hdt, sz, fun i r e => ?_⟩
  have q : es.toList[i]? = some (entryOfKey (nestedKind X.prog X.w) (r.1, r.2, Value.bool true)) := by rw [he, List.getElem?_map, e]; rfl
  exact ⟨_, by rw [← Array.getElem?_toList]; exact q, rfl⟩
theorem turnN (it : Addr) (hod : o.data = .dict es ep) : Turn P w K tg (ItN P w d o rows) [it] it (fun i h => h.IsKeyIter it d i rows.length ep) where
  mem := List.mem_singleton.mpr rfl
  obj := fun i h st b hb => by
    rw [List.mem_singleton.mp hb]
    obtain ⟨ob, e, c, dd⟩ := st
    exact ⟨ob, e, fun v z => by rw [dd] at z; cases z⟩
  keep := fun i h h' st k => st.at fun ob e => k it (List.mem_singleton.mpr rfl) ob e
  item := by
    intro X hP hw hK hc i pins s σ H E I hf st hg
    subst hP hw hK
    obtain ⟨f0, f1, f2, f3, f4, f5⟩ := hf it (List.mem_singleton.mpr rfl)
    obtain ⟨hs, hd, hx, es', ep', hdt, sz, ent⟩ := frzN I hg.1
    obtain ⟨rfl, rfl⟩ := dict_ep hod hdt
    have lt : i < rows.length := hg.2
    obtain ⟨r, hr⟩ : ∃ r, rows[i]? = some r := ⟨rows[i], List.getElem?_eq_getElem lt⟩
    obtain ⟨en, hen, hkey⟩ := ent i r hr
    refine next_key_item st hd hdt sz hen fun h' st' sb => ?_
    have J : Inv X pins σ H { s with heap := h' } := I.turned (t' := s.toks) (fun b ob hb e => (sb.2 b hb).trans e) f0 f1 f3 f4 f5
    obtain ⟨ob, e, c, dd⟩ := id st'
    exact ⟨en.key, rfl, go_of (s := { s with heap := h' }) e c dd (by decide) ⟨.ref r.2, H, J, hkey, ⟨rfl, r, hr, rfl⟩, st', fun b hb => (hf b hb).1⟩⟩
  done := by
    intro X hP hw hK hc i pins s σ H E I hf st hg
    subst hP hw hK
    obtain ⟨f0, f1, f2, f3, f4, f5⟩ := hf it (List.mem_singleton.mpr rfl)
    obtain ⟨hs, hd, hx, es', ep', hdt, sz, ent⟩ := frzN I hg.1
    obtain ⟨rfl, rfl⟩ := dict_ep hod hdt
    exact next_key_end (I.ok.hd hc) st hd hdt sz hg.2 fun h' eb => ⟨rfl, I.turned (t' := s.toks) (fun b ob hb e => eb b ob hb e) f0 f1 f3 f4 f5⟩
  self := fun A i s Q E st h => by
    refine wpAny_pyIter_slot st.typeIs F.slot_dict_keyiterator_iter (wpAny_call_entry F.slot_dict_keyiterator_iter st.typeIs F.entry_dict_keyiterator_iter ?_ (F.args_dict_keyiterator_iter_1 _))
    show wpAny _ _ (ret (.ref it)) _ _ s
    exact wpAny_pure ⟨_, rfl, "dict_keyiterator", _, st.typeIs, F.slot_dict_keyiterator_next.lookup, h⟩
end
/-- the dict is locked -/
def iND (P : Program) (w : World) (td : TE) : TI := fun σ H R => td σ H fun x H1 => ∃ d o rows, x = .ref d ∧ H1 d = some (.frz o (NDO P w d rows)) ∧ R (ItN P w d o rows) H1
section
variable {X : Cx} {tg e : Expr} {td : TE}
theorem pi_nd (he : PE X e td) : PI X tg e (iND X.prog X.w td) := by
  refine ⟨fun pins s σ H R I h => ?_⟩
  refine thn (he.run pins s σ H _ I h) fun u s1 ⟨x, H1, J, rx, d, o, rows, ex, hd, q⟩ => ?_
  subst ex
  obtain rfl : u = Value.ref d := rx
  obtain ⟨hs, hg, hx, es, ep, hdt, sz, ent⟩ := frzN J hd
  refine iter_keys hs hg hx hdt (pi_one (tk := s1.toks) J _ (turnN _ hdt) ⟨_, Heap.get?_push_size _ rfl, rfl, ?_⟩ q)
  rw [sz]; rfl
/-- a store of a comprehension -/
theorem nd_store {pins : List (Addr × Obj)} {σ : L2.St} {H : Hp} {s : Shared} {E : Value → Shared → Prop} {a b : Addr} {rows : List Rw} {k : NestedKey} {u r : Value} {Q : Unit → Shared → Prop} (hu : X.A.units + 12 < cLine) (I : Inv X pins σ H s) (ha : H a = some (NDO X.prog X.w a rows)) (hr : NRows X.K H rows) (hk : TD X.K H (.ref b) k.data) (hd : k.depth ≤ 8) (few : rows.length ≤ 1000)
    (ru : RelV (.ref b) u) (rr : RelV (.bl true) r) (h : ∀ s', Inv X pins σ (upd H a (NDO X.prog X.w a (addRow rows (k, b)))) s' → Q () s') : wpAny (model X.prog X.w) X.A (dictSet a u r) Q E s := by
  cases ru
  cases rr
  obtain ⟨hs, D⟩ := nrows_full I ha hr
  refine wpAny_dictSet_heap (knd := nestedKind X.prog X.w) (show X.A.units + 8 < cLine by omega) ⟨nestedOf _ _ _ (readsRow (r := (k, b)) I hk), hd⟩ D (fun h' D' sb => ?_) (by rw [List.length_map, sizeLine_eq]; omega)
  rw [put_rows] at D'
  have he : ∃ u, h'.get? a = some u := let ⟨o, _, _, ho, _⟩ := D'; ⟨o, ho⟩
  exact h _ (I.write (e := a) (t' := s.toks + (nestedKind X.prog X.w).draws k) (by rw [ha]; trivial) (.inl rfl) (fun c u hc hu' => (sb.2 c hc).trans hu') he (ndo_ok hs D'))
/-- {k: v for target in iter if ..}: D the new dict -/
def tNDc (P : Program) (w : World) (K : PySem.W.Frag) (wi : TI) (g : TG) (tt : TT) (tk tv : TE) (vs : List Nat) : TE := fun σ H Q => wi σ H fun J H1 => ∀ D, H1 D = none → ∃ W : Nat → Nat → Hp → Prop, (∃ m, W 0 m (upd H1 D (NDO P w D []))) ∧ ∀ i m H, W i m H →
  (J.stop i H ∧ Q (.ref D) H) ∨ (J.go i H ∧ ∃ Nx : Hp → Prop, (∀ H', Nx H' → ∃ m', m' < m ∧ W (i + 1) m' H') ∧ ∀ x H', J.yld i H x H' → g x (wipe σ vs) H' fun σ2 H2 => wipe σ2 vs = wipe σ vs ∧ tt σ2 H2 fun b H3 =>
    if b = true then tk σ2 H3 fun y H4 => tv σ2 H4 fun z H5 => ∃ rows k b, y = .ref b ∧ z = .bl true ∧ H5 D = some (NDO P w D rows) ∧ NRows K H5 rows ∧ TD K H5 (.ref b) k.data ∧ k.depth ≤ 8 ∧ rows.length ≤ 1000 ∧ Nx (upd H5 D (NDO P w D (addRow rows (k, b)))) else Nx H3)
theorem pe_ndc {kx vx tg iter : Expr} {ifs : List Expr} {scope : Scope} {own : List (Str × Nat)} {pos : Pos} {wi : TI} {g : TG} {tt : TT} {tk tv : TE} (hc : X.calm = true) (hN : X.N.Nodup) (hu : X.A.units + 12 < cLine) (hi : PI X tg iter wi) (ok : BlkOk X.N X.env.scope scope own)
    (hg : ∀ (s : Shared) (H : Hp) (C : Addr) (cl : List (Str × Addr)) (fp : List Addr), PG (X.blk s H scope (compEnvC scope cl C X.env) fp) tg g) (ht : ∀ (s : Shared) (H : Hp) (C : Addr) (cl : List (Str × Addr)) (fp : List Addr), PTs (X.blk s H scope (compEnvC scope cl C X.env) fp) ifs tt)
    (hk : ∀ (s : Shared) (H : Hp) (C : Addr) (cl : List (Str × Addr)) (fp : List Addr), PE (X.blk s H scope (compEnvC scope cl C X.env) fp) kx tk)
    (hv : ∀ (s : Shared) (H : Hp) (C : Addr) (cl : List (Str × Addr)) (fp : List Addr), PE (X.blk s H scope (compEnvC scope cl C X.env) fp) vx tv) (hs : ∀ x, foldedSetIterable iter X.env x = pure x := by intro _; rfl) :
    PE X (.DictComp kx vx [⟨tg, iter, ifs, 0⟩] scope pos) (tNDc X.prog X.w X.K wi g tt tk tv (own.map (·.2))) := by
  refine ⟨fun pins s σ H Q I h => ?_⟩
  rw [arm_eval_DictComp]
  have fr : ∀ y ∈ scope.names, y.2 = .free → ∃ c, X.env.cells.lookup y.1 = some c := fun y hy e => (ok.free y hy e).elim (fun k => I.ok.has _ (.inl k)) fun k => I.ok.has _ (.inr k)
  refine wpAny_comprehension_free (use := none) rfl hs (closure_ok fr) ok.kind (fun y hy e => by rw [ok.uniq y hy, e]) (thn (hi.run pins s σ H _ I h) fun xv s1 hx => thn hx fun itv s2 h2 => ?_)
  obtain ⟨it, fp, tn, J, H2, e, I2, T, st2, f2, q⟩ := h2
  subst e
  refine wpAny_newObj_type (newEnv_comp ?_)
  generalize eD : s2.heap.objs.size = D
  have nD : H2 D = none := I2.hok.fresh (Nat.le_of_eq eD)
  obtain ⟨W, ⟨m0, w0⟩, turn⟩ := q D nD
  generalize es3 : ({ s2 with heap := s2.heap.push { cls := .type "dict", data := .dict #[] } } : Shared) = s3
  have I3 : Inv X pins σ (upd H2 D (NDO X.prog X.w D [])) s3 := by
    rw [← es3]
    refine I2.laid (t' := s2.toks) (fun b o z => Heap.get?_push_of_some _ z) (Nat.le_of_eq eD) ?_
    rw [← eD]
    exact ndo_ok (beq_eq_false_iff_ne.mpr (Ne.symm (Nat.ne_of_lt I2.big))) (Heap.DictOfH.new s2.heap)
  have hp3 : s3.heap = s2.heap.push { cls := .type "dict", data := .dict #[] } := by rw [← es3]
  have low : ∀ b ∈ fp, b < s2.heap.objs.size := fun b hb => let ⟨_, z, _⟩ := T.obj _ _ st2 b hb; Heap.lt_size z
  have f3 : ∀ b ∈ fp, FpOk X pins (upd H2 D (NDO X.prog X.w D [])) b ∧ b < s3.heap.objs.size := fun b hb => by
    have lt := low b hb
    refine ⟨⟨?_, (f2 b hb).2⟩, by rw [hp3, Heap.size_push]; exact Nat.lt_succ_of_lt lt⟩
    rw [upd_ne (by rw [← eD]; exact Nat.ne_of_lt lt)]
    exact (f2 b hb).1
  have st3 : tn 0 s3.heap := T.keep _ _ _ st2 fun b _ o z => by rw [hp3]; exact Heap.get?_push_of_some _ z
  have I4 := block_start I3 ok hN f3
  have pg := hg s3 (upd H2 D (NDO X.prog X.w D [])) s3.heap.objs.size (cellsFrom (s3.heap.objs.size + 1) scope.names (cloFrom X.env.cells scope.names [])) fp
  have pt := ht s3 (upd H2 D (NDO X.prog X.w D [])) s3.heap.objs.size (cellsFrom (s3.heap.objs.size + 1) scope.names (cloFrom X.env.cells scope.names [])) fp
  have pk := hk s3 (upd H2 D (NDO X.prog X.w D [])) s3.heap.objs.size (cellsFrom (s3.heap.objs.size + 1) scope.names (cloFrom X.env.cells scope.names [])) fp
  have pv := hv s3 (upd H2 D (NDO X.prog X.w D [])) s3.heap.objs.size (cellsFrom (s3.heap.objs.size + 1) scope.names (cloFrom X.env.cells scope.names [])) fp
  show codeAny _ _ (.compStart (.DictComp kx vx [⟨tg, iter, ifs, 0⟩] scope pos) 0 (.ref it) (.ref D) (compEnvC scope (cellsFrom (s3.heap.objs.size + 1) scope.names (cloFrom X.env.cells scope.names [])) s3.heap.objs.size X.env)) (compPost (model X.prog X.w) X.A X.xe none (EP X pins σ Q) (.ref D) s3.heap.objs.size) { s3 with heap := pushCells (s3.heap.push { cls := .type "dict", data := .dict #[] }) scope.names }
  have nfp : ∀ b ∈ fp, (upd H2 D (NDO X.prog X.w D [])) b = none := fun b hb => (f3 b hb).1.1
  generalize ec : compEnvC scope (cellsFrom (s3.heap.objs.size + 1) scope.names (cloFrom X.env.cells scope.names [])) s3.heap.objs.size X.env = ce at I4 pg pt pk pv ⊢
  have cL : ce.locals = s3.heap.objs.size := by subst ec; rfl
  generalize eH3 : upd H2 D (NDO X.prog X.w D []) = H3 at I3 I4 pg pt pk pv w0 nfp f3
  generalize es4 : ({ s3 with heap := pushCells (s3.heap.push { cls := .type "dict", data := .dict #[] }) scope.names } : Shared) = s4 at I4 ⊢
  have st4 : tn 0 s4.heap := T.keep _ _ _ st3 fun b _ o z => by rw [← es4]; exact pushCells_keeps _ _ _ _ (Heap.get?_push_of_some _ z)
  have stat : ∀ {σ' : L2.St} {H' : Hp} {s' : Shared}, Inv (X.blk s3 H3 scope ce fp) [] σ' H' s' → (∀ b ∈ fp, H' b = none) → ∀ b ∈ fp, FpOk (X.blk s3 H3 scope ce fp) [] H' b := fun {σ' H' s'} I' hn b hb =>
    ⟨hn b hb, (I'.ok.exf b hb).1, I'.ok.exfs b hb, .inl hb, fun x c e => (I'.ok.exf b hb).2 x c e, fun p hp => absurd (show p ∈ ([] : List (Addr × Obj)) ++ [] from hp) (by simp)⟩
  have loop : codeAny (model X.prog X.w) X.A (.compLoop (.DictComp kx vx [⟨tg, iter, ifs, 0⟩] scope pos) 0 (.ref it) (.ref D) ce) (compPost (model X.prog X.w) X.A X.xe none (EP X pins σ Q) (.ref D) s3.heap.objs.size) s4 := by
    refine compLoop_anyD (fun n s' => ∃ i H', Inv (X.blk s3 H3 scope ce fp) [] (wipe σ (own.map (·.2))) H' s' ∧ tn i s'.heap ∧ (∀ b ∈ fp, H' b = none) ∧ W i n H') ?_ m0 ⟨0, H3, I4, st4, nfp, w0⟩
    rintro n s5 ⟨i, H5, I5, st5, n5, w5⟩
    rcases turn i n H5 w5 with ⟨stop, qq⟩ | ⟨go, Nx, hNx, step⟩
    · refine thnF (T.done (X.blk s3 H3 scope ce fp) rfl rfl rfl hc i [] s5 _ H5 (fun _ _ => False) I5 (stat I5 n5) st5 stop) fun r s6 ⟨hr, I6⟩ => ?_
      subst hr
      have I7 : Inv X pins σ H5 s6 := I3.call' (ch := fp) I6.os I6.base I6.hok I6.bare fun b hb => ⟨(f3 b hb).1.2.2.2.1, (f3 b hb).1.2.1, (f3 b hb).1.2.2.2.2.1, (f3 b hb).1.2.2.2.2.2⟩
      have nC : H5 s3.heap.objs.size = none := by
        have z : H5 ce.locals = none := I6.free
        rwa [cL] at z
      obtain ⟨m, hn, _⟩ := I6.loc
      have hn : s6.heap.Ns ce.locals m := hn
      rw [cL] at hn
      refine ⟨m, hn, fun h'' sb => ?_⟩
      obtain ⟨f0, f1, f2', f3', f4, f5⟩ := I3.fpOk (Nat.le_refl _) nC
      exact ⟨.ref D, H5, I7.turned (t' := s6.toks) (fun b o hb z => (sb.2 b hb).trans z) f0 f1 f3' f4 f5, rfl, qq⟩
    · refine thnF (T.item (X.blk s3 H3 scope ce fp) rfl rfl rfl hc i [] s5 _ H5 (fun _ _ => False) I5 (stat I5 n5) st5 go) fun r s6 ⟨u, hr, h6⟩ => ?_
      subst hr
      refine thnF h6 fun _ s7 ⟨x, H7, I7, r7, y7, st7, n7⟩ => ?_
      have I7' := I7.pinned (stat I7 n7) (T.obj _ _ st7)
      refine thnF (pg.run _ s7 _ H7 x u _ I7' r7 (step x H7 y7)) fun _ s8 ⟨σ8, H8, I8, hw8, q8⟩ => ?_
      refine thnF (pt.run _ s8 σ8 H8 _ I8 q8) fun b s9 ⟨H9, I9, q9⟩ => ?_
      have fin : ∀ {s' : Shared} {H' : Hp}, Inv (X.blk s3 H3 scope ce fp) ([] ++ pinsAt fp s7.heap) σ8 H' s' → Nx H' → ∃ m, m < n ∧ ∃ i H', Inv (X.blk s3 H3 scope ce fp) [] (wipe σ (own.map (·.2))) H' s' ∧ tn i s'.heap ∧ (∀ b ∈ fp, H' b = none) ∧ W i m H' := fun {s' H'} I' nx => by
        obtain ⟨m', hm, w'⟩ := hNx H' nx
        have pin' : ∀ b ∈ fp, ∀ o, s7.heap.get? b = some o → s'.heap.get? b = some o ∧ H' b = none := fun b hb o e => ⟨(I'.pin (b, o) (List.mem_append_right _ (List.mem_append_right _ (mem_pinsAt hb e)))).1, (I'.pin (b, o) (List.mem_append_right _ (List.mem_append_right _ (mem_pinsAt hb e)))).2.1⟩
        have hl : (wipe σ (own.map (·.2))).length = σ8.length := by rw [← hw8, wipe_length]
        refine ⟨m', hm, i + 1, H', (I'.unpinned (pins := [])).weak hl (fun j v z => ?_), T.keep _ _ _ st7 fun b hb o z => (pin' b hb o z).1, fun b hb => ?_, w'⟩
        · rw [← hw8] at z
          exact (wipe_some z).1
        · obtain ⟨o, z, _⟩ := T.obj _ _ st7 b hb
          exact (pin' b hb o z).2
      cases b with
      | false =>
        simp only [Bool.false_eq_true, if_false] at q9 ⊢
        exact fin I9 q9
      | true =>
        simp only [if_true] at q9 ⊢
        refine thnF (pk.run _ s9 σ8 H9 _ I9 q9) fun z s10 ⟨yk, H10, I10, r10, q10⟩ => ?_
        refine thnF (pv.run _ s10 σ8 H10 _ I10 q10) fun z2 s11 ⟨yv, H11, I11, r11, rows, k, bb, ek, ev, hD11, hr11, hk11, hd11, few11, nx⟩ => ?_
        subst ek ev
        exact nd_store (X := X.blk s3 H3 scope ce fp) hu I11 hD11 hr11 hk11 hd11 few11 r10 r11 fun s12 I12 => fin I12 nx
  exact codeAny_compStart_dict loop (T.self X.A 0 _ _ _ st4 loop)
end
end K54
set_option Elab.async false
set_option linter.all false
set_option autoImplicit false
set_option maxRecDepth 100000
set_option maxHeartbeats 2000000
/-! K54, the data layer, 12: owned dicts -/
namespace K54
open PySem PySem.Spec PyProof.Rows L2
/-- a new dict -/
def tDct (P : Program) (w : World) (K : PySem.W.Frag) (Γ : List Cell) (ks : List NestedKey) : TE := fun σ H Q => ∃ H0, EnvOk P w K H0 H σ Γ ∧ ∀ a rows H', H a = none → Same H H' → H' a = some (NDO P w a rows) → NRows K H' rows → rows.map (·.1) = ks → Q (.ref a) H'
abbrev DD (X : Cx) (Γ : List Cell) (e : Expr) (ks : List NestedKey) : Prop := PE X e (tDct X.prog X.w X.K Γ ks)
def keyOf {α : Type} [DecidableEq α] (k : Kd α) (cs : List α) : List NestedKey := cs.map k.kof
/-- x is among them -/
def memK {α : Type} [DecidableEq α] (x : α) (cs : List α) : Bool := decide (x ∈ cs)
theorem memK_iff {α : Type} [DecidableEq α] {x : α} {cs : List α} : memK x cs = true ↔ x ∈ cs := decide_eq_true_iff
/-- x joins -/
def addK {α : Type} [DecidableEq α] (cs : List α) (x : α) : List α := if x ∈ cs then cs else cs ++ [x]
theorem TD.refOf {K : PySem.W.Frag} {H : Hp} {v : V} {ds : List PyData} (h : TD K H v (.tuple ds)) : ∃ a, v = .ref a := by cases h; exact ⟨_, rfl⟩
theorem rows_ex {K : PySem.W.Frag} {H H' : Hp} {rows : List Rw} (e : TupEx H H') (h : NRows K H rows) : NRows K H' rows := ⟨h.1, fun r hr => ⟨(h.2 r hr).1.at e, (h.2 r hr).2⟩⟩
theorem addRow_keys {α : Type} [DecidableEq α] (k : Kd α) {rows : List Rw} {cs : List α} {x : α} {b : Addr} (h : rows.map (·.1) = cs.map k.kof) : (addRow rows (k.kof x, b)).map (·.1) = (addK cs x).map k.kof := by
  unfold addRow addK
  rw [h]
  have z : (k.kof x ∈ cs.map k.kof) ↔ x ∈ cs := mapKof k
  by_cases hx : x ∈ cs
  · rw [if_pos (z.mpr hx), if_pos hx, h]
  · rw [if_neg (fun q => hx (z.mp q)), if_neg hx, List.map_append, h, List.map_append]; rfl
theorem addRow_ok {K : PySem.W.Frag} {H : Hp} {rows : List Rw} {k : NestedKey} {b : Addr} (h : NRows K H rows) (hk : TD K H (.ref b) k.data) (hd : k.depth ≤ 8) : NRows K H (addRow rows (k, b)) := ⟨addRow_nd h.1, fun r hr => by
  rcases addRow_mem hr with z | z
  · exact h.2 r z
  · rw [z]; exact ⟨hk, hd⟩⟩
section
variable {X : Cx} {Γ : List Cell} {a b e key : Expr} {d x y : PyData} {ks : List NestedKey} {p pos : Pos} {α : Type} [DecidableEq α]
theorem dd_new : DD X Γ (.Dict [] [] pos) [] := PE.wk pe_nd0 fun σ H Q ⟨H0, ok, q⟩ => fun p hp => q p [] _ hp (sameNew hp) upd_same ⟨List.nodup_nil, fun _ h => nomatch h⟩ rfl
theorem EnvOk.dct {P : Program} {w : World} {K : PySem.W.Frag} {H0 H : Hp} {σ : L2.St} {Γ : List Cell} (ok : EnvOk P w K H0 H σ Γ) {i : Nat} {ks : List NestedKey} (h : Γ[i]? = some (.own (.dct ks))) : ∃ a rows, σ[i]? = some (some (.ref a)) ∧ H0 a = none ∧ H a = some (NDO P w a rows) ∧ NRows K H rows ∧ rows.map (·.1) = ks := by
  obtain ⟨a, e, n, rows, h1, h2, h3, h4⟩ := ok.own h
  exact ⟨a, rows, e, n, h1, ⟨by rw [h2]; exact h3, h4⟩, h2⟩
theorem de_lenD (i : Nat) {n : Str} {pn : Pos} (few : ks.length ≤ 1000) (hm : X.mg "len" = none) (hc : Γ[i]? = some (.own (.dct ks)) := by rfl) (hN : X.N[i]? = some n := by rfl) (hv : Vis X.env.scope n := by first | exact Or.inl rfl | exact Or.inr (Or.inl rfl) | exact Or.inr (Or.inr rfl)) (hd : (n == ("__debug__" : Str)) = false := by decide) (hcd : (n == ("__classdict__" : Str)) = false := by decide)
    (hg : Gl X "len" := by rfl) (hs : starEach [.Name n pn] X.env = (false, eval (.Name n pn) X.env) :: starEach [] X.env := by rfl) (hpl : (backTo pos (starEach [] X.env)).any (·.1) = false := by rfl) : DE X Γ (.Call (.Name "len" p) [.Name n pn] [] pos) (.int (ks.length : Nat)) :=
  PE.wk (pe_callB cr_lenND hg hm (by decide +kernel) (pa_cons (pe_var hN hv hd hcd) pa_nil hs) (by decide) (by decide) hs hpl) fun σ H Q ⟨H0, ok, q⟩ => by
    obtain ⟨a, rows, e, n, h1, h2, h3⟩ := ok.dct hc
    have hl : rows.length = ks.length := by rw [← h3, List.length_map]
    refine ⟨.ref a, e, a, rows, rfl, h1, h2, by rw [hl]; exact few, ?_⟩
    rw [hl]
    exact q _ H (Same.refl H) (.int _)
/-- key in the dict -/
theorem de_inDk (k : Kd α) (i : Nat) {cs : List α} {z : α} {n : Str} {pn : Pos} (ha : DE X Γ a (k.enc z)) (ht : ∃ ds, k.enc z = .tuple ds) (hd8 : k.dep ≤ 8) (hu : X.A.units + 20 < cLine) (hc : Γ[i]? = some (.own (.dct (cs.map k.kof))) := by rfl) (hN : X.N[i]? = some n := by rfl) (hv : Vis X.env.scope n := by first | exact Or.inl rfl | exact Or.inr (Or.inl rfl) | exact Or.inr (Or.inr rfl)) (hd : (n == ("__debug__" : Str)) = false := by decide) (hcd : (n == ("__classdict__" : Str)) = false := by decide)
    (hm : behindInMarks .In (.Name n pn) = false := by first | exact nomark _ | rfl) : DE X Γ (.Compare a [.In] [.Name n pn] pos) (.bool (memK z cs)) :=
  PE.wk (pe_cmpR (op_inND hu) ha (pe_var hN hv hd hcd) hm) fun σ H Q ⟨H0, ok, q⟩ => ⟨H0, ok, fun v H1 e1 r1 => by
    obtain ⟨d, rows, e, n, h1, h2, h3⟩ := (ok.mono e1).dct hc
    obtain ⟨ds, hds⟩ := ht
    have r1' := r1
    rw [hds] at r1'
    obtain ⟨b, rfl⟩ := r1'.refOf
    refine ⟨.ref d, e, d, rows, rfl, h1, h2, .inl ⟨b, k.kof z, rfl, by rw [k.data]; exact r1, Nat.le_trans (k.deep z) hd8, ?_⟩⟩
    have z2 : decide (k.kof z ∈ rows.map fun r => r.1) = memK z cs := by
      rw [h3]
      exact decide_eq_decide.mpr (mapKof k)
    rw [z2]
    exact q _ H1 e1 (.bl _)⟩
/-- what may be None, in the dict -/
def optEnc (k : Kd α) : Option α → PyData
  | none => .none
  | some x => k.enc x
def inO {α : Type} [DecidableEq α] (cs : List α) : Option α → Bool
  | none => false
  | some x => memK x cs
theorem de_inDo (k : Kd α) (i : Nat) {cs : List α} {z : Option α} {n : Str} {pn : Pos} (ha : DE X Γ a (optEnc k z)) (ht : ∀ x, ∃ ds, k.enc x = .tuple ds) (hd8 : k.dep ≤ 8) (hu : X.A.units + 20 < cLine) (hc : Γ[i]? = some (.own (.dct (cs.map k.kof))) := by rfl) (hN : X.N[i]? = some n := by rfl) (hv : Vis X.env.scope n := by first | exact Or.inl rfl | exact Or.inr (Or.inl rfl) | exact Or.inr (Or.inr rfl)) (hd : (n == ("__debug__" : Str)) = false := by decide) (hcd : (n == ("__classdict__" : Str)) = false := by decide)
    (hm : behindInMarks .In (.Name n pn) = false := by first | exact nomark _ | rfl) : DE X Γ (.Compare a [.In] [.Name n pn] pos) (.bool (inO cs z)) := by
  cases z with
  | some x => exact de_inDk k i ha (ht x) hd8 hu hc hN hv hd hcd hm
  | none =>
    exact PE.wk (pe_cmpR (op_inND hu) ha (pe_var hN hv hd hcd) hm) fun σ H Q ⟨H0, ok, q⟩ => ⟨H0, ok, fun v H1 e1 r1 => by
      obtain ⟨d, rows, e, n, h1, h2, h3⟩ := (ok.mono e1).dct hc
      have r1' : TD X.K H1 v .none := r1
      cases r1'
      exact ⟨.ref d, e, d, rows, rfl, h1, h2, .inr ⟨rfl, q _ H1 e1 (.bl _)⟩⟩⟩
theorem dctOk {P : Program} {w : World} {K : PySem.W.Frag} {H : Hp} {a : Addr} {rows : List Rw} (h : H a = some (NDO P w a rows)) (hr : NRows K H rows) (e : rows.map (·.1) = ks) : OwnOk P w K H a (.dct ks) := ⟨rows, h, e, by rw [← e]; exact hr.1, hr.2⟩
theorem ds_setD (i : Nat) {n : Str} {pn : Pos} (h : DD X Γ e ks) (hi : X.N[i]? = some n := by rfl) (hN : X.N.Nodup := by assumption) (hx : Loc X.env.scope n := by first | exact .inl rfl | exact .inr rfl) (hs : swapsWith e (some (.Name n pn)) pos.line X.env = pure false := by rfl) (hf : X.fn n = true ∨ X.env.scope.names.lookup n = some .local := by first | exact .inl rfl | exact .inr rfl) :
    DS X Γ (.Assign [.Name n pn] e pos) (.nx (Γ.set i (.own (.dct ks)))) :=
  PS.wk (ps_set hN hi hx h hs hf) fun D σ H ⟨H0, ok, q⟩ => ⟨H0, ok, fun a rows H1 n1 e1 h1 h2 h3 => q H0 _ H1 (Same.refl H0) (ok.putO e1 n1 (dctOk h1 h2 h3))⟩
/-- value, new dict -/
theorem ds_parOD (i j : Nat) {n m : Str} {pn pm pt pt2 : Pos} {kt k2 : Nat} (ha : DE X Γ a x) (hb : DD X Γ b ks) (hij : i ≠ j := by decide) (hi : X.N[i]? = some n := by rfl) (hj : X.N[j]? = some m := by rfl) (hN : X.N.Nodup := by assumption) (hn : X.env.scope.names.lookup n = some .local := by rfl) (hm : X.env.scope.names.lookup m = some .local := by rfl)
    (hw : swappedStores [.Tuple [.Name n pn, .Name m pm] kt pt] (.Tuple [a, b] k2 pt2) X.env = pure (some [n, m]) := by rfl) (hs : swapsWithSole [.Tuple [.Name n pn, .Name m pm] kt pt] (.Tuple [a, b] k2 pt2) pos.line X.env = pure false := by rfl) (hc : X.calm = true := by rfl)
    (hs1 : starEach [a, b] X.env = (false, eval a X.env) :: starEach [b] X.env := by rfl) (hs2 : starEach [b] X.env = (false, eval b X.env) :: starEach [] X.env := by rfl) :
    DS X Γ (.Assign [.Tuple [.Name n pn, .Name m pm] kt pt] (.Tuple [a, b] k2 pt2) pos) (.nx ((Γ.set i (.dat x)).set j (.own (.dct ks)))) :=
  PS.wk (ps_par hc hN hi hj hij hn hm (pa_cons ha (pa_cons hb pa_nil hs2) hs1) hw hs) fun D σ H ⟨H0, ok, q⟩ => ⟨H0, ok, fun u H1 e1 r1 => ⟨H0, ok.mono e1, fun b rows H2 n2 e2 h2 r2 r3 =>
    ⟨u, .ref b, rfl, q H0 _ H2 (Same.refl H0) (((ok.mono e1).putD r1).putO e2 n2 (dctOk h2 r2 r3))⟩⟩⟩
/-- d[key] = True -/
theorem ds_store (k : Kd α) (i : Nat) {cs : List α} {z : α} {n : Str} {pn sp : Pos} {jj : Nat} {pc : Pos} (hk : DE X Γ key (k.enc z)) (ht : ∃ ds, k.enc z = .tuple ds) (hd8 : k.dep ≤ 8) (few : cs.length ≤ 1000) (hu : X.A.units + 20 < cLine) (hc : Γ[i]? = some (.own (.dct (cs.map k.kof))) := by rfl) (hN : X.N[i]? = some n := by rfl) (hv : Vis X.env.scope n := by first | exact Or.inl rfl | exact Or.inr (Or.inl rfl) | exact Or.inr (Or.inr rfl)) (hd : (n == ("__debug__" : Str)) = false := by decide) (hcd : (n == ("__classdict__" : Str)) = false := by decide)
    (has : ∀ v, assign (.Subscript (.Name n pn) key sp) X.env v = (do
      let ov ← holding [v] (eval (.Name n pn) X.env)
      let iv ← holding [v, ov] (eval key X.env)
      standAt sp
      holding [v, ov, iv] (setItem ov iv v)
      release [v, ov, iv] []) := by intro _; rfl)
    (hs : swapsWithSole [.Subscript (.Name n pn) key sp] (.Constant (.bool true) jj pc) pos.line X.env = pure false := by rfl) (hw : swappedStores [.Subscript (.Name n pn) key sp] (.Constant (.bool true) jj pc) X.env = pure none := by rfl) (h1 : (assignEach [.Subscript (.Name n pn) key sp] X.env).map (·.2) = [assign (.Subscript (.Name n pn) key sp) X.env] := by rfl) :
    DS X Γ (.Assign [.Subscript (.Name n pn) key sp] (.Constant (.bool true) jj pc) pos) (.nx (Γ.set i (.own (.dct ((addK cs z).map k.kof))))) :=
  PS.wk (ps_asg (de_bl (i := true)) (pg_sub (pe_var hN hv hd hcd) hk (set_nd (by omega)) has) hs hw h1) fun D σ H ⟨H0, ok, q⟩ => ⟨H0, ok, fun v H1 e1 r1 => by
    obtain ⟨d, rows, e, nn, h1', h2, h3⟩ := (ok.mono e1).dct hc
    cases r1
    refine ⟨.ref d, e, H0, ok.mono e1, fun u H2 e2 r2 => ?_⟩
    have ok2 := (ok.mono e1).mono e2
    obtain ⟨ds, hds⟩ := ht
    have r2' := r2
    rw [hds] at r2'
    obtain ⟨b, rfl⟩ := r2'.refOf
    have nr := rows_ex (.of e2) h2
    have hkd : TD X.K H2 (.ref b) (k.kof z).data := by rw [k.data]; exact r2
    have h8 := Nat.le_trans (k.deep z) hd8
    have hlen : rows.length = cs.length := by
      have q := congrArg List.length h3
      rwa [List.length_map, List.length_map] at q
    refine ⟨d, b, rows, k.kof z, rfl, rfl, rfl, e2 _ _ h1', nr, hkd, h8, by rw [hlen]; exact few, ?_⟩
    have t : TupEx H2 (upd H2 d (NDO X.prog X.w d (addRow rows (k.kof z, b)))) := TupEx.write (extNoTup (e2 _ _ h1'))
    exact q H0 σ _ (Same.refl H0) (ok2.write ⟨e, _, hc⟩ (dctOk upd_same (rows_ex t (addRow_ok nr hkd h8)) (addRow_keys k h3)))⟩
/-- y = x, x an owned dict -/
theorem ds_moveD (i j : Nat) {n m : Str} {pn pm : Pos} (hij : i ≠ j := by decide) (hc : Γ[i]? = some (.own (.dct ks)) := by rfl) (hN : X.N[i]? = some m := by rfl) (hj : X.N[j]? = some n := by rfl) (hv : Vis X.env.scope m := by first | exact Or.inl rfl | exact Or.inr (Or.inl rfl) | exact Or.inr (Or.inr rfl)) (hd : (m == ("__debug__" : Str)) = false := by decide) (hcd : (m == ("__classdict__" : Str)) = false := by decide)
    (hNd : X.N.Nodup := by assumption) (hx : Loc X.env.scope n := by first | exact .inl rfl | exact .inr rfl) (hs : swapsWith (.Name m pm) (some (.Name n pn)) pos.line X.env = pure false := by rfl) (hf : X.fn n = true ∨ X.env.scope.names.lookup n = some .local := by first | exact .inl rfl | exact .inr rfl) :
    DS X Γ (.Assign [.Name n pn] (.Name m pm) pos) (.nx ((Γ.set i .un).set j (.own (.dct ks)))) :=
  PS.wk (ps_set hNd hj hx (pe_var hN hv hd hcd) hs hf) fun D σ H ⟨H0, ok, q⟩ => by
    obtain ⟨a, e, na, r⟩ := ok.own hc
    refine ⟨.ref a, e, ?_⟩
    have ok1 := ok.wk (ele_un (Γ := Γ) i)
    have no : ∀ k, ¬ OwnAt σ (Γ.set i .un) k a := fun k ⟨k1, o, k2⟩ => by
      rcases getSetC k2 with ⟨_, e2, _⟩ | ⟨e1, e2⟩
      · cases e2
      · exact e1 (ok.apart k i a ⟨k1, o, e2⟩ ⟨e, _, hc⟩)
    exact q H0 _ H (Same.refl H0) (ok1.put ⟨a, rfl, na, r⟩ fun b o e1 _ k _ => by cases e1; exact no k)
end
end K54
set_option Elab.async false
set_option linter.all false
set_option autoImplicit false
set_option maxRecDepth 100000
set_option maxHeartbeats 2000000
/-! K54, the data layer, 13: {key: True for ..} -/
namespace K54
open PySem PySem.Spec PyProof.Rows L2
def addAll {α : Type} [DecidableEq α] (zs : List α) : List α := zs.foldl addK []
theorem addAll_snoc {α : Type} [DecidableEq α] (zs : List α) (z : α) : addAll (zs ++ [z]) = addK (addAll zs) z := by unfold addAll; rw [List.foldl_append]; rfl
theorem addAll_len {α : Type} [DecidableEq α] : ∀ zs : List α, ∀ acc : List α, (zs.foldl addK acc).length ≤ acc.length + zs.length
  | [], acc => Nat.le_refl _
  | z :: zs, acc => by
    have h := addAll_len zs (addK acc z)
    have h2 : (addK acc z).length ≤ acc.length + 1 := by
      unfold addK
      split
      · omega
      · rw [List.length_append]; exact Nat.le_refl _
    rw [List.foldl_cons, List.length_cons]; omega
theorem addAll_nodup {α : Type} [DecidableEq α] : ∀ zs acc : List α, (acc ++ zs).Nodup → zs.foldl addK acc = acc ++ zs
  | [], acc, _ => by simp
  | z :: zs, acc, h => by
    have hz : z ∉ acc := fun hm => by
      obtain ⟨_, _, h3⟩ := List.nodup_append.mp h
      exact h3 z hm z List.mem_cons_self rfl
    have e : addK acc z = acc ++ [z] := by unfold addK; rw [if_neg hz]
    rw [List.foldl_cons, e, addAll_nodup zs (acc ++ [z]) (by rw [List.append_assoc]; exact h), List.append_assoc]; rfl
section
variable {X : Cx} {Γ : List Cell} {tg iter kx : Expr} {scope : Scope} {own : List (Str × Nat)} {pos pv : Pos} {jj : Nat} {α β : Type} [DecidableEq β] {xs : List α} {enc : α → Arg} {kf : α → β}
def BlkK (X : Cx) (scope : Scope) (Γ : List Cell) (tg kx : Expr) (vs : List Nat) (enc : α → Arg) (k : Kd β) (kf : α → β) (x : α) (B : List Cell) (js : List Nat) : Prop :=
  (∀ j ∈ js, j ∈ vs) ∧ ∀ (s : Shared) (H : Hp) (C : Addr) (cl : List (Str × Addr)) (fp : List Addr), DGt (X.blk s H scope (compEnvC scope cl C X.env) fp) (wipeC Γ vs) tg (enc x) B js ∧ DE (X.blk s H scope (compEnvC scope cl C X.env) fp) B kx (k.enc (kf x))
structure KIx (X : Cx) (scope : Scope) (Γ : List Cell) (tg kx : Expr) (vs : List Nat) (enc : α → Arg) (k : Kd β) (kf : α → β) where
  x : α
  B : List Cell
  js : List Nat
  ok : BlkK X scope Γ tg kx vs enc k kf x B js
theorem dd_dc (k : Kd β) (own : List (Str × Nat)) (hi : DI X Γ tg iter (xs.map enc)) (hb : ∀ x ∈ xs, ∃ B js, BlkK X scope Γ tg kx (own.map (·.2)) enc k kf x B js) (ht : ∀ x, ∃ ds, k.enc x = .tuple ds) (hd8 : k.dep ≤ 8) (hz : xs.length ≤ 1000) (hu : X.A.units + 12 < cLine) (hk : blkC X.N X.env.scope scope own = true := by kernel_rfl)
    (hN : X.N.Nodup := by assumption) (hc : X.calm = true := by rfl) (hs : ∀ x, foldedSetIterable iter X.env x = pure x := by intro _; rfl) : DD X Γ (.DictComp kx (.Constant (.bool true) jj pv) [⟨tg, iter, [], 0⟩] scope pos) ((addAll (xs.map kf)).map k.kof) := by
  have hg : ∀ (s : Shared) (H : Hp) (C : Addr) (cl : List (Str × Addr)) (fp : List Addr), PG (X.blk s H scope (compEnvC scope cl C X.env) fp) tg (fun v σ H Q => ∃ q : KIx X scope Γ tg kx (own.map (·.2)) enc k kf, gD X.prog X.w X.K (wipeC Γ (own.map (·.2))) (enc q.x) q.B q.js v σ H Q) := fun s H C cl fp => PG.ex fun q => (q.ok.2 s H C cl fp).1
  have hkx : ∀ (s : Shared) (H : Hp) (C : Addr) (cl : List (Str × Addr)) (fp : List Addr), PE (X.blk s H scope (compEnvC scope cl C X.env) fp) kx (fun σ H Q => ∃ q : KIx X scope Γ tg kx (own.map (·.2)) enc k kf, tD X.prog X.w X.K q.B (k.enc (kf q.x)) σ H Q) := fun s H C cl fp => PE.ex fun q => (q.ok.2 s H C cl fp).2
  refine PE.wk (pe_ndc hc hN hu hi (blkOk_by hk) hg (fun s H C cl fp => pts_nil) hkx (fun s H C cl fp => pe_bl) hs) fun σ H Q h => ?_
  obtain ⟨H0, ok, q⟩ := h
  refine ⟨H0, ok, fun J H1 Hb e1 b1 _ okb wk D nD => ?_⟩
  refine ⟨fun i m H' => i ≤ xs.length ∧ m = xs.length - i ∧ Same H1 H' ∧ ∃ rows, H' D = some (NDO X.prog X.w D rows) ∧ NRows X.K H' rows ∧ rows.map (·.1) = (addAll ((xs.take i).map kf)).map k.kof, ⟨_, Nat.zero_le _, rfl, sameNew nD, [], upd_same, ⟨List.nodup_nil, fun _ h => nomatch h⟩, rfl⟩, ?_⟩
  rintro i m H' ⟨hil, rfl, e', rows, hD, hr, hkeys⟩
  have eb : Same Hb H' := okb.ex.trans e'
  by_cases hlt : i < xs.length
  · have hx : xs[i]? = some xs[i] := List.getElem?_eq_getElem hlt
    generalize xs[i] = x at hx
    obtain ⟨go, yl⟩ := (wk i H' eb).1 (enc x) (by rw [List.getElem?_map, hx]; rfl)
    refine .inr ⟨go, fun H'' => i + 1 ≤ xs.length ∧ Same H1 H'' ∧ ∃ rows, H'' D = some (NDO X.prog X.w D rows) ∧ NRows X.K H'' rows ∧ rows.map (·.1) = (addAll ((xs.take (i + 1)).map kf)).map k.kof, fun H'' ⟨k1, k2, k3⟩ => ⟨xs.length - (i + 1), by omega, k1, rfl, k2, k3⟩, fun v H'' y => ?_⟩
    obtain ⟨e2, Hc, c1, c2, c3, rv⟩ := yl v H'' y
    obtain ⟨B, js, hB⟩ := hb x (List.mem_of_getElem? hx)
    refine ⟨⟨x, B, js, hB⟩, Hc, c2, rv, fun σ' l' o' k' => ⟨wipe_eq (by rw [l', wipe_length]) hB.1 o', ?_⟩⟩
    have okB := k' Hc (Same.refl Hc) (((okb.mono e').rebase e2 c1 c2 c3).wipe _)
    unfold tYes
    simp only [if_true]
    refine ⟨⟨x, B, js, hB⟩, Hc, okB, fun y4 H4 e4 ry => ?_⟩
    have hD4 := e4 D _ (e2 D _ hD)
    obtain ⟨ds, hds⟩ := ht (kf x)
    have ry' := ry
    rw [hds] at ry'
    obtain ⟨b, rfl⟩ := ry'.refOf
    have nr := rows_ex (.of (e2.trans e4)) hr
    have hkd : TD X.K H4 (.ref b) (k.kof (kf x)).data := by rw [k.data]; exact ry
    have h8 := Nat.le_trans (k.deep (kf x)) hd8
    have hlen : rows.length ≤ i := by
      have q := congrArg List.length hkeys
      rw [List.length_map, List.length_map] at q
      rw [q]
      have z := addAll_len ((xs.take i).map kf) []
      rw [List.length_map, List.length_take, List.length_nil] at z
      unfold addAll
      omega
    refine ⟨rows, k.kof (kf x), b, rfl, rfl, hD4, nr, hkd, h8, by omega, hlt, ?_, addRow rows (k.kof (kf x), b), upd_same, ?_, ?_⟩
    · intro c z hcz
      rw [upd_ne (ne_of_none hcz nD)]
      exact e4 c z (e2 c z (e' c z hcz))
    · have t : TupEx H4 (upd H4 D (NDO X.prog X.w D (addRow rows (k.kof (kf x), b)))) := TupEx.write (extNoTup hD4)
      exact rows_ex t (addRow_ok nr hkd h8)
    · rw [take_succ_of hx, List.map_append, List.map_singleton, addAll_snoc]
      exact addRow_keys k hkeys
  · have hin : i = xs.length := by omega
    subst hin
    refine .inl ⟨(wk _ H' eb).2 (by rw [List.length_map]), ?_⟩
    rw [List.take_length] at hkeys
    exact q D rows H' (e1.free nD) (e1.trans e') hD hr hkeys
end
end K54
set_option Elab.async false
set_option linter.all false
set_option autoImplicit false
set_option maxRecDepth 100000
set_option maxHeartbeats 2000000
/-! K54, the data layer, 14: is None, as tests -/
namespace K54
open PySem PySem.Spec PyProof.Rows L2
def isNn : PyData → Bool
  | .none => true
  | _ => false
theorem tdNon {K : PySem.W.Frag} {H : Hp} {v : V} {d : PyData} (r : TD K H v d) : decide (v = .non) = isNn d := by
  cases r <;> simp [isNn]
theorem dpNon {K : PySem.W.Frag} {H : Hp} {v : V} {d : PyData} (r : Dp K H v d) : decide (v = .non) = isNn d := by
  cases r <;> simp [isNn]
section
variable {X : Cx} {Γ : List Cell} {a : Expr} {d : PyData} {pos pos' : Pos} {j : Nat}
theorem dt_isN (h : DG X Γ a d) (hm : behindInMarks .Is (.Constant .none j pos') = false := by rfl) : DT X Γ (.Compare a [.Is] [.Constant .none j pos'] pos) (isNn d) :=
  PT.wk (pt_cmp (pc_isN h) hm) fun σ H Q ⟨H0, ok, q⟩ => ⟨H0, ok, fun v H1 e1 r1 => by
    refine ⟨_, rfl, ?_⟩
    first
      | (rw [dpNon r1]; exact q H1 e1)
      | (have z := dpNon r1; simp only [decide_eq_true_eq] at z ⊢; exact q H1 e1)⟩
theorem dt_notN (h : DG X Γ a d) (hm : behindInMarks .IsNot (.Constant .none j pos') = false := by rfl) : DT X Γ (.Compare a [.IsNot] [.Constant .none j pos'] pos) (!isNn d) :=
  PT.wk (pt_cmp (pc_notN h) hm) fun σ H Q ⟨H0, ok, q⟩ => ⟨H0, ok, fun v H1 e1 r1 => by
    refine ⟨_, rfl, ?_⟩
    rw [dpNon r1]
    exact q H1 e1⟩
theorem de_isNg (h : DG X Γ a d) (hm : behindInMarks .Is (.Constant .none j pos') = false := by rfl) : DE X Γ (.Compare a [.Is] [.Constant .none j pos'] pos) (.bool (isNn d)) :=
  PE.wk (pe_cmp (pc_isN h) hm) fun σ H Q ⟨H0, ok, q⟩ => ⟨H0, ok, fun v H1 e1 r1 => by
    show Q (V.bl (decide (v = .non))) H1
    rw [dpNon r1]
    exact q _ H1 e1 (.bl _)⟩
theorem dt_inDk {α : Type} [DecidableEq α] (k : Kd α) (i : Nat) {cs : List α} {z : α} {n : Str} {pn : Pos} (ha : DE X Γ a (k.enc z)) (ht : ∃ ds, k.enc z = .tuple ds) (hd8 : k.dep ≤ 8) (hu : X.A.units + 20 < cLine) (hc : Γ[i]? = some (.own (.dct (cs.map k.kof))) := by rfl) (hN : X.N[i]? = some n := by rfl) (hv : Vis X.env.scope n := by first | exact Or.inl rfl | exact Or.inr (Or.inl rfl) | exact Or.inr (Or.inr rfl)) (hd : (n == ("__debug__" : Str)) = false := by decide) (hcd : (n == ("__classdict__" : Str)) = false := by decide)
    (hm : behindInMarks .In (.Name n pn) = false := by first | exact nomark _ | rfl) : DT X Γ (.Compare a [.In] [.Name n pn] pos) (memK z cs) :=
  PT.wk (pt_cmpR (op_inND hu) ha (pe_var hN hv hd hcd) hm) fun σ H Q ⟨H0, ok, q⟩ => ⟨H0, ok, fun v H1 e1 r1 => by
    obtain ⟨d, rows, e, n, h1, h2, h3⟩ := (ok.mono e1).dct hc
    obtain ⟨ds, hds⟩ := ht
    have r1' := r1
    rw [hds] at r1'
    obtain ⟨b, rfl⟩ := r1'.refOf
    refine ⟨.ref d, e, d, rows, rfl, h1, h2, .inl ⟨b, k.kof z, rfl, by rw [k.data]; exact r1, Nat.le_trans (k.deep z) hd8, _, rfl, ?_⟩⟩
    have z2 : decide (k.kof z ∈ rows.map fun r => r.1) = memK z cs := by
      rw [h3]
      exact decide_eq_decide.mpr (mapKof k)
    rw [z2]
    exact q H1 e1⟩
end
end K54
set_option Elab.async false
set_option linter.all false
set_option autoImplicit false
set_option maxRecDepth 100000
set_option maxHeartbeats 1000000
/-! K54: the program's defs, how they are called; the mirrors -/
namespace K54
open PySem PySem.Spec PyProof.Rows L2
def top (i : Nat) : Stmt := PySem.Challenge.pw_nearercamps_k54_whole_what_tells_two_pie.main.body.getD i (.Pass ⟨0, 0, 0, 0⟩)
/-- the built-in names are nobody's globals -/
structure Blt (mg : Str → Option Value) : Prop where
  len : mg "len" = none
  range : mg "range" = none
  tuple : mg "tuple" = none
  list : mg "list" = none
  set : mg "set" = none
  sorted : mg "sorted" = none
  isinstance : mg "isinstance" = none
  all : mg "all" = none
  any : mg "any" = none
  enumerate : mg "enumerate" = none
  zip : mg "zip" = none
  int : mg "int" = none
  bool : mg "bool" = none
  str : mg "str" = none
  abs : mg "abs" = none
/-- the def number i, at its name -/
def DefAt (K : PySem.W.Frag) (mg : Str → Option Value) (x : Str) (i : Nat) (ps : List Str) : Prop := ∃ f fd, Fun K x x (top i) f fd ∧ mg x = some (.ref f) ∧ Binds K fd ps []
/-- the name x is a def that keeps the promise sp, k levels deep -/
def Ok (P : Program) (w : World) (K : PySem.W.Frag) (mg : Str → Option Value) (base : Heap) (x : Str) (k : Nat) (ps : List Str) (sp : Sp) : Prop := ∃ f fd, FnOk P w K mg base CX0 k f fd ps sp ∧ mg x = some (.ref f) ∧ PySem.W.keepIn K (.ref f) = true ∧ Binds K fd ps []
section
variable {P : Program} {w : World} {K : PySem.W.Frag} {mg : Str → Option Value} {base : Heap} {x : Str} {i k : Nat} {N ps : List Str}
theorem Ok.mono {j : Nat} {sp : Sp} (o : Ok P w K mg base x j ps sp) (h : j ≤ k) : Ok P w K mg base x k ps sp := by
  obtain ⟨f, fd, F, r⟩ := o
  exact ⟨f, fd, F.mono h, r⟩
theorem okE' {R : List Arg → PyData → Prop} (D : DefAt K mg x i ps) (S : FnScope N ps (defScope (top i))) (hl : ∀ as d, R as d → as.length = ps.length)
    (hb : N.Nodup → ∀ (f : Addr) (cdv : Value) (A : Around) (outer : List Env) (s : Shared) (H : Hp) (E : XK), Room k (BX P w K mg base N x (top i) f cdv A outer s H E).A → ∀ as d, R as d → DSs (BX P w K mg base N x (top i) f cdv A outer s H E) (cellsOf N as) (defBody (top i)) (.rt d)) : Ok P w K mg base x (k + 1) ps (spE K R) := by
  obtain ⟨f, fd, F, h1, h2⟩ := D
  exact ⟨f, fd, okE F S hl (hb S.nd f), h1, F.kp, h2⟩
theorem okN' {R : List Arg → List PyData → Prop} (D : DefAt K mg x i ps) (S : FnScope N ps (defScope (top i))) (hl : ∀ as d, R as d → as.length = ps.length)
    (hb : N.Nodup → ∀ (f : Addr) (cdv : Value) (A : Around) (outer : List Env) (s : Shared) (H : Hp) (E : XK), Room k (BX P w K mg base N x (top i) f cdv A outer s H E).A → ∀ as d, R as d → DSs (BX P w K mg base N x (top i) f cdv A outer s H E) (cellsOf N as) (defBody (top i)) (.rl d)) : Ok P w K mg base x (k + 1) ps (spN K R) := by
  obtain ⟨f, fd, F, h1, h2⟩ := D
  exact ⟨f, fd, okN F S hl (hb S.nd f), h1, F.kp, h2⟩
theorem okG' {R : List Arg → PyData → Prop} (D : DefAt K mg x i ps) (S : FnScope N ps (defScope (top i))) (hl : ∀ as d, R as d → as.length = ps.length)
    (hb : N.Nodup → ∀ (f : Addr) (cdv : Value) (A : Around) (outer : List Env) (s : Shared) (H : Hp) (E : XK), Room k (BX P w K mg base N x (top i) f cdv A outer s H E).A → ∀ as d, R as d → DSs (BX P w K mg base N x (top i) f cdv A outer s H E) (cellsOf N as) (defBody (top i)) (.rg d)) : Ok P w K mg base x (k + 1) ps (spG K R) := by
  obtain ⟨f, fd, F, h1, h2⟩ := D
  exact ⟨f, fd, okG F S hl (hb S.nd f), h1, F.kp, h2⟩
end
section
variable {X : Cx} {Γ : List Cell} {e : Expr} {es : List Expr} {d : PyData} {ds : List PyData} {as : List Arg} {p pos : Pos} {n : Str} {k : Nat} {ps : List Str}
theorem de_fn {R : List Arg → PyData → Prop} (O : Ok X.prog X.w X.K X.mg X.base n k ps (spE X.K R)) (hr : Room k X.A) (ha : DAr X Γ (e :: es) as) (hR : R as d)
    (hg : Gl X n := by rfl) (hdb : (n == ("__debug__" : Str)) = false := by decide) (he : starEach (e :: es) X.env = (false, eval e X.env) :: starEach es X.env := by rfl) (hpl : (backTo pos (starEach es X.env)).any (·.1) = false := by rfl) : DE X Γ (.Call (.Name n p) (e :: es) [] pos) d := by
  obtain ⟨f, fd, F, h1, h2, h3⟩ := O
  exact de_call F hr h1 h2 h3 ha hR hg hdb he hpl
theorem dg_fn {R : List Arg → PyData → Prop} (O : Ok X.prog X.w X.K X.mg X.base n k ps (spG X.K R)) (hr : Room k X.A) (ha : DAr X Γ (e :: es) as) (hR : R as d)
    (hg : Gl X n := by rfl) (hdb : (n == ("__debug__" : Str)) = false := by decide) (he : starEach (e :: es) X.env = (false, eval e X.env) :: starEach es X.env := by rfl) (hpl : (backTo pos (starEach es X.env)).any (·.1) = false := by rfl) : DG X Γ (.Call (.Name n p) (e :: es) [] pos) d := by
  obtain ⟨f, fd, F, h1, h2, h3⟩ := O
  exact dg_call F hr h1 h2 h3 ha hR hg hdb he hpl
theorem dn_fn {R : List Arg → List PyData → Prop} (O : Ok X.prog X.w X.K X.mg X.base n k ps (spN X.K R)) (hr : Room k X.A) (ha : DAr X Γ (e :: es) as) (hR : R as ds)
    (hg : Gl X n := by rfl) (hdb : (n == ("__debug__" : Str)) = false := by decide) (he : starEach (e :: es) X.env = (false, eval e X.env) :: starEach es X.env := by rfl) (hpl : (backTo pos (starEach es X.env)).any (·.1) = false := by rfl) : DN X Γ (.Call (.Name n p) (e :: es) [] pos) ds := by
  obtain ⟨f, fd, F, h1, h2, h3⟩ := O
  exact dn_call F hr h1 h2 h3 ha hR hg hdb he hpl
end

theorem fAll {α β : Type} {xs : List α} {f : α → β} : (xs.filter fun _ => true).map f = xs.map f := by
  rw [List.filter_eq_self.mpr fun _ _ => rfl]
section
variable {X : Cx} {Γ : List Cell} {tg iter elt : Expr} {scope : Scope} {pos : Pos} {α : Type} {xs : List α} {enc : α → Arg} {f : α → PyData}
/-- a comprehension without tests -/
theorem dn_lcA (own : List (Str × Nat)) (hi : DI X Γ tg iter (xs.map enc)) (hb : ∀ x ∈ xs, ∃ B js, (∀ j ∈ js, j ∈ own.map (·.2)) ∧ ∀ (s : Shared) (H : Hp) (C : Addr) (cl : List (Str × Addr)) (fp : List Addr), DGt (X.blk s H scope (compEnvC scope cl C X.env) fp) (wipeC Γ (own.map (·.2))) tg (enc x) B js ∧ DE (X.blk s H scope (compEnvC scope cl C X.env) fp) B elt (f x)) (hz : xs.length ≤ 100000) (hk : blkC X.N X.env.scope scope own = true := by kernel_rfl)
    (hN : X.N.Nodup := by assumption) (hc : X.calm = true := by rfl) (hs : ∀ x, foldedSetIterable iter X.env x = pure x := by intro _; rfl) : DN X Γ (.ListComp elt [⟨tg, iter, [], 0⟩] scope pos) (xs.map f) :=
  DN.is (dn_lc (p := fun _ => true) own hi (fun x hx => by
    obtain ⟨B, js, h1, h2⟩ := hb x hx
    exact ⟨B, js, h1, fun s H C cl fp => ⟨(h2 s H C cl fp).1, dts_nil, fun _ => (h2 s H C cl fp).2⟩⟩) hz hk hN hc hs) fAll
end
/-! ### the mirrors -/
def within (l m : Lot) : Bool := l.all fun x => decide (x ∈ m)
def joinedM (ls : List Lot) : Lot := canon ltN ls.flatten
def lw (L : Looks) (l : Lot) : Lot := (L.zipIdx.filter fun p => within p.1 l).map (·.2)
def stillM (n : Nat) : Looks := (List.range n).map fun i => [i]
def behindM (L M : Looks) : Looks := M.map fun lot => joinedM (lot.map fun p => L.getD p [])
def apartM (l m : Lot) : Bool := !l.any fun x => decide (x ∈ m)
def lotsRaw : Nat → List Lot
  | 0 => [[]]
  | n + 1 => lotsRaw n ++ (lotsRaw n).map (· ++ [n])
def lotsM (n : Nat) : List Lot := canon ltLot ((lotsRaw n).drop 1)
def campsM (n : Nat) : List Camps := (lotsM n).zipIdx.flatMap fun p => (((lotsM n).drop (p.2 + 1)).filter (apartM p.1)).map fun m => (p.1, m)
def inOrd (l m : Lot) : Camps := if ltLot l m = true then (l, m) else (m, l)
def areW (c d : Camps) : Bool := (within c.1 d.1 && within c.2 d.2) || (within c.1 d.2 && within c.2 d.1)
def great (cs : List Camps) : List Camps := (canon ltCamps cs).filter fun c => !(canon ltCamps cs).any fun o => decide (o ≠ c) && areW c o
def ledM (L : Looks) (c : Camps) : Option Camps := if lw L c.1 = [] ∨ lw L c.2 = [] then none else some (inOrd (lw L c.1) (lw L c.2))
def tableM (Ls : List Looks) (n : Nat) : List (Camps × List Camps) := (campsM n).map fun c => (c, great (Ls.filterMap fun L => ledM L c))
end K54
set_option Elab.async false
set_option linter.all false
set_option autoImplicit false
set_option maxRecDepth 100000
set_option maxHeartbeats 1000000
/-! K54: defs of the program, 1 -/
namespace K54
open PySem PySem.Spec PyProof.Rows L2
section
variable {P : Program} {w : World} {K : PySem.W.Frag} {mg : Str → Option Value} {base : Heap} {k : Nat}
/-! ### _is_within, _within, _apart -/
theorem scS10 : FnScope ["lot", "other", "place"] ["lot", "other"] (defScope (top 10)) := ⟨rfl, rfl, rfl, by decide +kernel, rfl, by decide +kernel, by decide +kernel⟩
theorem scS19 : FnScope ["lot", "other", "place"] ["lot", "other"] (defScope (top 19)) := ⟨rfl, rfl, rfl, by decide +kernel, rfl, by decide +kernel, by decide +kernel⟩
theorem scS16 : FnScope ["lot", "other", "place"] ["lot", "other"] (defScope (top 16)) := ⟨rfl, rfl, rfl, by decide +kernel, rfl, by decide +kernel, by decide +kernel⟩
def rWithin (as : List Arg) (d : PyData) : Prop := ∃ l m : Lot, l.length ≤ 1000 ∧ as = [.t (eLot l), .t (eLot m)] ∧ d = .bool (within l m)
def rApart (as : List Arg) (d : PyData) : Prop := ∃ l m : Lot, l.length ≤ 1000 ∧ as = [.t (eLot l), .t (eLot m)] ∧ d = .bool (apartM l m)
theorem ok_within0 (B : Blt mg) (D : DefAt K mg "_is_within" 10 ["lot", "other"]) : Ok P w K mg base "_is_within" (k + 1) ["lot", "other"] (spE K rWithin) := by
  refine okE' D scS10 (fun as d h => by obtain ⟨l, m, _, rfl, _⟩ := h; rfl) fun nd f cdv A outer s H E hr as d h => ?_
  obtain ⟨l, m, hl, rfl, rfl⟩ := h
  refine DSs.is (dss_one (ds_ret (de_all (bs := l.map fun x => decide (x ∈ m)) (DN.l (DN.is (dn_lcA [("place", 2)] (xs := l) (enc := fun x => .t (eN x)) (f := fun x => .bool (decide (x ∈ m))) (di_tup (de_var 0)) (fun x hx => ⟨_, _, by decide, fun s H C cl fp => ⟨dg_name 2, de_cmp op_in_seq opIn (de_var 2) (de_var 1)⟩⟩) (by omega)) ?_)) B.all))) ?_
  · rw [List.map_map]; rfl
  · unfold within
    rw [List.all_map]; rfl
theorem ok_within (B : Blt mg) (D : DefAt K mg "_within" 19 ["lot", "other"]) : Ok P w K mg base "_within" (k + 1) ["lot", "other"] (spE K rWithin) := by
  refine okE' D scS19 (fun as d h => by obtain ⟨l, m, _, rfl, _⟩ := h; rfl) fun nd f cdv A outer s H E hr as d h => ?_
  obtain ⟨l, m, hl, rfl, rfl⟩ := h
  refine DSs.is (dss_one (ds_ret (de_all (bs := l.map fun x => decide (x ∈ m)) (DN.l (DN.is (dn_lcA [("place", 2)] (xs := l) (enc := fun x => .t (eN x)) (f := fun x => .bool (decide (x ∈ m))) (di_tup (de_var 0)) (fun x hx => ⟨_, _, by decide, fun s H C cl fp => ⟨dg_name 2, de_cmp op_in_seq opIn (de_var 2) (de_var 1)⟩⟩) (by omega)) ?_)) B.all))) ?_
  · rw [List.map_map]; rfl
  · unfold within
    rw [List.all_map]; rfl
theorem ok_apart (B : Blt mg) (D : DefAt K mg "_apart" 16 ["lot", "other"]) : Ok P w K mg base "_apart" (k + 1) ["lot", "other"] (spE K rApart) := by
  refine okE' D scS16 (fun as d h => by obtain ⟨l, m, _, rfl, _⟩ := h; rfl) fun nd f cdv A outer s H E hr as d h => ?_
  obtain ⟨l, m, hl, rfl, rfl⟩ := h
  refine DSs.is (dss_one (ds_ret (de_not (de_any (bs := l.map fun x => decide (x ∈ m)) (DN.l (DN.is (dn_lcA [("place", 2)] (xs := l) (enc := fun x => .t (eN x)) (f := fun x => .bool (decide (x ∈ m))) (di_tup (de_var 0)) (fun x hx => ⟨_, _, by decide, fun s H C cl fp => ⟨dg_name 2, de_cmp op_in_seq opIn (de_var 2) (de_var 1)⟩⟩) (by omega)) ?_)) B.any)))) ?_
  · rw [List.map_map]; rfl
  · unfold apartM
    rw [List.any_map]; rfl
/-! ### is_number, is_tuple_of -/
def isNum : PyData → Bool
  | .int _ => true
  | _ => false
def isIb : PyData → Bool
  | .int _ => true
  | .bool _ => true
  | _ => false
def isBl : PyData → Bool
  | .bool _ => true
  | _ => false
def isTp : PyData → Bool
  | .tuple _ => true
  | _ => false
def isLs : PyData → Bool
  | .list _ => true
  | _ => false
def isSr : PyData → Bool
  | .str _ => true
  | _ => false
theorem kitInt (d : PyData) : kitB (tyN d) "int" = some (isIb d) := by cases d <;> kernel_rfl
theorem kitBool (d : PyData) : kitB (tyN d) "bool" = some (isBl d) := by cases d <;> kernel_rfl
theorem kitTup (d : PyData) : kitB (tyN d) "tuple" = some (isTp d) := by cases d <;> kernel_rfl
theorem kitLst (d : PyData) : kitB (tyN d) "list" = some (isLs d) := by cases d <;> kernel_rfl
theorem kitStr (d : PyData) : kitB (tyN d) "str" = some (isSr d) := by cases d <;> kernel_rfl
theorem isNum_eq (d : PyData) : (isIb d && !isBl d) = isNum d := by cases d <;> rfl
theorem scS3 : FnScope ["thing"] ["thing"] (defScope (top 3)) := ⟨rfl, rfl, rfl, by decide +kernel, rfl, by decide +kernel, by decide +kernel⟩
def rNum (as : List Arg) (d : PyData) : Prop := ∃ x, as = [.g x] ∧ d = .bool (isNum x)
theorem ok_number (B : Blt mg) (D : DefAt K mg "is_number" 3 ["thing"]) : Ok P w K mg base "is_number" (k + 1) ["thing"] (spE K rNum) := by
  refine okE' D scS3 (fun as d h => by obtain ⟨l, rfl, _⟩ := h; rfl) fun nd f cdv A outer s H E hr as d h => ?_
  obtain ⟨x, rfl, rfl⟩ := h
  refine DSs.is (dss_one (ds_ret (de_and (de_isi "int" (dg_var 0) (kitInt x) B.isinstance B.int) fun _ => de_one (de_not (de_isi "bool" (dg_var 0) (kitBool x) B.isinstance B.bool))))) ?_
  rw [isNum_eq]
theorem scS5 : FnScope ["thing", "many"] ["thing", "many"] (defScope (top 5)) := ⟨rfl, rfl, rfl, by decide +kernel, rfl, by decide +kernel, by decide +kernel⟩
def tupLen (x : PyData) (n : Nat) : Bool := match x with
  | .tuple ds => decide (ds.length = n)
  | _ => false
def rTupOf (as : List Arg) (d : PyData) : Prop := ∃ x n, as = [.g x, .t (eN n)] ∧ d = .bool (tupLen x n)
theorem eqInts (a b : Nat) : PyData.eqv (.int a) (.int b) = decide (a = b) := eqv_N a b
theorem ok_tupleOf (B : Blt mg) (D : DefAt K mg "is_tuple_of" 5 ["thing", "many"]) : Ok P w K mg base "is_tuple_of" (k + 1) ["thing", "many"] (spE K rTupOf) := by
  refine okE' D scS5 (fun as d h => by obtain ⟨l, n, rfl, _⟩ := h; rfl) fun nd f cdv A outer s H E hr as d h => ?_
  obtain ⟨x, n, rfl, rfl⟩ := h
  have go : ∀ ds, x = .tuple ds → DSs (BX P w K mg base ["thing", "many"] "is_tuple_of" (top 5) f cdv A outer s H E) (cellsOf ["thing", "many"] [.g x, .t (eN n)]) (defBody (top 5)) (.rt (.bool (isTp x && decide (ds.length = n)))) := fun ds e =>
    dss_one (ds_ret (de_and (de_isi "tuple" (dg_var 0) (kitTup x) B.isinstance B.tuple) fun _ => de_one (DE.is (dg_cmp (op_eqD hr.units) (opEqD rfl rfl) (de_lenG (dg_var 0) (e ▸ IsSq.tup ds) B.len).g (de_var 1).g) (by rw [← eqInts]; rfl))))
  cases x with
  | tuple ds => exact DSs.is (go ds rfl) (by simp [isTp, tupLen])
  | _ => exact DSs.is (dss_one (ds_ret (de_and (l := false) (de_isi "tuple" (dg_var 0) (kitTup _) B.isinstance B.tuple) fun z => by cases z))) (by simp [isTp, tupLen])
end
end K54
set_option Elab.async false
set_option linter.all false
set_option autoImplicit false
set_option maxRecDepth 100000
set_option maxHeartbeats 1000000
/-! K54: defs of the program, 2: looks -/
namespace K54
open PySem PySem.Spec PyProof.Rows L2
section
variable {P : Program} {w : World} {K : PySem.W.Frag} {mg : Str → Option Value} {base : Heap} {k : Nat}
/-! ### joined -/
theorem scS11 : FnScope ["lots", "lot", "place"] ["lots"] (defScope (top 11)) := ⟨rfl, rfl, rfl, by decide +kernel, rfl, by decide +kernel, by decide +kernel⟩
def rJoined (as : List Arg) (d : PyData) : Prop := ∃ ls : List Lot, ls.flatten.length < 64 ∧ ls.length ≤ 1000 ∧ as = [.l (ls.map eLot)] ∧ d = eLot (joinedM ls)
theorem castMap (l : Lot) : l.map eN = (l.map fun k : Nat => (k : Int)).map .int := eN_map l
theorem whole_all {α β : Type} {xs : List α} {g : α → List β} {f : β → PyData} : xs.flatMap (whole (fun _ => true) g (fun _ _ => true) fun _ y => f y) = (xs.flatMap g).map f := by
  rw [List.map_flatMap]
  refine congrArg (fun h => xs.flatMap h) (funext fun x => ?_)
  unfold whole
  rw [if_pos rfl, fAll]
theorem ok_joined (B : Blt mg) (D : DefAt K mg "joined" 11 ["lots"]) : Ok P w K mg base "joined" (k + 1) ["lots"] (spE K rJoined) := by
  refine okE' D scS11 (fun as d h => by obtain ⟨l, _, _, rfl, _⟩ := h; rfl) fun nd f cdv A outer s H E hr as d h => ?_
  obtain ⟨ls, h1, h2, rfl, rfl⟩ := h
  have fl : ls.flatMap id = ls.flatten := by rw [List.flatMap_id]
  refine DSs.is (dss_one (ds_ret (de_tupL (DN.l (dn_sortInts (ns := ls.flatten.map fun k : Nat => (k : Int)) (DL.q (DN.l (DN.is (dn_lc2 [("lot", 1), ("place", 2)] [2] (xs := ls) (enc := fun l => .t (eLot l)) (p1 := fun _ => true) (g := id) (enc1 := fun n => .t (eN n)) (p := fun _ _ => true) (f := fun _ n => eN n) (di_var 0)
    (fun x hx => ⟨_, _, by decide, fun s H C cl fp => ⟨dg_name 1, dts_nil, fun _ => di_tup (de_var 1)⟩, fun y hy => ⟨_, _, by decide, fun s H C cl fp => ⟨dg_name 2, dts_nil, fun _ => de_var 2⟩⟩⟩) (by rw [whole_all, fl, List.length_map]; omega)) (by rw [whole_all, fl, castMap])))) (by rw [List.length_map]; exact h1) B.sorted B.set)) B.tuple))) ?_
  rw [canon_cast, ← castMap]; rfl
/-! ### lookers_within -/
theorem scS12 : FnScope ["looks", "lot", "place", "seen"] ["looks", "lot"] (defScope (top 12)) := ⟨rfl, rfl, rfl, by decide +kernel, rfl, by decide +kernel, by decide +kernel⟩
def rLw (as : List Arg) (d : PyData) : Prop := ∃ (L : Looks) (l : Lot), L.length ≤ 1000 ∧ (∀ m ∈ L, m.length ≤ 1000) ∧ as = [.t (eLooks L), .t (eLot l)] ∧ d = eLot (lw L l)
theorem memZip {α : Type} {xs : List α} {p : α × Nat} (h : p ∈ xs.zipIdx) : p.1 ∈ xs := by
  obtain ⟨i, hi, e⟩ := List.getElem_of_mem h
  rw [List.getElem_zipIdx] at e
  rw [← e]
  exact List.getElem_mem _
theorem ok_lw (B : Blt mg) (D : DefAt K mg "lookers_within" 12 ["looks", "lot"]) (O : Ok P w K mg base "_is_within" k ["lot", "other"] (spE K rWithin)) : Ok P w K mg base "lookers_within" (k + 1) ["looks", "lot"] (spE K rLw) := by
  refine okE' D scS12 (fun as d h => by obtain ⟨L, l, _, _, rfl, _⟩ := h; rfl) fun nd f cdv A outer s H E hr as d h => ?_
  obtain ⟨L, l, h1, h2, rfl, rfl⟩ := h
  refine DSs.is (dss_one (ds_ret (de_tupL (DN.l (dn_lc [("place", 2), ("seen", 3)] (xs := L.zipIdx) (enc := fun p => .t (.tuple [.int (p.2 : Nat), eLot p.1])) (p := fun p => within p.1 l) (f := fun p => eN p.2) (di_enT (de_var 0) B.enumerate)
    (fun x hx => ⟨_, _, by decide, fun s H C cl fp => ⟨dg_tup (dgs_cons (dg_name 2) (dgs_cons (dg_name 3) dgs_nil)), dts_one (dt_val (de_fn O hr (dr_t (de_var 3) (dr_t (de_var 1) dr_nil)) ⟨x.1, l, h2 _ (memZip hx), rfl, rfl⟩)), fun _ => de_var 2⟩⟩) (by rw [List.length_zipIdx]; omega))) B.tuple))) ?_
  unfold lw eLot
  rw [List.map_map]; rfl
/-! ### stand_still -/
theorem scS13 : FnScope ["n", "place"] ["n"] (defScope (top 13)) := ⟨rfl, rfl, rfl, by decide +kernel, rfl, by decide +kernel, by decide +kernel⟩
def rStill (as : List Arg) (d : PyData) : Prop := ∃ n : Nat, n ≤ 1000 ∧ as = [.t (eN n)] ∧ d = eLooks (stillM n)
theorem ok_still (B : Blt mg) (D : DefAt K mg "stand_still" 13 ["n"]) : Ok P w K mg base "stand_still" (k + 1) ["n"] (spE K rStill) := by
  refine okE' D scS13 (fun as d h => by obtain ⟨n, _, rfl, _⟩ := h; rfl) fun nd f cdv A outer s H E hr as d h => ?_
  obtain ⟨n, h1, rfl, rfl⟩ := h
  refine DSs.is (dss_one (ds_ret (de_tupL (DN.l (dn_lcA [("place", 1)] (xs := List.range n) (enc := fun i => .t (.int (i : Nat))) (f := fun i => .tuple [eN i]) (di_range (j := n) (de_var 0) B.range)
    (fun x hx => ⟨_, _, by decide, fun s H C cl fp => ⟨dg_name 1, de_tup (du_cons (de_var 1) du_nil)⟩⟩) (by rw [List.length_range]; omega))) B.tuple))) ?_
  unfold stillM eLooks
  rw [List.map_map]; rfl
/-! ### all_lots -/
theorem scS9 : FnScope ["n", "found", "place", "own"] ["n"] (defScope (top 9)) := ⟨rfl, rfl, rfl, by decide +kernel, rfl, by decide +kernel, by decide +kernel⟩
def rLots (as : List Arg) (ds : List PyData) : Prop := ∃ n : Nat, n ≤ 3 ∧ as = [.t (eN n)] ∧ ds = (lotsM n).map eLot
theorem lotsRaw_len : ∀ n, (lotsRaw n).length = 2 ^ n
  | 0 => rfl
  | n + 1 => by
    show (lotsRaw n ++ (lotsRaw n).map _).length = _
    rw [List.length_append, List.length_map, lotsRaw_len n, Nat.pow_succ]; omega
theorem lots_ne : ∀ n, n ≤ 3 → (∀ x ∈ (lotsRaw n).drop 1, x ≠ []) ∧ ((lotsRaw n).drop 1).Nodup
  | 0, _ => by decide
  | 1, _ => by decide
  | 2, _ => by decide
  | 3, _ => by decide
  | n + 4, h => by omega
theorem lotsRaw_mem : ∀ n, ∀ x ∈ lotsRaw n, x.length ≤ n
  | 0, x, h => by
    have e : x = [] := List.mem_singleton.mp h
    rw [e]; exact Nat.le_refl _
  | n + 1, x, h => by
    rcases List.mem_append.mp h with h | h
    · exact Nat.le_succ_of_le (lotsRaw_mem n x h)
    · obtain ⟨y, hy, rfl⟩ := List.mem_map.mp h
      have := lotsRaw_mem n y hy
      rw [List.length_append]; exact Nat.succ_le_succ this
theorem eLot_cons {l : Lot} (h : l ≠ []) : ∃ d ds, eLot l = .tuple (d :: ds) := by
  cases l with
  | nil => exact absurd rfl h
  | cons x l => exact ⟨_, _, rfl⟩
theorem ok_lots (B : Blt mg) (D : DefAt K mg "all_lots" 9 ["n"]) : Ok P w K mg base "all_lots" (k + 1) ["n"] (spN K rLots) := by
  refine okN' D scS9 (fun as d h => by obtain ⟨n, _, rfl, _⟩ := h; rfl) fun nd f cdv A outer s H E hr as ds h => ?_
  obtain ⟨n, h1, rfl, rfl⟩ := h
  refine dss_cons (ds_setR 1 (ds := (lotsRaw 0).map eLot) (dn_lst (du_cons (de_tup du_nil) du_nil))) (dss_cons (ds_for (fun i => [.dat (eN n), .rdl ((lotsRaw i).map eLot), .un, .un]) (xs := List.range n) (enc := fun i => .t (.int (i : Nat))) (di_range (j := n) (de_var 0) B.range) ?_ fun i x hx => ?_) ?_)
  · exact .cons (.eq _) (.cons (.eq _) (.cons (.un _) (.cons (.un _) .nil)))
  · obtain ⟨hl, ex⟩ := List.getElem?_eq_some_iff.mp hx
    rw [List.getElem_range] at ex
    subst ex
    have hi : i < 3 := by rw [List.length_range] at hl; omega
    have len : (lotsRaw i).length ≤ 1000 := by rw [lotsRaw_len]; exact Nat.le_trans (Nat.pow_le_pow_right (by decide) (Nat.le_of_lt hi)) (by decide)
    refine ⟨_, _, dg_name 2, DSs.wk2 (dss_one (ds_setR 1 (dn_cat (ds := (lotsRaw i).map eLot) (es := (lotsRaw i).map fun l => eLot (l ++ [i])) (dl_var 1) (DN.l (dn_lcA [("own", 3)] (xs := lotsRaw i) (enc := fun l => .t (eLot l)) (f := fun l => eLot (l ++ [i])) (di_var 1)
      (fun x hx => ⟨_, _, by decide, fun s H C cl fp => ⟨dg_name 3, DE.is (de_op op_catA (opCatT (ds := x.map eN) (es := [eN i]) ?_) (de_var 3) (de_tup (du_cons (de_var 2) du_nil))) ?_⟩⟩) (by omega))) ?_))) ?_⟩
    · have := lotsRaw_mem i x hx
      rw [List.length_map, List.length_singleton]; omega
    · rw [eLot, List.map_append]; rfl
    · simp; omega
    · refine .cons (.eq _) (.cons ?_ (.cons (.un _) (.cons (.un _) .nil)))
      have e : (lotsRaw i).map eLot ++ (lotsRaw i).map (fun l => eLot (l ++ [i])) = (lotsRaw (i + 1)).map eLot := by
        show _ = (lotsRaw i ++ (lotsRaw i).map (· ++ [i])).map eLot
        rw [List.map_append, List.map_map]; rfl
      rw [e]
      exact .eq _
  · refine dss_one (ds_retN (dn_sortL kLot (xs := (lotsRaw n).drop 1) (DN.l (DN.is (dn_slFrom 1 (dl_var 1) de_int) ?_)) (fun x hx => eLot_cons ((lots_ne n h1).1 x hx)) (by decide) ?_ (lots_ne n h1).2 hr.units B.sorted))
    · rw [List.length_range, List.map_drop]; rfl
    · rw [List.length_drop, lotsRaw_len]
      have := Nat.pow_le_pow_right (n := 2) (by decide) h1
      omega
end
end K54
set_option Elab.async false
set_option linter.all false
set_option autoImplicit false
set_option maxRecDepth 100000
set_option maxHeartbeats 1000000
/-! K54: defs of the program, 3: tuple_of, is_lot, is_looks, behind_looks -/
namespace K54
open PySem PySem.Spec PyProof.Rows L2
mutual
/-- lists become tuples -/
def tupled : PyData → PyData
  | .list ds => .tuple (tupleds ds)
  | .tuple ds => .tuple (tupleds ds)
  | .none => .none
  | .bool b => .bool b
  | .int i => .int i
  | .str x => .str x
  | .dict kvs => .dict kvs
def tupleds : List PyData → List PyData
  | [] => []
  | d :: ds => tupled d :: tupleds ds
end
mutual
/-- no sequence is long, there is no dict -/
def slim : PyData → Bool
  | .list ds => decide (ds.length ≤ 1000) && slims ds
  | .tuple ds => decide (ds.length ≤ 1000) && slims ds
  | .none => true
  | .bool _ => true
  | .int _ => true
  | .str _ => true
  | .dict _ => false
def slims : List PyData → Bool
  | [] => true
  | d :: ds => slim d && slims ds
end
theorem tupleds_map : ∀ ds : List PyData, tupleds ds = ds.map tupled
  | [] => rfl
  | d :: ds => by rw [tupleds, tupleds_map ds]; rfl
theorem slims_mem : ∀ {ds : List PyData}, slims ds = true → ∀ d ∈ ds, slim d = true
  | [], _, _, h => by cases h
  | x :: ds, hs, d, h => by
    simp only [slims, Bool.and_eq_true] at hs
    rcases List.mem_cons.mp h with e | h
    · rw [e]; exact hs.1
    · exact slims_mem hs.2 d h
theorem depth_mem {m : Nat} : ∀ {ds : List PyData}, PyData.depthAll ds ≤ m → ∀ d ∈ ds, d.depth ≤ m
  | [], _, _, h => by cases h
  | x :: ds, hs, d, h => by
    simp only [PyData.depthAll] at hs
    rcases List.mem_cons.mp h with e | h
    · rw [e]; omega
    · exact depth_mem (by omega) d h
mutual
theorem tupled_t : ∀ d : PyData, tonly d = true → tupled d = d
  | .list _, h => by simp [tonly] at h
  | .tuple ds, h => by rw [tupled, tupleds_t ds (by simpa [tonly] using h)]
  | .none, _ => by rw [tupled]
  | .bool _, _ => by rw [tupled]
  | .int _, _ => by rw [tupled]
  | .str _, _ => by rw [tupled]
  | .dict _, h => by simp [tonly] at h
theorem tupleds_t : ∀ ds : List PyData, tonlys ds = true → tupleds ds = ds
  | [], _ => rfl
  | d :: ds, h => by
    simp only [tonlys, Bool.and_eq_true] at h
    rw [tupleds, tupled_t d h.1, tupleds_t ds h.2]
end
section
variable {P : Program} {w : World} {K : PySem.W.Frag} {mg : Str → Option Value} {base : Heap} {k : Nat}
theorem scS4 : FnScope ["thing", "part"] ["thing"] (defScope (top 4)) := ⟨rfl, rfl, rfl, by decide +kernel, rfl, by decide +kernel, by decide +kernel⟩
def rTupled (m : Nat) (as : List Arg) (d : PyData) : Prop := ∃ x, slim x = true ∧ x.depth ≤ m ∧ as = [.g x] ∧ d = tupled x
theorem ok_tupled (B : Blt mg) (D : DefAt K mg "tuple_of" 4 ["thing"]) : ∀ m : Nat, Ok P w K mg base "tuple_of" (k + 1 + m) ["thing"] (spE K (rTupled m))
  | 0 => by
    refine okE' D scS4 (fun as d h => by obtain ⟨x, _, _, rfl, _⟩ := h; rfl) fun nd f cdv A outer s H E hr as d h => ?_
    obtain ⟨x, h1, h2, rfl, rfl⟩ := h
    have t : tonly x = true := by cases x <;> first | rfl | (simp [PyData.depth] at h2) | (simp [slim] at h1)
    refine DSs.is (dss_if (b := false) (DT.is (dt_val (de_isi2 "list" "tuple" (dg_var 0) (kitLst x) (kitTup x) B.isinstance B.list B.tuple)) ?_) (fun z => nomatch z) fun _ => dss_one (ds_ret (DG.t (dg_var 0) t))) ?_
    · cases x <;> first | rfl | (simp [PyData.depth] at h2)
    · rw [tupled_t x t]
  | m + 1 => by
    have O := ok_tupled B D m
    refine okE' D scS4 (fun as d h => by obtain ⟨x, _, _, rfl, _⟩ := h; rfl) fun nd f cdv A outer s H E hr as d h => ?_
    obtain ⟨x, h1, h2, rfl, rfl⟩ := h
    have go : ∀ ds, IsSq x ds → ds.length ≤ 1000 → slims ds = true → PyData.depthAll ds ≤ m → (isLs x || isTp x) = true → DSs (BX P w K mg base ["thing", "part"] "tuple_of" (top 4) f cdv A outer s H E) (cellsOf ["thing", "part"] [.g x]) (defBody (top 4)) (.rt (.tuple (ds.map tupled))) := fun ds hq hl hs hd hb =>
      dss_if (b := true) (DT.is (dt_val (de_isi2 "list" "tuple" (dg_var 0) (kitLst x) (kitTup x) B.isinstance B.list B.tuple)) hb) (fun _ => dss_one (ds_ret (de_tupL (DN.l (dn_lcA [("part", 1)] (xs := ds) (enc := .g) (f := tupled) (di_gen (db_var 0) hq)
        (fun y hy => ⟨_, _, by decide, fun s H C cl fp => ⟨dg_name 1, de_fn O hr (dr_g (dg_var 1) dr_nil) ⟨y, slims_mem hs y hy, depth_mem hd y hy, rfl, rfl⟩⟩⟩) (by omega))) B.tuple))) fun z => nomatch z
    cases x with
    | list ds =>
      simp only [slim, Bool.and_eq_true, decide_eq_true_eq] at h1
      simp only [PyData.depth] at h2
      exact DSs.is (go ds (.lst ds) h1.1 h1.2 (by omega) rfl) (by rw [tupled, tupleds_map])
    | tuple ds =>
      simp only [slim, Bool.and_eq_true, decide_eq_true_eq] at h1
      simp only [PyData.depth] at h2
      exact DSs.is (go ds (.tup ds) h1.1 h1.2 (by omega) rfl) (by rw [tupled, tupleds_map])
    | dict kvs => simp [slim] at h1
    | _ => exact DSs.is (dss_if (b := false) (DT.is (dt_val (de_isi2 "list" "tuple" (dg_var 0) (kitLst _) (kitTup _) B.isinstance B.list B.tuple)) rfl) (fun z => nomatch z) fun _ => dss_one (ds_ret (DG.t (dg_var 0) rfl))) (by rw [tupled])
/-! ### is_lot, is_looks -/
def inR (y : PyData) (n : Nat) : Bool := match y with
  | .int i => decide (0 ≤ i) && decide (i < n)
  | _ => false
def ltD (x y : PyData) : Bool := match x, y with
  | .int i, .int j => decide (i < j)
  | _, _ => false
def isLotM (x : PyData) (n : Nat) : Bool := match x with
  | .tuple ds => decide (ds ≠ []) && (ds.all (fun y => isNum y && inR y n) && (List.range (ds.length - 1)).all fun k => ltD (ds.getD k .none) (ds.getD (k + 1) .none))
  | _ => false
theorem scS7 : FnScope ["thing", "n", "place", "k"] ["thing", "n"] (defScope (top 7)) := ⟨rfl, rfl, rfl, by decide +kernel, rfl, by decide +kernel, by decide +kernel⟩
def rIsLot (as : List Arg) (d : PyData) : Prop := ∃ x n, slim x = true ∧ as = [.g x, .t (eN n)] ∧ d = .bool (isLotM x n)
theorem numInt {y : PyData} (h : isNum y = true) : ∃ i, y = .int i := by cases y <;> first | exact ⟨_, rfl⟩ | cases h
theorem ok_isLot (B : Blt mg) (D : DefAt K mg "is_lot" 7 ["thing", "n"]) (O : Ok P w K mg base "is_number" k ["thing"] (spE K rNum)) : Ok P w K mg base "is_lot" (k + 1) ["thing", "n"] (spE K rIsLot) := by
  refine okE' D scS7 (fun as d h => by obtain ⟨x, n, _, rfl, _⟩ := h; rfl) fun nd f cdv A outer s H E hr as d h => ?_
  obtain ⟨x, n, h1, rfl, rfl⟩ := h
  have q1 : ∀ b, isTp x = b → (b = true → ∃ ds, x = .tuple ds) := fun b e hb => by
    cases x <;> first | exact ⟨_, rfl⟩ | (rw [← e] at hb; cases hb)
  cases hx : isTp x with
  | false =>
    have e : isLotM x n = false := by cases x <;> first | rfl | cases hx
    rw [e]
    exact dss_if (b := true) (DT.is (PW.pt (dw_or (l := true) (dt_not (dt_val (de_isi "tuple" (dg_var 0) (kitTup x) B.isinstance B.tuple))) fun z => by rw [hx] at z; cases z)) (by rw [hx]; rfl)) (fun _ => dss_one (ds_ret de_bl)) fun z => nomatch z
  | true =>
    obtain ⟨ds, rfl⟩ := q1 true hx rfl
    simp only [slim, Bool.and_eq_true, decide_eq_true_eq] at h1
    have dl : PyData.eqv (.int ((ds.length : Nat) : Int)) (.int 0) = decide (ds.length = 0) := eqInts ds.length 0
    by_cases h0 : ds = []
    · subst h0
      exact dss_if (b := true) (DT.is (PW.pt (dw_or (l := true) (dt_not (dt_val (de_isi "tuple" (dg_var 0) (kitTup _) B.isinstance B.tuple))) fun _ => dw_or1 (DT.is (dtg_cmp (k := true) (op_eqD hr.units) (opEqD rfl rfl) (de_lenG (dg_var 0) (.tup []) B.len).g de_int.g) rfl))) rfl) (fun _ => dss_one (ds_ret de_bl)) fun z => nomatch z
    have hl : ds.length ≠ 0 := fun z => h0 (List.length_eq_zero_iff.mp z)
    refine dss_if (b := false) (DT.is (PW.pt (dw_or (l := false) (dt_not (dt_val (de_isi "tuple" (dg_var 0) (kitTup _) B.isinstance B.tuple))) fun _ => dw_or1 (dtg_cmp (k := false) (op_eqD hr.units) (by have z := opEqD (K := K) (x := .int ((ds.length : Nat) : Int)) (y := .int 0) rfl rfl; rw [dl, decide_eq_false hl] at z; exact z) (de_lenG (dg_var 0) (.tup ds) B.len).g de_int.g))) rfl) (fun z => nomatch z) fun _ => ?_
    cases ha : ds.all (fun y => isNum y && inR y n) with
    | false =>
      have e : isLotM (.tuple ds) n = false := by simp [isLotM, ha]
      rw [e]
      refine dss_if (b := true) (DT.is (dt_not (dt_val (de_all (bs := ds.map fun y => isNum y && inR y n) (DN.l (DN.is (dn_lcA [("place", 2)] (xs := ds) (enc := .g) (f := fun y => .bool (isNum y && inR y n)) (di_gen (db_var 0) (.tup ds))
        (fun y hy => ⟨_, _, by decide, fun s H C cl fp => ⟨dg_name 2, de_and (de_fn O hr (dr_g (dg_var 2) dr_nil) ⟨y, rfl, rfl⟩) fun hn => ?_⟩⟩) (by omega)) (by rw [List.map_map]; rfl))) B.all))) ?_) (fun _ => dss_one (ds_ret de_bl)) fun z => nomatch z
      · obtain ⟨i, rfl⟩ := numInt hn
        exact de_one (de_chain op_le op_lt de_int (DG.t (dg_var 2) rfl) (de_var 1))
      · rw [List.all_map]
        show (!ds.all fun y => isNum y && inR y n) = true
        rw [ha]; rfl
    | true =>
      have nums : ∀ j (hj : j < ds.length), ∃ i, ds[j] = .int i := fun j hj => by
        have z := List.all_eq_true.mp ha _ (List.getElem_mem hj)
        rw [Bool.and_eq_true] at z
        exact numInt z.1
      refine DSs.is (dss_if (b := false) (DT.is (dt_not (dt_val (de_all (bs := ds.map fun y => isNum y && inR y n) (DN.l (DN.is (dn_lcA [("place", 2)] (xs := ds) (enc := .g) (f := fun y => .bool (isNum y && inR y n)) (di_gen (db_var 0) (.tup ds))
        (fun y hy => ⟨_, _, by decide, fun s H C cl fp => ⟨dg_name 2, de_and (de_fn O hr (dr_g (dg_var 2) dr_nil) ⟨y, rfl, rfl⟩) fun hn => ?_⟩⟩) (by omega)) (by rw [List.map_map]; rfl))) B.all))) ?_) (fun z => nomatch z) fun _ => dss_one (ds_ret (de_all (bs := (List.range (ds.length - 1)).map fun k => ltD (ds.getD k .none) (ds.getD (k + 1) .none)) (DN.l (DN.is (dn_lcA [("k", 3)] (xs := List.range (ds.length - 1)) (enc := fun i => .t (.int (i : Nat))) (f := fun k => .bool (ltD (ds.getD k .none) (ds.getD (k + 1) .none))) (di_range (j := ((ds.length - 1 : Nat) : Int)) (DE.is (de_op op_sub opI0 (de_lenG (dg_var 0) (.tup ds) B.len) de_int) ?_) B.range)
        (fun j hj => ?_) ?_) ?_)) B.all))) ?_
      · obtain ⟨i, rfl⟩ := numInt hn
        exact de_one (de_chain op_le op_lt de_int (DG.t (dg_var 2) rfl) (de_var 1))
      · rw [List.all_map]
        show (!ds.all fun y => isNum y && inR y n) = false
        rw [ha]; rfl
      · congr 1; omega
      · have hj' := List.mem_range.mp hj
        have a1 : j < ds.length := by omega
        have a2 : j + 1 < ds.length := by omega
        obtain ⟨i1, e1⟩ := nums j a1
        obtain ⟨i2, e2⟩ := nums (j + 1) a2
        have g1 : ds[j]? = some (.int i1) := by rw [List.getElem?_eq_getElem a1, e1]
        have g2 : ds[j + 1]? = some (.int i2) := by rw [List.getElem?_eq_getElem a2, e2]
        refine ⟨_, _, by decide, fun s H C cl fp => ⟨dg_name 3, DE.is (de_cmp op_lt opB0 (DG.t (dg_ix (dg_var 0) (.tup ds) (de_var 3) (atI_nat g1)) rfl) (DG.t (dg_ix (dg_var 0) (.tup ds) (de_op op_add opI0 (de_var 3) de_int) (atI_nat (i := j + 1) g2)) rfl)) ?_⟩⟩
        rw [List.getD_eq_getElem?_getD, g1, List.getD_eq_getElem?_getD, g2]; rfl
      · rw [List.length_range]; omega
      · rw [List.map_map]; rfl
      · rw [List.all_map]
        have e : isLotM (.tuple ds) n = (List.range (ds.length - 1)).all fun k => ltD (ds.getD k .none) (ds.getD (k + 1) .none) := by simp [isLotM, ha, h0]
        rw [e]; rfl
end
end K54
set_option Elab.async false
set_option linter.all false
set_option autoImplicit false
set_option maxRecDepth 100000
set_option maxHeartbeats 1000000
/-! K54: defs of the program, 4: is_looks, behind_looks, camps -/
namespace K54
open PySem PySem.Spec PyProof.Rows L2
/-! ### what is valid -/
def VLot (n : Nat) (l : Lot) : Prop := l ≠ [] ∧ l.Pairwise (fun a b => ltN a b = true) ∧ ∀ x ∈ l, x < n
def VLooks (n : Nat) (L : Looks) : Prop := L.length = n ∧ ∀ l ∈ L, VLot n l
theorem asc_len {n : Nat} {l : Lot} (h1 : l.Pairwise (fun a b => ltN a b = true)) (h2 : ∀ x ∈ l, x < n) : l.length ≤ n := by
  have nd : l.Nodup := h1.imp fun h => lin_N.ne h
  have q := nat_nodup_len l (List.range n) nd fun x hx => List.mem_range.mpr (h2 x hx)
  rwa [List.length_range] at q
theorem VLot.len {n : Nat} {l : Lot} (h : VLot n l) : l.length ≤ n := asc_len h.2.1 h.2.2
theorem VLot.of {n : Nat} {l : Lot} (h1 : l ≠ []) (h2 : ∀ x ∈ l, x < n) : VLot n (canon ltN l) := by
  refine ⟨fun e => ?_, canon_sorted lin_N l, fun x hx => h2 x (mem_canon.mp hx)⟩
  cases l with
  | nil => exact h1 rfl
  | cons x l =>
    have z : x ∈ canon ltN (x :: l) := mem_canon.mpr List.mem_cons_self
    rw [e] at z
    cases z
theorem VLooks.at {n : Nat} {L : Looks} (h : VLooks n L) {p : Nat} (hp : p < n) : L[p]? = some (L.getD p []) ∧ VLot n (L.getD p []) := by
  have hl : p < L.length := by rw [h.1]; exact hp
  have e : L[p]? = some L[p] := List.getElem?_eq_getElem hl
  rw [List.getD_eq_getElem?_getD, e]
  exact ⟨rfl, h.2 _ (List.getElem_mem hl)⟩
theorem flat_len {n : Nat} : ∀ {ls : List Lot}, (∀ l ∈ ls, l.length ≤ n) → ls.flatten.length ≤ n * ls.length
  | [], _ => Nat.zero_le _
  | l :: ls, h => by
    have a := flat_len (ls := ls) fun x hx => h x (List.mem_cons_of_mem _ hx)
    have b := h l List.mem_cons_self
    rw [List.flatten_cons, List.length_append, List.length_cons, Nat.mul_succ]; omega
theorem behindV {n : Nat} {L M : Looks} (hL : VLooks n L) (hM : VLooks n M) : VLooks n (behindM L M) := by
  refine ⟨by unfold behindM; rw [List.length_map]; exact hM.1, fun l hl => ?_⟩
  obtain ⟨m, hm, rfl⟩ := List.mem_map.mp hl
  have vm := hM.2 m hm
  refine VLot.of (fun e => ?_) fun x hx => ?_
  · cases m with
    | nil => exact vm.1 rfl
    | cons p m =>
      have vp := (hL.at (vm.2.2 p List.mem_cons_self)).2
      rw [List.map_cons, List.flatten_cons] at e
      exact vp.1 (List.append_eq_nil_iff.mp e).1
  · obtain ⟨s, hs, hx⟩ := List.mem_flatten.mp hx
    obtain ⟨p, hp, rfl⟩ := List.mem_map.mp hs
    exact (hL.at (vm.2.2 p hp)).2.2.2 x hx
/-! ### such data is slim, of tuples only -/
theorem slims_map {α : Type} {f : α → PyData} : ∀ {xs : List α}, (∀ x ∈ xs, slim (f x) = true) → slims (xs.map f) = true
  | [], _ => rfl
  | x :: xs, h => by
    rw [List.map_cons, slims, h x List.mem_cons_self, slims_map fun y hy => h y (List.mem_cons_of_mem _ hy)]; rfl
theorem tonlys_map {α : Type} {f : α → PyData} : ∀ {xs : List α}, (∀ x ∈ xs, tonly (f x) = true) → tonlys (xs.map f) = true
  | [], _ => rfl
  | x :: xs, h => by
    rw [List.map_cons, tonlys, h x List.mem_cons_self, tonlys_map fun y hy => h y (List.mem_cons_of_mem _ hy)]; rfl
theorem slim_Lot {l : Lot} (h : l.length ≤ 1000) : slim (eLot l) = true := by
  unfold eLot
  rw [slim, List.length_map, decide_eq_true h, slims_map fun x _ => rfl]; rfl
theorem slim_Looks {L : Looks} (h : L.length ≤ 1000) (h2 : ∀ l ∈ L, l.length ≤ 1000) : slim (eLooks L) = true := by
  unfold eLooks
  rw [slim, List.length_map, decide_eq_true h, slims_map fun x hx => slim_Lot (h2 x hx)]; rfl
theorem tonly_Lot (l : Lot) : tonly (eLot l) = true := by unfold eLot; rw [tonly, tonlys_map fun x _ => rfl]
theorem tonly_Looks (L : Looks) : tonly (eLooks L) = true := by unfold eLooks; rw [tonly, tonlys_map fun x _ => tonly_Lot x]
theorem tonly_Camps (c : Camps) : tonly (eCamps c) = true := by unfold eCamps; rw [tonly, tonlys, tonlys, tonlys, tonly_Lot, tonly_Lot]; rfl
theorem VLooks.slim {n : Nat} {L : Looks} (h : VLooks n L) (hn : n ≤ 1000) : slim (eLooks L) = true := slim_Looks (by rw [h.1]; exact hn) fun l hl => Nat.le_trans (h.2 l hl).len hn
section
variable {P : Program} {w : World} {K : PySem.W.Frag} {mg : Str → Option Value} {base : Heap} {k : Nat}
theorem scS8 : FnScope ["thing", "n", "lot"] ["thing", "n"] (defScope (top 8)) := ⟨rfl, rfl, rfl, by decide +kernel, rfl, by decide +kernel, by decide +kernel⟩
def isLooksM (x : PyData) (n : Nat) : Bool := match x with
  | .tuple ds => decide (ds.length = n) && ds.all fun y => isLotM y n
  | _ => false
def rIsLooks (as : List Arg) (d : PyData) : Prop := ∃ x n, slim x = true ∧ as = [.g x, .t (eN n)] ∧ d = .bool (isLooksM x n)
theorem ok_isLooks (B : Blt mg) (D : DefAt K mg "is_looks" 8 ["thing", "n"]) (O1 : Ok P w K mg base "is_tuple_of" k ["thing", "many"] (spE K rTupOf)) (O2 : Ok P w K mg base "is_lot" k ["thing", "n"] (spE K rIsLot)) : Ok P w K mg base "is_looks" (k + 1) ["thing", "n"] (spE K rIsLooks) := by
  refine okE' D scS8 (fun as d h => by obtain ⟨x, n, _, rfl, _⟩ := h; rfl) fun nd f cdv A outer s H E hr as d h => ?_
  obtain ⟨x, n, h1, rfl, rfl⟩ := h
  cases hx : tupLen x n with
  | false =>
    refine DSs.is (dss_one (ds_ret (de_and (l := false) (de_fn O1 hr (dr_g (dg_var 0) (dr_t (de_var 1) dr_nil)) ⟨x, n, rfl, rfl⟩) fun z => by rw [hx] at z; cases z))) ?_
    rw [hx]
    have e : isLooksM x n = false := by
      cases x with
      | tuple ds =>
        have z : decide (ds.length = n) = false := hx
        simp only [isLooksM, z, Bool.false_and]
      | _ => rfl
    rw [e]; rfl
  | true =>
    obtain ⟨ds, rfl⟩ : ∃ ds, x = .tuple ds := by cases x <;> first | exact ⟨_, rfl⟩ | cases hx
    simp only [slim, Bool.and_eq_true, decide_eq_true_eq] at h1
    refine DSs.is (dss_one (ds_ret (de_and (de_fn O1 hr (dr_g (dg_var 0) (dr_t (de_var 1) dr_nil)) ⟨_, n, rfl, rfl⟩) fun _ => de_one (de_all (bs := ds.map fun y => isLotM y n) (DN.l (DN.is (dn_lcA [("lot", 2)] (xs := ds) (enc := .g) (f := fun y => .bool (isLotM y n)) (di_gen (db_var 0) (.tup ds))
      (fun y hy => ⟨_, _, by decide, fun s H C cl fp => ⟨dg_name 2, de_fn O2 hr (dr_g (dg_var 2) (dr_t (de_var 1) dr_nil)) ⟨y, n, slims_mem h1.2 y hy, rfl, rfl⟩⟩⟩) (by omega)) (by rw [List.map_map]; rfl))) B.all)))) ?_
    rw [List.all_map]; rfl
/-! ### behind_looks -/
theorem scS14 : FnScope ["looks", "others", "lot", "place"] ["looks", "others"] (defScope (top 14)) := ⟨rfl, rfl, rfl, by decide +kernel, rfl, by decide +kernel, by decide +kernel⟩
def rBehind (as : List Arg) (d : PyData) : Prop := ∃ (n : Nat) (L M : Looks), n ≤ 3 ∧ VLooks n L ∧ VLooks n M ∧ as = [.t (eLooks L), .t (eLooks M)] ∧ d = eLooks (behindM L M)
theorem ok_behind (B : Blt mg) (D : DefAt K mg "behind_looks" 14 ["looks", "others"]) (O1 : Ok P w K mg base "tuple_of" k ["thing"] (spE K (rTupled 2))) (O2 : Ok P w K mg base "joined" k ["lots"] (spE K rJoined)) : Ok P w K mg base "behind_looks" (k + 1) ["looks", "others"] (spE K rBehind) := by
  refine okE' D scS14 (fun as d h => by obtain ⟨n, L, M, _, _, _, rfl, _⟩ := h; rfl) fun nd f cdv A outer s H E hr as d h => ?_
  obtain ⟨n, L, M, hn, hL, hM, rfl, rfl⟩ := h
  refine DSs.is (dss_cons (ds_set 0 (d := eLooks L) (DE.is (de_fn O1 hr (dr_g (DE.g (de_var 0)) dr_nil) ⟨eLooks L, hL.slim (by omega), (nice_Looks L).2, rfl, rfl⟩) (tupled_t _ (tonly_Looks L)))) (dss_one (ds_ret (de_tupL (DN.l (dn_lcA [("lot", 2), ("place", 3)] (xs := M) (enc := fun l => .t (eLot l)) (f := fun lot => eLot (joinedM (lot.map fun p => L.getD p []))) (di_tup (de_var 1))
    (fun m hm => ⟨_, _, by decide, fun s H C cl fp => ⟨dg_name 2, de_fn O2 hr (dr_l (DN.l (dn_lcA [("place", 3)] (xs := m) (enc := fun p => .t (eN p)) (f := fun p => eLot (L.getD p [])) (di_tup (de_var 2))
      (fun p hp => ⟨_, _, by decide, fun s H C cl fp => ⟨dg_name 3, de_ixT (de_var 0) (de_var 3) (atI_nat (i := p) (xs := L.map eLot) ?_)⟩⟩) ?_)) dr_nil) ⟨m.map fun p => L.getD p [], ?_, ?_, ?_, rfl⟩⟩⟩) ?_)) B.tuple)))) ?_
  · rw [List.getElem?_map, (hL.at ((hM.2 m hm).2.2 p hp)).1]; rfl
  · have := (hM.2 m hm).len; omega
  · have a := flat_len (n := n) (ls := m.map fun p => L.getD p []) fun l hl => by
      obtain ⟨p, hp, rfl⟩ := List.mem_map.mp hl
      exact (hL.at ((hM.2 m hm).2.2 p hp)).2.len
    have b := (hM.2 m hm).len
    rw [List.length_map] at a
    have c : n * m.length ≤ 3 * 3 := Nat.mul_le_mul hn (by omega)
    omega
  · have := (hM.2 m hm).len
    rw [List.length_map]; omega
  · rw [List.map_map]; rfl
  · have := hM.1; omega
  · unfold eLooks behindM
    rw [List.map_map]; rfl
end
end K54
set_option Elab.async false
set_option linter.all false
set_option autoImplicit false
set_option maxRecDepth 100000
set_option maxHeartbeats 1000000
/-! K54: defs of the program, 5: camps -/
namespace K54
open PySem PySem.Spec PyProof.Rows L2
theorem lotsM_len (n : Nat) (h : n ≤ 3) : (lotsM n).length ≤ 7 ∧ ∀ l ∈ lotsM n, VLot n l := by
  refine ⟨Nat.le_trans (canon_len _) ?_, fun l hl => ?_⟩
  · rw [List.length_drop, lotsRaw_len]
    have := Nat.pow_le_pow_right (n := 2) (by decide) h
    omega
  · have hm := mem_canon.mp hl
    have key : ∀ n, n ≤ 3 → ∀ l ∈ (lotsRaw n).drop 1, l ≠ [] ∧ l.Pairwise (fun a b => ltN a b = true) ∧ ∀ x ∈ l, x < n := by
      intro n hn
      match n, hn with
      | 0, _ => decide
      | 1, _ => decide
      | 2, _ => decide
      | 3, _ => decide
    exact key n h l hm
theorem campsM_mem {n : Nat} (h : n ≤ 3) {c : Camps} (hc : c ∈ campsM n) : VLot n c.1 ∧ VLot n c.2 := by
  obtain ⟨p, hp, hc⟩ := List.mem_flatMap.mp hc
  obtain ⟨m, hm, rfl⟩ := List.mem_map.mp hc
  exact ⟨(lotsM_len n h).2 _ (memZip hp), (lotsM_len n h).2 _ (List.mem_of_mem_drop (List.mem_filter.mp hm).1)⟩
def eOpt : Option Camps → PyData
  | none => .none
  | some c => eCamps c
theorem lw_sub (L : Looks) (l : Lot) : ∀ x ∈ lw L l, x < L.length := fun x hx => by
  obtain ⟨p, hp, rfl⟩ := List.mem_map.mp hx
  have := (List.mem_filter.mp hp).1
  obtain ⟨i, hi, e⟩ := List.getElem_of_mem this
  rw [List.getElem_zipIdx] at e
  rw [← e]
  rw [List.length_zipIdx] at hi
  simpa using hi
theorem lw_len (L : Looks) (l : Lot) : (lw L l).length ≤ L.length := by
  unfold lw
  rw [List.length_map]
  exact Nat.le_trans (List.length_filter_le _ _) (by rw [List.length_zipIdx]; exact Nat.le_refl _)
theorem inOrd_mem (l m : Lot) : inOrd l m = (l, m) ∨ inOrd l m = (m, l) := by
  unfold inOrd
  split
  · exact .inl rfl
  · exact .inr rfl
section
variable {P : Program} {w : World} {K : PySem.W.Frag} {mg : Str → Option Value} {base : Heap} {k : Nat}
/-! ### all_camps -/
theorem scS17 : FnScope ["n", "lots", "k", "lot", "one"] ["n"] (defScope (top 17)) := ⟨rfl, rfl, rfl, by decide +kernel, rfl, by decide +kernel, by decide +kernel⟩
def rCamps (as : List Arg) (ds : List PyData) : Prop := ∃ n : Nat, n ≤ 3 ∧ as = [.t (eN n)] ∧ ds = (campsM n).map eCamps
theorem ok_camps (B : Blt mg) (D : DefAt K mg "all_camps" 17 ["n"]) (O1 : Ok P w K mg base "all_lots" k ["n"] (spN K rLots)) (O2 : Ok P w K mg base "_apart" k ["lot", "other"] (spE K rApart)) : Ok P w K mg base "all_camps" (k + 1) ["n"] (spN K rCamps) := by
  refine okN' D scS17 (fun as d h => by obtain ⟨n, _, rfl, _⟩ := h; rfl) fun nd f cdv A outer s H E hr as ds h => ?_
  obtain ⟨n, h1, rfl, rfl⟩ := h
  obtain ⟨l1, l2⟩ := lotsM_len n h1
  have e : (lotsM n).zipIdx.flatMap (whole (fun _ => true) (fun p => (lotsM n).drop (p.2 + 1)) (fun p m => apartM p.1 m) fun p m => eCamps (p.1, m)) = (campsM n).map eCamps := by
    unfold campsM
    rw [List.map_flatMap]
    refine congrArg (fun h => (lotsM n).zipIdx.flatMap h) (funext fun p => ?_)
    unfold whole
    rw [if_pos rfl, List.map_map]; rfl
  refine dss_cons (ds_setR 1 (dn_fn O1 hr (dr_t (de_var 0) dr_nil) ⟨n, h1, rfl, rfl⟩)) (dss_one (ds_retN (DN.is (dn_lc2 [("k", 2), ("lot", 3), ("one", 4)] [4] (xs := (lotsM n).zipIdx) (enc := fun p => .t (.tuple [.int (p.2 : Nat), eLot p.1])) (p1 := fun _ => true) (g := fun p => (lotsM n).drop (p.2 + 1)) (enc1 := fun m => .t (eLot m)) (p := fun p m => apartM p.1 m) (f := fun p m => eCamps (p.1, m)) (di_enV 1 B.enumerate)
    (fun x hx => ⟨_, _, by decide, fun s H C cl fp => ⟨dg_tup (dgs_cons (dg_name 2) (dgs_cons (dg_name 3) dgs_nil)), dts_nil, fun _ => di_new (DN.is (dn_slFrom (x.2 + 1) (dl_var 1) (de_op op_add opI0 (de_var 2) de_int)) ?_)⟩, fun y hy => ⟨_, _, by decide, fun s H C cl fp => ⟨dg_name 4, dts_one (dt_val (de_fn O2 hr (dr_t (de_var 3) (dr_t (de_var 4) dr_nil)) ⟨x.1, y, ?_, rfl, rfl⟩)), fun _ => de_tup (du_cons (de_var 3) (du_cons (de_var 4) du_nil))⟩⟩⟩) ?_) e)))
  · rw [List.map_drop]
  · have := (l2 _ (memZip hx)).len; omega
  · rw [e, List.length_map]
    have key : ∀ n, n ≤ 3 → (campsM n).length ≤ 1000 := by
      intro n hn
      match n, hn with
      | 0, _ => decide
      | 1, _ => decide
      | 2, _ => decide
      | 3, _ => decide
    have := key n h1; omega
/-! ### in_order -/
theorem scS18 : FnScope ["lot", "one"] ["lot", "one"] (defScope (top 18)) := ⟨rfl, rfl, rfl, by decide +kernel, rfl, by decide +kernel, by decide +kernel⟩
def rInOrd (as : List Arg) (d : PyData) : Prop := ∃ l m : Lot, as = [.t (eLot l), .t (eLot m)] ∧ d = eCamps (inOrd l m)
theorem ok_inOrd (D : DefAt K mg "in_order" 18 ["lot", "one"]) : Ok P w K mg base "in_order" (k + 1) ["lot", "one"] (spE K rInOrd) := by
  refine okE' D scS18 (fun as d h => by obtain ⟨l, m, rfl, _⟩ := h; rfl) fun nd f cdv A outer s H E hr as d h => ?_
  obtain ⟨l, m, rfl, rfl⟩ := h
  exact dss_one (ds_ret (de_if (k := ltLot l m) (dt_cmp (op_ltT hr.units0) opLtT (de_var 0) (de_var 1)) (fun z => DE.is (de_tup (du_cons (de_var 0) (du_cons (de_var 1) du_nil))) (by unfold inOrd; rw [if_pos z]; rfl)) (fun z => DE.is (de_tup (du_cons (de_var 1) (du_cons (de_var 0) du_nil))) (by unfold inOrd; rw [if_neg (by rw [z]; exact Bool.false_ne_true)]; rfl))))
/-! ### are_within -/
theorem scS20 : FnScope ["camps", "other", "near", "far", "low", "high"] ["camps", "other"] (defScope (top 20)) := ⟨rfl, rfl, rfl, by decide +kernel, rfl, by decide +kernel, by decide +kernel⟩
def rAreW (as : List Arg) (d : PyData) : Prop := ∃ c e : Camps, c.1.length ≤ 1000 ∧ c.2.length ≤ 1000 ∧ as = [.t (eCamps c), .t (eCamps e)] ∧ d = .bool (areW c e)
theorem ok_areW (D : DefAt K mg "are_within" 20 ["camps", "other"]) (O : Ok P w K mg base "_within" k ["lot", "other"] (spE K rWithin)) : Ok P w K mg base "are_within" (k + 1) ["camps", "other"] (spE K rAreW) := by
  refine okE' D scS20 (fun as d h => by obtain ⟨l, m, _, _, rfl, _⟩ := h; rfl) fun nd f cdv A outer s H E hr as d h => ?_
  obtain ⟨c, e, h1, h2, rfl, rfl⟩ := h
  refine dss_cons (ds_asg (d := .tuple [eCamps c, eCamps e]) (de_tup (du_cons (de_var 0) (du_cons (de_var 1) du_nil))) (dg_tup (dgs_cons (dg_tup (dgs_cons (dg_name 2) (dgs_cons (dg_name 3) dgs_nil))) (dgs_cons (dg_tup (dgs_cons (dg_name 4) (dgs_cons (dg_name 5) dgs_nil))) dgs_nil)))) (dss_one (ds_ret (DE.is (de_or (k := within c.1 e.1 && within c.2 e.2) (l := within c.1 e.2 && within c.2 e.1)
    (de_and (k := within c.1 e.1) (l := within c.2 e.2) (de_fn O hr (dr_t (de_var 2) (dr_t (de_var 4) dr_nil)) ⟨c.1, e.1, h1, rfl, rfl⟩) fun _ => de_one (de_fn O hr (dr_t (de_var 3) (dr_t (de_var 5) dr_nil)) ⟨c.2, e.2, h2, rfl, rfl⟩))
    (fun _ => de_one (de_and (k := within c.1 e.2) (l := within c.2 e.1) (de_fn O hr (dr_t (de_var 2) (dr_t (de_var 5) dr_nil)) ⟨c.1, e.2, h1, rfl, rfl⟩) fun _ => de_one (de_fn O hr (dr_t (de_var 3) (dr_t (de_var 4) dr_nil)) ⟨c.2, e.1, h2, rfl, rfl⟩)))) rfl)))
/-! ### greatest_camps -/
theorem scS21 : FnScope ["some", "own", "camps", "one"] ["some"] (defScope (top 21)) := ⟨rfl, rfl, rfl, by decide +kernel, rfl, by decide +kernel, by decide +kernel⟩
def CSmall (c : Camps) : Prop := c.1.length ≤ 1000 ∧ c.2.length ≤ 1000
def rGreat (as : List Arg) (d : PyData) : Prop := ∃ cs : List Camps, cs.length < 64 ∧ (∀ c ∈ cs, CSmall c) ∧ as = [.l (cs.map eCamps)] ∧ d = .tuple ((great cs).map eCamps)
theorem slim_Camps {c : Camps} (h : CSmall c) : slim (eCamps c) = true := by
  unfold eCamps
  rw [slim, slims, slims, slims, slim_Lot h.1, slim_Lot h.2]; rfl
theorem depthAll_le {α : Type} {f : α → PyData} {m : Nat} (h : ∀ x, (f x).depth ≤ m) : ∀ xs : List α, PyData.depthAll (xs.map f) ≤ m
  | [] => by simp [PyData.depthAll]
  | x :: xs => by
    have := depthAll_le h xs
    have := h x
    simp only [List.map_cons, PyData.depthAll]; omega
theorem ok_great (B : Blt mg) (D : DefAt K mg "greatest_camps" 21 ["some"]) (O1 : Ok P w K mg base "tuple_of" k ["thing"] (spE K (rTupled 3))) (O2 : Ok P w K mg base "are_within" k ["camps", "other"] (spE K rAreW)) : Ok P w K mg base "greatest_camps" (k + 1) ["some"] (spE K rGreat) := by
  refine okE' D scS21 (fun as d h => by obtain ⟨l, _, _, rfl, _⟩ := h; rfl) fun nd f cdv A outer s H E hr as d h => ?_
  obtain ⟨cs, h1, h2, rfl, rfl⟩ := h
  have sm : ∀ c ∈ canon ltCamps cs, CSmall c := fun c hc => h2 c (mem_canon.mp hc)
  have le := canon_len (lt := ltCamps) cs
  refine DSs.is (dss_cons (ds_setR 1 (ds := (canon ltCamps cs).map eCamps) (dn_sortSet kCamps (xs := cs) (DE.q (DE.is (de_fn O1 hr (dr_g (DL.g (dl_var 0)) dr_nil) ⟨.list (cs.map eCamps), ?_, ?_, rfl, rfl⟩) ?_)) (fun c _ => ⟨_, _, rfl⟩) (by decide) h1 hr.units B.sorted B.set)) (dss_one (ds_ret (de_tupL (DN.l (dn_lc [("camps", 2)] (xs := canon ltCamps cs) (enc := fun c => .t (eCamps c)) (p := fun c => !(canon ltCamps cs).any fun o => decide (o ≠ c) && areW c o) (f := eCamps) (di_var 1)
    (fun c hc => ⟨_, _, by decide, fun s H C cl fp => ⟨dg_name 2, dts_one (DT.is (dt_not (dt_val (de_any (bs := (canon ltCamps cs).map fun o => decide (o ≠ c) && areW c o) (DN.l (DN.is (dn_lcA [("one", 3)] (xs := canon ltCamps cs) (enc := fun c => .t (eCamps c)) (f := fun o => .bool (decide (o ≠ c) && areW c o)) (di_var 1)
      (fun o ho => ⟨_, _, by decide, fun s H C cl fp => ⟨dg_name 3, de_and (k := decide (o ≠ c)) (l := areW c o) (DE.is (dg_cmp (op_neD hr.units) (opNeD ((nice_Camps o).shaped (by decide)) ((nice_Camps c).shaped (by decide))) (DE.g (de_var 3)) (DE.g (de_var 2))) ?_) fun _ => de_one (de_fn O2 hr (dr_t (de_var 2) (dr_t (de_var 3) dr_nil)) ⟨c, o, (sm c hc).1, (sm c hc).2, rfl, rfl⟩)⟩⟩) ?_) ?_)) B.any))) ?_), fun _ => de_var 2⟩⟩) ?_)) B.tuple)))) rfl
  · rw [slim, List.length_map, slims_map fun c hc => slim_Camps (h2 c hc), decide_eq_true (by omega)]; rfl
  · simp only [PyData.depth]
    have := depthAll_le (f := eCamps) (m := 2) (fun c => (nice_Camps c).2) cs
    omega
  · rw [tupled, tupleds_t _ (tonlys_map fun c _ => tonly_Camps c)]; rfl
  · rw [eqv_Camps]; simp
  · omega
  · rw [List.map_map]; rfl
  · rw [List.any_map]; rfl
  · omega
/-! ### led -/
theorem scS22 : FnScope ["looks", "camps", "lot", "one"] ["looks", "camps"] (defScope (top 22)) := ⟨rfl, rfl, rfl, by decide +kernel, rfl, by decide +kernel, by decide +kernel⟩
def rLed (as : List Arg) (d : PyData) : Prop := ∃ (L : Looks) (c : Camps), L.length ≤ 1000 ∧ (∀ m ∈ L, m.length ≤ 1000) ∧ as = [.t (eLooks L), .t (eCamps c)] ∧ d = eOpt (ledM L c)
theorem eqv_nil (l : Lot) : PyData.eqv (eLot l) (.tuple []) = decide (l = []) := eqv_Lot l []
theorem ok_led (D : DefAt K mg "led" 22 ["looks", "camps"]) (O1 : Ok P w K mg base "lookers_within" k ["looks", "lot"] (spE K rLw)) (O2 : Ok P w K mg base "in_order" k ["lot", "one"] (spE K rInOrd)) : Ok P w K mg base "led" (k + 1) ["looks", "camps"] (spE K rLed) := by
  refine okE' D scS22 (fun as d h => by obtain ⟨l, m, _, _, rfl, _⟩ := h; rfl) fun nd f cdv A outer s H E hr as d h => ?_
  obtain ⟨L, c, h1, h2, rfl, rfl⟩ := h
  refine dss_cons (ds_par 2 3 (x := eLot (lw L c.1)) (y := eLot (lw L c.2)) (de_fn O1 hr (dr_t (de_var 0) (dr_t (de_ixT (de_var 1) de_int rfl) dr_nil)) ⟨L, c.1, h1, h2, rfl, rfl⟩) (de_fn O1 hr (dr_t (de_var 0) (dr_t (de_ixT (de_var 1) de_int rfl) dr_nil)) ⟨L, c.2, h1, h2, rfl, rfl⟩)) (dss_one (ds_ret (de_if (k := decide (lw L c.1 = []) || decide (lw L c.2 = []))
    (PW.pt (dw_or (k := decide (lw L c.1 = [])) (l := decide (lw L c.2 = [])) (dtg_cmp (op_eqD hr.units) (by rw [← eqv_nil]; exact opEqD ((nice_Lot _).shaped (by decide)) rfl) (DE.g (de_var 2)) (DE.g (de_tup du_nil))) fun _ => dw_or1 (dtg_cmp (op_eqD hr.units) (by rw [← eqv_nil]; exact opEqD ((nice_Lot _).shaped (by decide)) rfl) (DE.g (de_var 3)) (DE.g (de_tup du_nil))))) (fun z => DE.is de_non ?_) fun z => DE.is (de_fn O2 hr (dr_t (de_var 2) (dr_t (de_var 3) dr_nil)) ⟨lw L c.1, lw L c.2, rfl, rfl⟩) ?_)))
  · have z' : lw L c.1 = [] ∨ lw L c.2 = [] := by simpa using z
    unfold ledM
    rw [if_pos z']; rfl
  · have z' : ¬ (lw L c.1 = [] ∨ lw L c.2 = []) := by simpa using z
    unfold ledM
    rw [if_neg z']; rfl
end
end K54
set_option Elab.async false
set_option linter.all false
set_option autoImplicit false
set_option maxRecDepth 100000
set_option maxHeartbeats 1000000
/-! K54: defs of the program, 6: tables -/
namespace K54
open PySem PySem.Spec PyProof.Rows L2
abbrev Row := Camps × List Camps
abbrev Tab := List Row
def eCs (cs : List Camps) : PyData := .tuple (cs.map eCamps)
def eRow (r : Row) : PyData := .tuple [eCamps r.1, eCs r.2]
def eTab (t : Tab) : PyData := .tuple (t.map eRow)
def tellM (c g : Camps) (n : Nat) : Looks := (List.range n).map fun p => if p ∈ c.1 then g.1 else if p ∈ c.2 then g.2 else List.range n
theorem filterSome {α β : Type} (f : α → Option β) (e : Option β → PyData) (g : β → PyData) (h : ∀ b, e (some b) = g b) : ∀ xs : List α, (xs.filter fun x => (f x).isSome).map (fun x => e (f x)) = (xs.filterMap f).map g
  | [] => rfl
  | x :: xs => by
    have ih := filterSome f e g h xs
    cases hx : f x with
    | none => rw [List.filter_cons_of_neg (by rw [hx]; simp), List.filterMap_cons, hx]; exact ih
    | some b => rw [List.filter_cons_of_pos (by rw [hx]; rfl), List.filterMap_cons, hx, List.map_cons, List.map_cons, ih, hx, h]
section
variable {P : Program} {w : World} {K : PySem.W.Frag} {mg : Str → Option Value} {base : Heap} {k : Nat}
/-! ### count_in -/
theorem scS24 : FnScope ["piece"] ["piece"] (defScope (top 24)) := ⟨rfl, rfl, rfl, by decide +kernel, rfl, by decide +kernel, by decide +kernel⟩
def rCount (as : List Arg) (d : PyData) : Prop := ∃ x x1 x2 x3 xs xs1 xs2 xs3, IsSq x xs ∧ xs[0]? = some x1 ∧ IsSq x1 xs1 ∧ xs1[0]? = some x2 ∧ IsSq x2 xs2 ∧ xs2[0]? = some x3 ∧ IsSq x3 xs3 ∧ as = [.g x] ∧ d = eN xs3.length
theorem ok_count (B : Blt mg) (D : DefAt K mg "count_in" 24 ["piece"]) : Ok P w K mg base "count_in" (k + 1) ["piece"] (spE K rCount) := by
  refine okE' D scS24 (fun as d h => by obtain ⟨_, _, _, _, _, _, _, _, _, _, _, _, _, _, _, rfl, _⟩ := h; rfl) fun nd f cdv A outer s H E hr as d h => ?_
  obtain ⟨x, x1, x2, x3, xs, xs1, xs2, xs3, h0, g0, h1, g1, h2, g2, h3, rfl, rfl⟩ := h
  exact dss_one (ds_ret (de_lenG (dg_ix (dg_ix (dg_ix (dg_var 0) h0 de_int (atI_nat (i := 0) g0)) h1 de_int (atI_nat (i := 0) g1)) h2 de_int (atI_nat (i := 0) g2)) h3 B.len))
/-! ### telling_looks -/
theorem scS30 : FnScope ["camps", "goal", "n", "found", "place"] ["camps", "goal", "n"] (defScope (top 30)) := ⟨rfl, rfl, rfl, by decide +kernel, rfl, by decide +kernel, by decide +kernel⟩
def rTell (as : List Arg) (d : PyData) : Prop := ∃ (c g : Camps) (n : Nat), n ≤ 1000 ∧ as = [.t (eCamps c), .t (eCamps g), .t (eN n)] ∧ d = eLooks (tellM c g n)
theorem ok_tell (B : Blt mg) (D : DefAt K mg "telling_looks" 30 ["camps", "goal", "n"]) : Ok P w K mg base "telling_looks" (k + 1) ["camps", "goal", "n"] (spE K rTell) := by
  refine okE' D scS30 (fun as d h => by obtain ⟨_, _, _, _, rfl, _⟩ := h; rfl) fun nd f cdv A outer s H E hr as d h => ?_
  obtain ⟨c, g, n, h1, rfl, rfl⟩ := h
  refine DSs.is (dss_cons (ds_setO 3 (ds := []) (dn_lst du_nil)) (dss_cons (ds_for (fun i => [.dat (eCamps c), .dat (eCamps g), .dat (eN n), .own (.lst (((tellM c g n).take i).map eLot)), .un]) (xs := List.range n) (enc := fun i => .t (.int (i : Nat))) (di_range (j := n) (de_var 2) B.range) ?_ fun i x hx => ?_) (dss_one (ds_ret (de_tupL (do_var 3) B.tuple))))) ?_
  · exact .cons (.eq _) (.cons (.eq _) (.cons (.eq _) (.cons (.eq _) (.cons (.un _) .nil))))
  · obtain ⟨hl, ex⟩ := List.getElem?_eq_some_iff.mp hx
    rw [List.getElem_range] at ex
    subst ex
    rw [List.length_range] at hl
    have tl : (tellM c g n).length = n := by unfold tellM; rw [List.length_map, List.length_range]
    have ti : (tellM c g n)[i]? = some (if i ∈ c.1 then g.1 else if i ∈ c.2 then g.2 else List.range n) := by
      unfold tellM
      rw [List.getElem?_map, List.getElem?_range hl]; rfl
    have up : ((tellM c g n).take (i + 1)).map eLot = ((tellM c g n).take i).map eLot ++ [eLot (if i ∈ c.1 then g.1 else if i ∈ c.2 then g.2 else List.range n)] := by
      rw [take_succ_of ti, List.map_append]; rfl
    have lz : (((tellM c g n).take i).map eLot).length ≤ 100000 := by
      rw [List.length_map, List.length_take, tl]; omega
    refine ⟨_, _, dg_name 4, DSs.wk2 (dss_one (ds_if (b := decide (i ∈ c.1)) (dt_cmp op_in_seq opIn (de_var 4) (de_ixT (de_var 0) de_int rfl)) (fun z => dss_one (ds_app 3 (d := eLot (if i ∈ c.1 then g.1 else if i ∈ c.2 then g.2 else List.range n)) (DE.is (de_ixT (de_var 1) de_int rfl) ?_) lz)) fun z => dss_one (ds_app 3 (d := eLot (if i ∈ c.1 then g.1 else if i ∈ c.2 then g.2 else List.range n)) (de_if (k := decide (i ∈ c.2)) (dt_cmp op_in_seq opIn (de_var 4) (de_ixT (de_var 0) de_int rfl)) (fun z2 => DE.is (de_ixT (de_var 1) de_int rfl) ?_) fun z2 => DE.is (de_tupRg (de_var 2) h1 B.tuple B.range) ?_) lz))) ?_⟩
    · rw [if_pos (of_decide_eq_true z)]
    · rw [if_neg (of_decide_eq_false z), if_pos (of_decide_eq_true z2)]
    · rw [if_neg (of_decide_eq_false z), if_neg (of_decide_eq_false z2)]
    · refine .cons (.eq _) (.cons (.eq _) (.cons (.eq _) (.cons ?_ (.cons (.un _) .nil))))
      rw [up]
      exact .eq _
  · have tl : (tellM c g n).length = (List.range n).length := by unfold tellM; rw [List.length_map]
    rw [← tl, List.take_length]; rfl
/-! ### table_of_looks -/
theorem scS26 : FnScope ["looks", "own", "found", "camps", "behind", "seen", "near"] ["looks"] (defScope (top 26)) := ⟨rfl, rfl, rfl, by decide +kernel, rfl, by decide +kernel, by decide +kernel⟩
def eRows (Ls : List Looks) : PyData := .tuple (Ls.map eLooks)
def rTable (as : List Arg) (d : PyData) : Prop := ∃ (Ls : List Looks) (n : Nat), n ≤ 3 ∧ Ls ≠ [] ∧ Ls.length < 64 ∧ (∀ L ∈ Ls, VLooks n L) ∧ as = [.t (eRows Ls)] ∧ d = eTab (tableM Ls n)
theorem ledSmall {n : Nat} {L : Looks} (h : VLooks n L) {c d : Camps} (e : ledM L c = some d) : d.1.length ≤ n ∧ d.2.length ≤ n := by
  unfold ledM at e
  split at e
  · cases e
  · have e' := Option.some.inj e
    have a1 := lw_len L c.1
    have a2 := lw_len L c.2
    rw [h.1] at a1 a2
    rcases inOrd_mem (lw L c.1) (lw L c.2) with z | z <;> (rw [z] at e'; rw [← e']; exact ⟨by assumption, by assumption⟩)
theorem depth_Rows (Ls : List Looks) : (eRows Ls).depth ≤ 3 := by
  unfold eRows
  simp only [PyData.depth]
  have := depthAll_le (f := eLooks) (m := 2) (fun c => (nice_Looks c).2) Ls
  omega
theorem ok_table (B : Blt mg) (D : DefAt K mg "table_of_looks" 26 ["looks"]) (O1 : Ok P w K mg base "tuple_of" k ["thing"] (spE K (rTupled 3))) (O2 : Ok P w K mg base "all_camps" k ["n"] (spN K rCamps)) (O3 : Ok P w K mg base "led" k ["looks", "camps"] (spE K rLed)) (O4 : Ok P w K mg base "greatest_camps" k ["some"] (spE K rGreat)) : Ok P w K mg base "table_of_looks" (k + 1) ["looks"] (spE K rTable) := by
  refine okE' D scS26 (fun as d h => by obtain ⟨_, _, _, _, _, _, rfl, _⟩ := h; rfl) fun nd f cdv A outer s H E hr as d h => ?_
  obtain ⟨Ls, n, h1, h2, h3, h4, rfl, rfl⟩ := h
  have sl : slim (eRows Ls) = true := by
    unfold eRows
    rw [slim, List.length_map, slims_map fun L hL => (h4 L hL).slim (by omega), decide_eq_true (by omega)]; rfl
  have tn : tupled (eRows Ls) = eRows Ls := tupled_t _ (by unfold eRows; rw [tonly, tonlys_map fun L _ => tonly_Looks L])
  obtain ⟨L0, Lr, e0⟩ : ∃ L0 Lr, Ls = L0 :: Lr := by
    cases Ls with
    | nil => exact absurd rfl h2
    | cons x l => exact ⟨x, l, rfl⟩
  have hL0 : L0.length = n := (h4 L0 (by rw [e0]; exact List.mem_cons_self)).1
  have c1000 : (campsM n).length ≤ 1000 := by
    match n, h1 with
    | 0, _ => decide
    | 1, _ => decide
    | 2, _ => decide
    | 3, _ => decide
  refine DSs.is (dss_cons (ds_parO 1 2 (x := eRows Ls) (ds := []) (DE.is (de_fn O1 hr (dr_g (DE.g (de_var 0)) dr_nil) ⟨eRows Ls, sl, depth_Rows Ls, rfl, rfl⟩) tn) (dn_lst du_nil)) (dss_cons (ds_for (fun i => [.dat (eRows Ls), .dat (eRows Ls), .own (.lst (((tableM Ls n).take i).map eRow)), .un, .un, .un, .un]) (xs := campsM n) (enc := fun c => .t (eCamps c)) (di_new (dn_fn O2 hr (dr_t (DE.is (de_lenT (ds := L0.map eLot) (de_ixT (ds := Ls.map eLooks) (de_var 1) de_int (atI_nat (i := 0) (by rw [e0]; rfl))) B.len) (by rw [List.length_map, hL0]; rfl)) dr_nil) ⟨n, h1, rfl, rfl⟩)) ?_ fun i c hc => ?_) (dss_one (ds_ret (de_tupL (do_var 2) B.tuple))))) ?_
  · exact .cons (.eq _) (.cons (.eq _) (.cons (.eq _) (.cons (.un _) (.cons (.un _) (.cons (.un _) (.cons (.un _) .nil))))))
  · have ti : (tableM Ls n)[i]? = some (c, great (Ls.filterMap fun L => ledM L c)) := by
      unfold tableM
      rw [List.getElem?_map, hc]; rfl
    have lz : (((tableM Ls n).take i).map eRow).length ≤ 100000 := by
      have tl : (tableM Ls n).length = (campsM n).length := by unfold tableM; rw [List.length_map]
      rw [List.length_map, List.length_take, tl]; omega
    refine ⟨_, _, dg_name 3, DSs.wk2 (dss_cons (ds_lcR 4 [("seen", 5)] (xs := Ls) (enc := fun L => .t (eLooks L)) (p := fun _ => true) (f := fun L => eOpt (ledM L c)) (di_tup (de_var 1)) (fun L hL => ⟨_, _, by decide, fun s H C cl fp => ⟨dg_name 5, dts_nil, fun _ => de_fn O3 hr (dr_t (de_var 5) (dr_t (de_var 3) dr_nil)) ⟨L, c, ?_, ?_, rfl, rfl⟩⟩⟩) (by omega)) (dss_one (ds_app 2 (d := eRow (c, great (Ls.filterMap fun L => ledM L c))) (de_tup (du_cons (de_var 3) (du_cons (de_fn O4 hr (dr_l (DN.l (DN.is (dn_lc [("near", 6)] (xs := Ls) (enc := fun L => .t (eOpt (ledM L c))) (p := fun L => (ledM L c).isSome) (f := fun L => eOpt (ledM L c)) (di_var 4 (hc := ?_)) (fun L hL => ⟨_, _, by decide, fun s H C cl fp => ⟨dg_name 6, dts_one (DT.is (dt_notN (DE.g (de_var 6))) ?_), fun _ => de_var 6⟩⟩) (by omega)) (filterSome (fun L => ledM L c) eOpt eCamps (fun _ => rfl) Ls))) dr_nil) ⟨Ls.filterMap fun L => ledM L c, ?_, ?_, rfl, rfl⟩) du_nil))) lz))) ?_⟩
    · rw [(h4 L hL).1]; omega
    · exact fun m hm => Nat.le_trans ((h4 L hL).2 m hm).len (by omega)
    · show some (Cell.rdl ((Ls.filter fun _ => true).map fun L => eOpt (ledM L c))) = _
      rw [fAll]
    · show (!isNn (eOpt (ledM L c))) = (ledM L c).isSome
      cases ledM L c <;> rfl
    · exact Nat.lt_of_le_of_lt (List.length_filterMap_le _ _) h3
    · intro x hx
      obtain ⟨L, hL, e⟩ := List.mem_filterMap.mp hx
      have z := ledSmall (h4 L hL) e
      exact ⟨by omega, by omega⟩
    · refine .cons (.eq _) (.cons (.eq _) (.cons ?_ (.cons (.un _) (.cons (.un _) (.cons (.un _) (.cons (.un _) .nil))))))
      rw [take_succ_of ti, List.map_append]
      exact .eq _
  · have tl : (tableM Ls n).length = (campsM n).length := by unfold tableM; rw [List.length_map]
    rw [← tl, List.take_length]; rfl
end
end K54
set_option Elab.async false
set_option linter.all false
set_option autoImplicit false
set_option maxRecDepth 100000
set_option maxHeartbeats 1000000
/-! K54: defs of the program, 7: keeps_round -/
namespace K54
open PySem PySem.Spec PyProof.Rows L2
def kOk (L : Looks) (S : List Camps) (r : Row) : Bool := memK r.1 S && r.2.any fun g => inO S (ledM L g)
def kStep (t : Tab) (L : Looks) (S : List Camps) : List Camps := (t.filter (kOk L S)).map (·.1)
def kSeq (t : Tab) (L : Looks) : Nat → List Camps
  | 0 => t.map (·.1)
  | i + 1 => kStep t L (kSeq t L i)
def keepsM (t : Tab) (L : Looks) : Bool := decide (kSeq t L (t.length + 1) ≠ [])
def manyV (t : Tab) (L : Looks) : Nat → Int
  | 0 => (t.length : Int) + 1
  | j + 1 => ((kSeq t L j).length : Int)
theorem kOk_mono {L : Looks} {S T : List Camps} (h : ∀ c ∈ S, c ∈ T) {r : Row} (hr : kOk L S r = true) : kOk L T r = true := by
  unfold kOk at hr ⊢
  rw [Bool.and_eq_true, memK_iff, List.any_eq_true] at hr ⊢
  obtain ⟨h1, g, hg, h2⟩ := hr
  refine ⟨h _ h1, g, hg, ?_⟩
  cases hl : ledM L g with
  | none => rw [hl] at h2; exact h2
  | some c =>
    rw [hl] at h2
    exact memK_iff.mpr (h c (memK_iff.mp h2))
theorem filter_sub {α : Type} {p q : α → Bool} (h : ∀ x, p x = true → q x = true) : ∀ xs : List α, List.Sublist (xs.filter p) (xs.filter q)
  | [] => List.Sublist.slnil
  | x :: xs => by
    have ih := filter_sub h xs
    cases hp : p x with
    | true => rw [List.filter_cons_of_pos hp, List.filter_cons_of_pos (h x hp)]; exact ih.cons₂ x
    | false =>
      rw [List.filter_cons_of_neg (by rw [hp]; simp)]
      cases hq : q x with
      | true => rw [List.filter_cons_of_pos hq]; exact ih.cons x
      | false => rw [List.filter_cons_of_neg (by rw [hq]; simp)]; exact ih
theorem kSeq_sub (t : Tab) (L : Looks) : ∀ i, List.Sublist (kSeq t L (i + 1)) (kSeq t L i)
  | 0 => (List.filter_sublist).map _
  | i + 1 => by
    have ih := kSeq_sub t L i
    exact (filter_sub (fun r hr => kOk_mono (fun c hc => ih.subset hc) hr) t).map _
theorem kSeq_len (t : Tab) (L : Looks) (i : Nat) : (kSeq t L (i + 1)).length ≤ (kSeq t L i).length := (kSeq_sub t L i).length_le
theorem kSeq_le (t : Tab) (L : Looks) : ∀ i, (kSeq t L i).length ≤ t.length
  | 0 => by show (t.map _).length ≤ _; rw [List.length_map]; exact Nat.le_refl _
  | i + 1 => Nat.le_trans (kSeq_len t L i) (kSeq_le t L i)
theorem kSeq_fix {t : Tab} {L : Looks} {m : Nat} (h : (kSeq t L (m + 1)).length = (kSeq t L m).length) : ∀ j, kSeq t L (m + j) = kSeq t L m
  | 0 => rfl
  | j + 1 => by
    show kStep t L (kSeq t L (m + j)) = _
    rw [kSeq_fix h j]
    exact (kSeq_sub t L m).eq_of_length h
/-- the turn at which the sizes agree -/
theorem kSeq_stop (t : Tab) (L : Looks) : ∃ m, m ≤ t.length ∧ (kSeq t L (m + 1)).length = (kSeq t L m).length ∧ ∀ i, i < m → (kSeq t L (i + 1)).length < (kSeq t L i).length := by
  have ex : ∃ m, m ≤ t.length ∧ ¬ (kSeq t L (m + 1)).length < (kSeq t L m).length := by
    rcases Classical.em (∃ m, m ≤ t.length ∧ ¬ (kSeq t L (m + 1)).length < (kSeq t L m).length) with h | h
    · exact h
    · exfalso
      have all : ∀ m, m ≤ t.length → (kSeq t L (m + 1)).length < (kSeq t L m).length := fun m hm => Classical.byContradiction fun z => h ⟨m, hm, z⟩
      have dec : ∀ m, m ≤ t.length + 1 → (kSeq t L m).length + m ≤ t.length := by
        intro m
        induction m with
        | zero => intro _; exact kSeq_le t L 0
        | succ m ih =>
          intro hm
          have := ih (by omega)
          have := all m (by omega)
          omega
      have := dec (t.length + 1) (Nat.le_refl _)
      omega
  obtain ⟨m0, h0, h1⟩ := ex
  obtain ⟨m, hm, hp, hl⟩ := st_least (p := fun m => ¬ (kSeq t L (m + 1)).length < (kSeq t L m).length) m0 h1
  exact ⟨m, Nat.le_trans hm h0, Nat.le_antisymm (kSeq_len t L m) (by omega), fun i hi => Classical.byContradiction (hl i hi)⟩
theorem addK_new {α : Type} [DecidableEq α] {cs : List α} {z : α} (h : z ∉ cs) : addK cs z = cs ++ [z] := by unfold addK; rw [if_neg h]
section
variable {P : Program} {w : World} {K : PySem.W.Frag} {mg : Str → Option Value} {base : Heap} {k : Nat}
theorem scS29 : FnScope ["table", "looks", "left", "many", "kept", "camps", "greatest", "_", "near"] ["table", "looks"] (defScope (top 29)) := ⟨rfl, rfl, rfl, by decide +kernel, rfl, by decide +kernel, by decide +kernel⟩
def rKeeps (as : List Arg) (d : PyData) : Prop := ∃ (t : Tab) (L : Looks), t.length ≤ 900 ∧ (t.map (·.1)).Nodup ∧ (∀ r ∈ t, r.2.length ≤ 900) ∧ L.length ≤ 1000 ∧ (∀ m ∈ L, m.length ≤ 1000) ∧ as = [.t (eTab t), .t (eLooks L)] ∧ d = .bool (keepsM t L)
theorem campsTup : ∀ c : Camps, ∃ ds, kCamps.enc c = .tuple ds := fun c => ⟨_, rfl⟩
theorem ok_keeps (B : Blt mg) (D : DefAt K mg "keeps_round" 29 ["table", "looks"]) (O : Ok P w K mg base "led" k ["looks", "camps"] (spE K rLed)) : Ok P w K mg base "keeps_round" (k + 1) ["table", "looks"] (spE K rKeeps) := by
  refine okE' D scS29 (fun as d h => by obtain ⟨_, _, _, _, _, _, _, rfl, _⟩ := h; rfl) fun nd f cdv A outer s H E hr as d h => ?_
  obtain ⟨t, L, h1, h2, h3, h4, h5, rfl, rfl⟩ := h
  obtain ⟨m, m1, m2, m3⟩ := kSeq_stop t L
  have lk : ∀ i, (kSeq t L i).length ≤ 1000 := fun i => by have := kSeq_le t L i; omega
  have hu := hr.un
  have e0 : addAll (t.map (·.1)) = kSeq t L 0 := by
    have z := addAll_nodup (t.map (·.1)) [] (by simpa using h2)
    rw [List.nil_append] at z
    exact z
  refine DSs.is (dss_cons (ds_setD 2 (ks := (addAll (t.map (·.1))).map kCamps.kof) (dd_dc kCamps [("camps", 5), ("_", 7)] (xs := t) (enc := fun r => .t (eRow r)) (kf := fun r => r.1) (di_tup (de_var 0)) (fun r hr' => ⟨_, _, by decide, fun s H C cl fp => ⟨dg_tup (dgs_cons (dg_name 5) (dgs_cons (dg_un 7) dgs_nil)), de_var 5⟩⟩) campsTup (by decide) (by omega) (by omega)))
    (dss_cons (ds_set 3 (d := .int ((t.length : Int) + 1)) (DE.is (de_op op_add opI0 (de_lenD 2 ?_ B.len) de_int) ?_))
    (dss_cons (ds_while (fun i => [.dat (eTab t), .dat (eLooks L), .own (.dct ((kSeq t L i).map kCamps.kof)), .dat (.int (manyV t L i)), .un, .un, .un, .un, .un]) (m + 1) ?_ (fun i hi => DT.is (dt_cmp (k := decide ((((kSeq t L i).map kCamps.kof).length : Int) < (manyV t L i))) op_lt opB0 (de_lenD 2 ?_ B.len) (de_var 3)) ?_) (DT.is (dt_cmp (k := decide ((((kSeq t L (m + 1)).map kCamps.kof).length : Int) < ((kSeq t L m).length : Int))) op_lt opB0 (de_lenD 2 ?_ B.len) (de_var 3)) ?_) fun i hi => ?_)
    (dss_one (ds_ret (de_cmp op_gt opB0 (de_var 3) de_int)))))) ?_
  · rw [List.length_map, e0]; exact lk 0
  · rw [List.length_map, e0]
    show PyData.int (((t.map _).length : Int) + 1) = _
    rw [List.length_map]
  · rw [e0]
    exact .cons (.eq _) (.cons (.eq _) (.cons (.eq _) (.cons (.eq _) (.cons (.un _) (.cons (.un _) (.cons (.un _) (.cons (.un _) (.cons (.un _) .nil))))))))
  · rw [List.length_map]; exact lk i
  · cases i with
    | zero =>
      rw [List.length_map]
      have z : ((kSeq t L 0).length : Int) < manyV t L 0 := by
        show ((t.map _).length : Int) < (t.length : Int) + 1
        rw [List.length_map]; omega
      exact decide_eq_true z
    | succ j =>
      rw [List.length_map]
      have q := m3 j (by omega)
      have z : ((kSeq t L (j + 1)).length : Int) < manyV t L (j + 1) := by
        show ((kSeq t L (j + 1)).length : Int) < ((kSeq t L j).length : Int)
        omega
      exact decide_eq_true z
  · rw [List.length_map]; exact lk _
  · rw [List.length_map, m2]
    exact decide_eq_false (by omega)
  · have nk : ∀ j, j ≤ t.length → ((t.take j).filter (kOk L (kSeq t L i))).length ≤ 1000 := fun j hj => by
      refine Nat.le_trans (List.length_filter_le _ _) ?_
      rw [List.length_take]; omega
    refine DSs.wk2 (dss_cons (ds_parOD 3 4 (x := .int ((kSeq t L i).length : Int)) (ks := []) (DE.is (de_lenD 2 ?_ B.len) ?_) dd_new) (dss_cons (ds_for (fun j => [.dat (eTab t), .dat (eLooks L), .own (.dct ((kSeq t L i).map kCamps.kof)), .dat (.int ((kSeq t L i).length : Int)), .own (.dct ((((t.take j).filter (kOk L (kSeq t L i))).map (·.1)).map kCamps.kof)), .un, .un, .un, .un]) (xs := t) (enc := fun r => .t (eRow r)) (di_tup (de_var 0)) ?_ fun j r hj => ⟨_, _, dg_tup (dgs_cons (dg_name 5) (dgs_cons (dg_name 6) dgs_nil)), dss_one (ds_if (o := .nx [.dat (eTab t), .dat (eLooks L), .own (.dct ((kSeq t L i).map kCamps.kof)), .dat (.int ((kSeq t L i).length : Int)), .own (.dct ((((t.take (j + 1)).filter (kOk L (kSeq t L i))).map fun r : Row => r.1).map kCamps.kof)), .un, .un, .un, .un]) (b := kOk L (kSeq t L i) r) (PW.pt (dw_and (k := memK r.1 (kSeq t L i)) (l := r.2.any fun g => inO (kSeq t L i) (ledM L g)) (dt_inDk kCamps 2 (de_var 5) (campsTup _) (by decide) (by omega)) fun hin => dw_and1 (DT.is (dt_val (de_any (bs := r.2.map fun g => inO (kSeq t L i) (ledM L g)) (DN.l (DN.is (dn_lcA [("near", 8)] (xs := r.2) (enc := fun g => .t (eCamps g)) (f := fun g => .bool (inO (kSeq t L i) (ledM L g))) (di_tup (de_var 6))
      (fun g hg => ⟨_, _, by decide, fun s H C cl fp => ⟨dg_name 8, de_inDo kCamps 2 (z := ledM L g) (DE.is (de_fn O hr (dr_t (de_var 1) (dr_t (de_var 8) dr_nil)) ⟨L, g, h4, h5, rfl, rfl⟩) ?_) campsTup (by decide) (by show A.units + 3 + 20 < cLine; have : A.units + 3 + 16 * k + 200 < cLine := hu; omega)⟩⟩) ?_) ?_)) B.any)) ?_))) (fun hb => DSs.wk2 (dss_one (ds_store kCamps 4 (z := r.1) (de_var 5) (campsTup _) (by decide) ?_ (by omega))) ?_) fun hb => DSs.wk2 dss_nil ?_)⟩) (dss_one (ds_moveD 4 2)))) ?_
    · rw [List.length_map]; exact lk i
    · rw [List.length_map]
    · exact .cons (.eq _) (.cons (.eq _) (.cons (.eq _) (.cons (.eq _) (.cons (.eq _) (.cons (.un _) (.cons (.un _) (.cons (.un _) (.cons (.un _) .nil))))))))
    · cases ledM L g <;> rfl
    · have := h3 r (List.mem_of_getElem? hj); omega
    · rw [List.map_map]; rfl
    · rw [List.any_map]; rfl
    · rw [List.length_map]
      refine nk j ?_
      have := (List.getElem?_eq_some_iff.mp hj).1; omega
    · refine .cons (.eq _) (.cons (.eq _) (.cons (.eq _) (.cons (.eq _) (.cons ?_ (.cons (.un _) (.cons (.un _) (.cons (.un _) (.cons (.un _) .nil))))))))
      have e1 : ((t.take (j + 1)).filter (kOk L (kSeq t L i))).map (·.1) = ((t.take j).filter (kOk L (kSeq t L i))).map (·.1) ++ [r.1] := by
        rw [take_succ_of hj, List.filter_append, List.map_append, List.filter_cons_of_pos hb]; rfl
      have nin : r.1 ∉ ((t.take j).filter (kOk L (kSeq t L i))).map (·.1) := fun z => by
        obtain ⟨q, hq, eq⟩ := List.mem_map.mp z
        obtain ⟨l, hl, el⟩ := List.getElem_of_mem (List.mem_filter.mp hq).1
        rw [List.length_take] at hl
        rw [List.getElem_take] at el
        obtain ⟨hj1, hj2⟩ := List.getElem?_eq_some_iff.mp hj
        have e2 : (t.map (·.1))[l]'(by rw [List.length_map]; omega) = (t.map (·.1))[j]'(by rw [List.length_map]; omega) := by
          rw [List.getElem_map, List.getElem_map, el, hj2, eq]
        exact List.pairwise_iff_getElem.mp h2 l j _ _ (by omega) e2
      have e3 : addK (((t.take j).filter (kOk L (kSeq t L i))).map (·.1)) r.1 = ((t.take (j + 1)).filter (kOk L (kSeq t L i))).map (·.1) := by rw [addK_new nin, e1]
      rw [e3]
      exact .eq _
    · refine .cons (.eq _) (.cons (.eq _) (.cons (.eq _) (.cons (.eq _) (.cons ?_ (.cons (.un _) (.cons (.un _) (.cons (.un _) (.cons (.un _) .nil))))))))
      rw [take_succ_of hj, List.filter_append, List.filter_cons_of_neg (by rw [hb]; simp), List.filter_nil, List.append_nil]
      exact .eq _
    · refine .cons (.eq _) (.cons (.eq _) (.cons ?_ (.cons (.eq _) (.cons (.un _) (.cons (.un _) (.cons (.un _) (.cons (.un _) (.cons (.un _) .nil))))))))
      rw [List.take_length]
      exact .eq _
  · show Out.rt (.bool (decide ((0 : Int) < ((kSeq t L m).length : Int)))) = _
    have f1 := kSeq_fix m2 (t.length + 1 - m)
    rw [show m + (t.length + 1 - m) = t.length + 1 by omega] at f1
    unfold keepsM
    rw [f1]
    congr 2
    cases kSeq t L m with
    | nil => rfl
    | cons c l => simp
end
end K54
set_option Elab.async false
set_option linter.all false
set_option autoImplicit false
set_option maxRecDepth 100000
set_option maxHeartbeats 1000000
/-! K54: defs of the program, 8: first_unlike -/
namespace K54
open PySem PySem.Spec PyProof.Rows L2
theorem find_ix {α : Type} {p : α → Bool} {g : α} : ∀ {xs : List α}, xs.find? p = some g → ∃ j, xs[j]? = some g ∧ p g = true ∧ ∀ (i : Nat) (x : α), i < j → xs[i]? = some x → p x = false
  | [], h => by simp at h
  | x :: xs, h => by
    cases hp : p x with
    | true =>
      rw [List.find?_cons_of_pos hp] at h
      cases h
      exact ⟨0, rfl, hp, fun i _ hi => absurd hi (Nat.not_lt_zero _)⟩
    | false =>
      rw [List.find?_cons_of_neg (by rw [hp]; simp)] at h
      obtain ⟨j, h1, h2, h3⟩ := find_ix h
      refine ⟨j + 1, by simpa using h1, h2, fun i y hi hy => ?_⟩
      cases i with
      | zero => simp at hy; rw [← hy]; exact hp
      | succ i => exact h3 i y (by omega) (by simpa using hy)
theorem findSome_ix {α β : Type} {p : α → Option β} {g : β} : ∀ {xs : List α}, xs.findSome? p = some g → ∃ j x, xs[j]? = some x ∧ p x = some g ∧ ∀ (i : Nat) (x : α), i < j → xs[i]? = some x → p x = none
  | [], h => by simp at h
  | x :: xs, h => by
    cases hp : p x with
    | some b =>
      rw [List.findSome?_cons, hp] at h
      have h' : b = g := Option.some.inj h
      exact ⟨0, x, rfl, by rw [hp, h'], fun i _ hi => absurd hi (Nat.not_lt_zero _)⟩
    | none =>
      rw [List.findSome?_cons, hp] at h
      obtain ⟨j, y, h1, h2, h3⟩ := findSome_ix h
      refine ⟨j + 1, y, by simpa using h1, h2, fun i z hi hz => ?_⟩
      cases i with
      | zero => simp at hz; rw [← hz]; exact hp
      | succ i => exact h3 i z (by omega) (by simpa using hz)
theorem DS.is2 {X : Cx} {Γ : List Cell} {st : Stmt} {o o' : Out} (h : DS X Γ st o) (q : o = o') : DS X Γ st o' := q ▸ h
def badG (s : List Camps) (g : Camps) : Bool := !s.any fun near => areW g near
def hitRow (p : Row × Row) : Option Camps := p.1.2.find? (badG p.2.2)
def hitOf (p : Row × Row) : Option (Camps × Camps) := (hitRow p).map fun g => (p.1.1, g)
def firstM (t b : Tab) : Option (Camps × Camps) := (t.zip b).findSome? hitOf
def eHit : Option (Camps × Camps) → PyData
  | none => .none
  | some q => .tuple [eCamps q.1, eCamps q.2]
section
variable {P : Program} {w : World} {K : PySem.W.Frag} {mg : Str → Option Value} {base : Heap} {k : Nat}
theorem scS31 : FnScope ["table", "beside", "camps", "greatest", "_", "others", "goal", "near"] ["table", "beside"] (defScope (top 31)) := ⟨rfl, rfl, rfl, by decide +kernel, rfl, by decide +kernel, by decide +kernel⟩
def TSmall (t : Tab) : Prop := t.length ≤ 900 ∧ ∀ r ∈ t, r.2.length ≤ 900 ∧ CSmall r.1 ∧ ∀ g ∈ r.2, CSmall g
def rFirst (as : List Arg) (d : PyData) : Prop := ∃ t b : Tab, TSmall t ∧ TSmall b ∧ as = [.t (eTab t), .t (eTab b)] ∧ d = eHit (firstM t b)
theorem ok_first (B : Blt mg) (D : DefAt K mg "first_unlike" 31 ["table", "beside"]) (O : Ok P w K mg base "are_within" k ["camps", "other"] (spE K rAreW)) : Ok P w K mg base "first_unlike" (k + 1) ["table", "beside"] (spE K rFirst) := by
  refine okE' D scS31 (fun as d h => by obtain ⟨_, _, _, _, rfl, _⟩ := h; rfl) fun nd f cdv A outer s H E hr as d h => ?_
  obtain ⟨t, b, h1, h2, rfl, rfl⟩ := h
  have G0 : ∀ (X : Unit), ELe (cellsOf ["table", "beside", "camps", "greatest", "_", "others", "goal", "near"] [.t (eTab t), .t (eTab b)]) [.dat (eTab t), .dat (eTab b), .un, .un, .un, .un, .un, .un] := fun _ => .cons (.eq _) (.cons (.eq _) (.cons (.un _) (.cons (.un _) (.cons (.un _) (.cons (.un _) (.cons (.un _) (.cons (.un _) .nil)))))))
  have inz : ∀ p ∈ t.zip b, p.1 ∈ t ∧ p.2 ∈ b := fun p hp => by
    obtain ⟨x, y⟩ := p
    exact List.of_mem_zip hp
  cases hf : firstM t b with
  | none =>
    have nn : ∀ p ∈ t.zip b, ∀ g ∈ p.1.2, badG p.2.2 g = false := fun p hp g hg => by
      have z := List.findSome?_eq_none_iff.mp hf p hp
      unfold hitOf at z
      have z2 := Option.map_eq_none_iff.mp z
      have z3 := List.find?_eq_none.mp z2 g hg
      simpa using z3
    refine dss_cons (ds_for (fun _ => [.dat (eTab t), .dat (eTab b), .un, .un, .un, .un, .un, .un]) (xs := t.zip b) (enc := fun p => .t (.tuple [eRow p.1, eRow p.2])) (di_zpT (de_var 0) (de_var 1) B.zip) (G0 ()) fun i p hp => ⟨_, _, dg_tup (dgs_cons (dg_tup (dgs_cons (dg_name 2) (dgs_cons (dg_name 3) dgs_nil))) (dgs_cons (dg_tup (dgs_cons (dg_un 4) (dgs_cons (dg_name 5) dgs_nil))) dgs_nil)), DSs.wk2 (dss_one (ds_for (fun _ => [.dat (eTab t), .dat (eTab b), .dat (eCamps p.1.1), .dat (eCs p.1.2), .un, .dat (eCs p.2.2), .un, .un]) (xs := p.1.2) (enc := fun g => .t (eCamps g)) (di_tup (de_var 3)) (ELe.refl _) fun j g hg => ⟨_, _, dg_name 6, DSs.wk2 (dss_one (ds_if (b := false) (DT.is (dt_not (dt_val (de_any (bs := p.2.2.map fun near => areW g near) (DN.l (DN.is (dn_lcA [("near", 7)] (xs := p.2.2) (enc := fun g => .t (eCamps g)) (f := fun near => .bool (areW g near)) (di_tup (de_var 5))
      (fun near hn => ⟨_, _, by decide, fun s H C cl fp => ⟨dg_name 7, de_fn O hr (dr_t (de_var 6) (dr_t (de_var 7) dr_nil)) ⟨g, near, ?_, ?_, rfl, rfl⟩⟩⟩) ?_) ?_)) B.any))) ?_) (fun z => nomatch z) fun _ => dss_nil)) ?_⟩)) ?_⟩) (dss_one (ds_ret de_non))
    · exact (((h1.2 _ (inz p (List.mem_of_getElem? hp)).1).2.2 g (List.mem_of_getElem? hg))).1
    · exact (((h1.2 _ (inz p (List.mem_of_getElem? hp)).1).2.2 g (List.mem_of_getElem? hg))).2
    · have := (h2.2 _ (inz p (List.mem_of_getElem? hp)).2).1; omega
    · rw [List.map_map]; rfl
    · rw [List.any_map]
      exact nn p (List.mem_of_getElem? hp) g (List.mem_of_getElem? hg)
    · exact .cons (.eq _) (.cons (.eq _) (.cons (.eq _) (.cons (.eq _) (.cons (.un _) (.cons (.eq _) (.cons (.un _) (.cons (.un _) .nil)))))))
    · exact .cons (.eq _) (.cons (.eq _) (.cons (.un _) (.cons (.un _) (.cons (.un _) (.cons (.un _) (.cons (.un _) (.cons (.un _) .nil)))))))
  | some q =>
    obtain ⟨i0, p0, hp0, hq, hbef⟩ := findSome_ix hf
    obtain ⟨g0, hg0, rfl⟩ := Option.map_eq_some_iff.mp hq
    obtain ⟨j0, hj0, hb0, hjb⟩ := find_ix hg0
    have hm0 := inz p0 (List.mem_of_getElem? hp0)
    have gm0 := List.mem_of_getElem? hj0
    have s0 := (h1.2 _ hm0.1).2.2 g0 gm0
    refine dss_ret (ds_forR (o := .rt (.tuple [eCamps p0.1.1, eCamps g0])) (fun _ => [.dat (eTab t), .dat (eTab b), .un, .un, .un, .un, .un, .un]) i0 (List.getElem?_eq_some_iff.mp hp0).1 (fun _ z => nomatch z) (xs := t.zip b) (enc := fun p => .t (.tuple [eRow p.1, eRow p.2])) (di_zpT (de_var 0) (de_var 1) B.zip) (G0 ()) (fun i p hi hp => ⟨_, _, dg_tup (dgs_cons (dg_tup (dgs_cons (dg_name 2) (dgs_cons (dg_name 3) dgs_nil))) (dgs_cons (dg_tup (dgs_cons (dg_un 4) (dgs_cons (dg_name 5) dgs_nil))) dgs_nil)), DSs.wk2 (dss_one (ds_for (fun _ => [.dat (eTab t), .dat (eTab b), .dat (eCamps p.1.1), .dat (eCs p.1.2), .un, .dat (eCs p.2.2), .un, .un]) (xs := p.1.2) (enc := fun g => .t (eCamps g)) (di_tup (de_var 3)) (ELe.refl _) fun j g hg => ⟨_, _, dg_name 6, DSs.wk2 (dss_one (ds_if (b := false) (DT.is (dt_not (dt_val (de_any (bs := p.2.2.map fun near => areW g near) (DN.l (DN.is (dn_lcA [("near", 7)] (xs := p.2.2) (enc := fun g => .t (eCamps g)) (f := fun near => .bool (areW g near)) (di_tup (de_var 5))
      (fun near hn => ⟨_, _, by decide, fun s H C cl fp => ⟨dg_name 7, de_fn O hr (dr_t (de_var 6) (dr_t (de_var 7) dr_nil)) ⟨g, near, ?_, ?_, rfl, rfl⟩⟩⟩) ?_) ?_)) B.any))) ?_) (fun z => nomatch z) fun _ => dss_nil)) ?_⟩)) ?_⟩) fun p hp => ⟨_, _, dg_tup (dgs_cons (dg_tup (dgs_cons (dg_name 2) (dgs_cons (dg_name 3) dgs_nil))) (dgs_cons (dg_tup (dgs_cons (dg_un 4) (dgs_cons (dg_name 5) dgs_nil))) dgs_nil)),
      dss_one (ds_forR (fun _ => [.dat (eTab t), .dat (eTab b), .dat (eCamps p.1.1), .dat (eCs p.1.2), .un, .dat (eCs p.2.2), .un, .un]) j0 ?_ (fun _ z => nomatch z) (xs := p.1.2) (enc := fun g => .t (eCamps g)) (di_tup (de_var 3)) (ELe.refl _) (fun j g hj hg => ⟨_, _, dg_name 6, DSs.wk2 (dss_one (ds_if (b := false) (DT.is (dt_not (dt_val (de_any (bs := p.2.2.map fun near => areW g near) (DN.l (DN.is (dn_lcA [("near", 7)] (xs := p.2.2) (enc := fun g => .t (eCamps g)) (f := fun near => .bool (areW g near)) (di_tup (de_var 5))
      (fun near hn => ⟨_, _, by decide, fun s H C cl fp => ⟨dg_name 7, de_fn O hr (dr_t (de_var 6) (dr_t (de_var 7) dr_nil)) ⟨g, near, ?_, ?_, rfl, rfl⟩⟩⟩) ?_) ?_)) B.any))) ?_) (fun z => nomatch z) fun _ => dss_nil)) ?_⟩) fun g hg => ⟨_, _, dg_name 6, dss_one (ds_if (b := true) (DT.is (dt_not (dt_val (de_any (bs := p.2.2.map fun near => areW g near) (DN.l (DN.is (dn_lcA [("near", 7)] (xs := p.2.2) (enc := fun g => .t (eCamps g)) (f := fun near => .bool (areW g near)) (di_tup (de_var 5))
      (fun near hn => ⟨_, _, by decide, fun s H C cl fp => ⟨dg_name 7, de_fn O hr (dr_t (de_var 6) (dr_t (de_var 7) dr_nil)) ⟨g, near, ?_, ?_, rfl, rfl⟩⟩⟩) ?_) ?_)) B.any))) ?_) (fun _ => dss_one (DS.is2 (ds_ret (de_tup (du_cons (de_var 2) (du_cons (de_var 6) du_nil)))) ?_)) fun z => nomatch z)⟩)⟩)
    · exact (((h1.2 _ (inz p (List.mem_of_getElem? hp)).1).2.2 g (List.mem_of_getElem? hg))).1
    · exact (((h1.2 _ (inz p (List.mem_of_getElem? hp)).1).2.2 g (List.mem_of_getElem? hg))).2
    · have := (h2.2 _ (inz p (List.mem_of_getElem? hp)).2).1; omega
    · rw [List.map_map]; rfl
    · rw [List.any_map]
      have z := hbef i p hi hp
      unfold hitOf at z
      have z2 := Option.map_eq_none_iff.mp z
      have z3 := List.find?_eq_none.mp z2 g (List.mem_of_getElem? hg)
      show (!p.2.2.any fun near => areW g near) = false
      simpa [badG] using z3
    · exact .cons (.eq _) (.cons (.eq _) (.cons (.eq _) (.cons (.eq _) (.cons (.un _) (.cons (.eq _) (.cons (.un _) (.cons (.un _) .nil)))))))
    · exact .cons (.eq _) (.cons (.eq _) (.cons (.un _) (.cons (.un _) (.cons (.un _) (.cons (.un _) (.cons (.un _) (.cons (.un _) .nil)))))))
    · have ep : p = p0 := Option.some.inj (hp.symm.trans hp0)
      rw [ep]
      exact (List.getElem?_eq_some_iff.mp hj0).1
    · exact (((h1.2 _ (inz p (List.mem_of_getElem? hp)).1).2.2 g (List.mem_of_getElem? hg))).1
    · exact (((h1.2 _ (inz p (List.mem_of_getElem? hp)).1).2.2 g (List.mem_of_getElem? hg))).2
    · have := (h2.2 _ (inz p (List.mem_of_getElem? hp)).2).1; omega
    · rw [List.map_map]; rfl
    · have ep : p = p0 := Option.some.inj (hp.symm.trans hp0)
      rw [List.any_map]
      rw [ep] at hg ⊢
      exact hjb j g hj hg
    · exact .cons (.eq _) (.cons (.eq _) (.cons (.eq _) (.cons (.eq _) (.cons (.un _) (.cons (.eq _) (.cons (.un _) (.cons (.un _) .nil)))))))
    · exact (((h1.2 _ (inz p (List.mem_of_getElem? hp)).1).2.2 g (List.mem_of_getElem? hg))).1
    · exact (((h1.2 _ (inz p (List.mem_of_getElem? hp)).1).2.2 g (List.mem_of_getElem? hg))).2
    · have := (h2.2 _ (inz p (List.mem_of_getElem? hp)).2).1; omega
    · rw [List.map_map]; rfl
    · have ep : p = p0 := Option.some.inj (hp.symm.trans hp0)
      rw [List.any_map]
      rw [ep] at hg ⊢
      have eg : g = g0 := Option.some.inj (hg.symm.trans hj0)
      rw [eg]
      exact hb0
    · have ep : p = p0 := Option.some.inj (hp.symm.trans hp0)
      rw [ep] at hg ⊢
      have eg : g = g0 := Option.some.inj (hg.symm.trans hj0)
      rw [eg]
end
end K54
set_option Elab.async false
set_option linter.all false
set_option autoImplicit false
set_option maxRecDepth 100000
set_option maxHeartbeats 2000000
/-! K54: piece_looks, 1: a list of dicts -/
namespace K54
open PySem PySem.Spec PyProof.Rows L2
def lkO : Option Obj → HO → HO
  | none, u => u
  | some o, u => .frz o u
/-- at a stands the list of the dicts ds; their keys are kss; some are locked -/
structure FOk (P : Program) (w : World) (K : PySem.W.Frag) (lk : Nat → Option Obj) (H0 H : Hp) (a : Addr) (ds : List Addr) (kss : List (List Looks)) : Prop where
  na : H0 a = none
  la : H a = some (.lst (ds.map V.ref))
  nd : ds.Nodup
  ad : a ∉ ds
  len : ds.length = kss.length
  at_ : ∀ (j : Nat) (d : Addr), ds[j]? = some d → H0 d = none ∧ ∃ rows, H d = some (lkO (lk j) (NDO P w d rows)) ∧ NRows K H rows ∧ rows.map (·.1) = (kss.getD j []).map kLooks.kof
theorem lkNoTup {P : Program} {w : World} {H : Hp} {d e : Addr} {o : Option Obj} {rows : List Rw} (h : H d = some (lkO o (NDO P w e rows))) : ∀ xs, ¬ Rd H d (.tup xs) := fun xs q => by
  cases o with
  | none => exact extNoTup (f := _) h xs q
  | some o =>
    rcases q with q | ⟨u, q⟩
    · rw [h] at q; cases q
    · rw [h] at q; cases q
section
variable {P : Program} {w : World} {K : PySem.W.Frag} {lk : Nat → Option Obj} {H0 Hb H H' : Hp} {a : Addr} {ds : List Addr} {kss : List (List Looks)}
theorem FOk.grow (f : FOk P w K lk H0 H a ds kss) (e : Same H H') (n : ∀ b u, Hb b = some u → H0 b = none → H b = none ∨ ∃ xs, Rd H b (.tup xs)) : FOk P w K lk Hb H' a ds kss := by
  refine ⟨?_, e _ _ f.la, f.nd, f.ad, f.len, fun j d hd => ?_⟩
  · cases hb : Hb a with
    | none => rfl
    | some u =>
      rcases n a u hb f.na with z | ⟨xs, z⟩
      · rw [f.la] at z; cases z
      · exact absurd z (lstNoTup f.la xs)
  · obtain ⟨n0, rows, h1, h2, h3⟩ := f.at_ j d hd
    refine ⟨?_, rows, e _ _ h1, rows_ex (.of e) h2, h3⟩
    cases hb : Hb d with
    | none => rfl
    | some u =>
      rcases n d u hb n0 with z | ⟨xs, z⟩
      · rw [h1] at z; cases z
      · exact absurd z (lkNoTup h1 xs)
theorem FOk.mono (f : FOk P w K lk H0 H a ds kss) (e : Same H H') : FOk P w K lk H0 H' a ds kss := f.grow e fun b u h1 h2 => (by rw [h1] at h2; cases h2)
theorem addGet {kss : List (List Looks)} {t j : Nat} {x : Looks} (ht : t < kss.length) : (kss.set t (addK (kss.getD t []) x)).getD j [] = if j = t then addK (kss.getD t []) x else kss.getD j [] := by
  rw [List.getD_eq_getElem?_getD]
  by_cases e : j = t
  · subst e
    rw [if_pos rfl, List.getElem?_set_self ht]; rfl
  · rw [if_neg e, List.getElem?_set_ne (Ne.symm e), ← List.getD_eq_getElem?_getD]
def addTo (kss : List (List Looks)) (t : Nat) (x : Looks) : List (List Looks) := kss.set t (addK (kss.getD t []) x)
theorem FOk.store (f : FOk P w K lk H0 H a ds kss) {t : Nat} {d b : Addr} {x : Looks} {rows : List Rw} (hd : ds[t]? = some d) (hl : lk t = none) (hr : H d = some (NDO P w d rows)) (hn : NRows K H rows) (hk : rows.map (·.1) = (kss.getD t []).map kLooks.kof) (hb : TD K H (.ref b) (kLooks.enc x)) : FOk P w K lk H0 (upd H d (NDO P w d (addRow rows (kLooks.kof x, b)))) a ds (addTo kss t x) := by
  obtain ⟨hdl, hde⟩ := List.getElem?_eq_some_iff.mp hd
  have hdm : d ∈ ds := List.mem_of_getElem? hd
  have nad : a ≠ d := fun z => f.ad (by rw [z]; exact hdm)
  have tx : TupEx H (upd H d (NDO P w d (addRow rows (kLooks.kof x, b)))) := TupEx.write (extNoTup hr)
  refine ⟨f.na, by rw [upd_ne nad]; exact f.la, f.nd, f.ad, by unfold addTo; rw [List.length_set]; exact f.len, fun j e he => ?_⟩
  obtain ⟨n0, rows', h1, h2, h3⟩ := f.at_ j e he
  by_cases z : e = d
  · subst z
    have ej : j = t := by
      obtain ⟨hjl, hje⟩ := List.getElem?_eq_some_iff.mp he
      rcases Nat.lt_trichotomy j t with c | c | c
      · exact absurd (by rw [hje, hde]) (List.pairwise_iff_getElem.mp f.nd j t hjl hdl c)
      · exact c
      · exact absurd (by rw [hje, hde]) (List.pairwise_iff_getElem.mp f.nd t j hdl hjl c)
    subst ej
    refine ⟨n0, addRow rows (kLooks.kof x, b), by rw [upd_same, hl]; rfl, rows_ex tx (addRow_ok hn (by rw [kLooks.data]; exact hb) (Nat.le_trans (kLooks.deep x) (by decide))), ?_⟩
    unfold addTo
    rw [addGet (by rw [← f.len]; exact hdl), if_pos rfl]
    exact addRow_keys kLooks hk
  · refine ⟨n0, rows', by rw [upd_ne z]; exact h1, rows_ex tx h2, ?_⟩
    have nj : j ≠ t := fun q => z (by rw [q, hd] at he; exact (Option.some.inj he).symm)
    unfold addTo
    rw [addGet (by rw [← f.len]; exact hdl), if_neg nj]
    exact h3
/-- the dict at i is locked -/
def lkAt (i : Nat) (o : Obj) : Nat → Option Obj := fun j => if j = i then some o else none
theorem dsEq (f : FOk P w K lk H0 H a ds kss) {i j : Nat} {d : Addr} (hi : ds[i]? = some d) (hj : ds[j]? = some d) : j = i := by
  obtain ⟨l1, e1⟩ := List.getElem?_eq_some_iff.mp hi
  obtain ⟨l2, e2⟩ := List.getElem?_eq_some_iff.mp hj
  rcases Nat.lt_trichotomy j i with c | c | c
  · exact absurd (by rw [e2, e1]) (List.pairwise_iff_getElem.mp f.nd j i l2 l1 c)
  · exact c
  · exact absurd (by rw [e1, e2]) (List.pairwise_iff_getElem.mp f.nd i j l1 l2 c)
theorem FOk.lock (f : FOk P w K (fun _ => none) H0 H a ds kss) {i : Nat} {d : Addr} {o : Obj} {rows : List Rw} (hd : ds[i]? = some d) (hr : H d = some (NDO P w d rows)) (hn : NRows K H rows) (hk : rows.map (·.1) = (kss.getD i []).map kLooks.kof) : FOk P w K (lkAt i o) H0 (upd H d (.frz o (NDO P w d rows))) a ds kss := by
  have hdm : d ∈ ds := List.mem_of_getElem? hd
  have nad : a ≠ d := fun z => f.ad (by rw [z]; exact hdm)
  have tx : TupEx H (upd H d (.frz o (NDO P w d rows))) := TupEx.write (extNoTup hr)
  refine ⟨f.na, by rw [upd_ne nad]; exact f.la, f.nd, f.ad, f.len, fun j e he => ?_⟩
  obtain ⟨n0, rows', h1, h2, h3⟩ := f.at_ j e he
  by_cases z : e = d
  · subst z
    have ej := dsEq f hd he
    subst ej
    exact ⟨n0, rows, by rw [upd_same]; unfold lkAt; rw [if_pos rfl]; rfl, rows_ex tx hn, hk⟩
  · have nj : j ≠ i := fun q => z (by rw [q, hd] at he; exact (Option.some.inj he).symm)
    exact ⟨n0, rows', by rw [upd_ne z, h1]; unfold lkAt; rw [if_neg nj], rows_ex tx h2, h3⟩
theorem FOk.unlock {i : Nat} {o : Obj} (f : FOk P w K (lkAt i o) H0 H a ds kss) {d : Addr} {rows : List Rw} (hd : ds[i]? = some d) (hr : H d = some (.frz o (NDO P w d rows))) (hn : NRows K H rows) (hk : rows.map (·.1) = (kss.getD i []).map kLooks.kof) : FOk P w K (fun _ => none) H0 (upd H d (NDO P w d rows)) a ds kss := by
  have hdm : d ∈ ds := List.mem_of_getElem? hd
  have nad : a ≠ d := fun z => f.ad (by rw [z]; exact hdm)
  have tx : TupEx H (upd H d (NDO P w d rows)) := TupEx.write (lkNoTup (o := some o) (e := d) hr)
  refine ⟨f.na, by rw [upd_ne nad]; exact f.la, f.nd, f.ad, f.len, fun j e he => ?_⟩
  obtain ⟨n0, rows', h1, h2, h3⟩ := f.at_ j e he
  by_cases z : e = d
  · subst z
    have ej := dsEq f hd he
    subst ej
    exact ⟨n0, rows, by rw [upd_same]; rfl, rows_ex tx hn, hk⟩
  · have nj : j ≠ i := fun q => z (by rw [q, hd] at he; exact (Option.some.inj he).symm)
    have e1 : lkAt i o j = none := by unfold lkAt; rw [if_neg nj]
    rw [e1] at h1
    exact ⟨n0, rows', by rw [upd_ne z, h1], rows_ex tx h2, h3⟩
end
/-- nothing is owned -/
def noOwn (Γ : List Cell) : Bool := Γ.all fun c => match c with | .own _ => false | _ => true
theorem noOwnAt {σ : L2.St} {Γ : List Cell} (h : noOwn Γ = true) {d : Addr} : ∀ i, ¬ OwnAt σ Γ i d := fun i ⟨_, o, hc⟩ => by
  have z := List.all_eq_true.mp h _ (List.mem_of_getElem? hc)
  cases z
section
variable {X : Cx} {Γ : List Cell} {e key etgt : Expr} {pos : Pos} {n : Str} {p0 p1 p2 pc : Pos} {jj : Nat}
/-- what is known where the list of dicts is at hand, at slot f -/
structure FAt (X : Cx) (Γ : List Cell) (f : Nat) (lk : Nat → Option Obj) (H0 H : Hp) (σ : L2.St) (a : Addr) (ds : List Addr) (kss : List (List Looks)) : Prop where
  ok : EnvOk X.prog X.w X.K H0 H σ Γ
  sl : σ[f]? = some (some (.ref a))
  fo : FOk X.prog X.w X.K lk H0 H a ds kss
theorem FAt.mono {f : Nat} {lk : Nat → Option Obj} {H0 H H' : Hp} {σ : L2.St} {a : Addr} {ds : List Addr} {kss : List (List Looks)} (h : FAt X Γ f lk H0 H σ a ds kss) (s : Same H H') : FAt X Γ f lk H0 H' σ a ds kss := ⟨h.ok.mono s, h.sl, h.fo.mono s⟩
theorem atRef {ds : List Addr} {i : Int} {d : Addr} (h : atI ds i = some d) : atI (ds.map V.ref) i = some (.ref d) := by
  unfold atI at h ⊢
  obtain ⟨j, hj, hd⟩ := Option.bind_eq_some_iff.mp h
  rw [List.length_map, hj]
  show (ds.map V.ref)[j]? = _
  rw [List.getElem?_map, hd]; rfl
/-- found[e] -/
def tFnd (X : Cx) (Γ : List Cell) (f : Nat) (i : Int) : TE := fun σ H Q => ∃ lk H0 a ds kss d, FAt X Γ f lk H0 H σ a ds kss ∧ atI ds i = some d ∧ ∀ H', Same H H' → Q (.ref d) H'
theorem pe_fnd (f : Nat) {i : Int} (h : DE X Γ e (.int i)) (hp : PlainIx e := by exact fun _ _ => rfl) (hN : X.N[f]? = some n := by rfl) (hv : Vis X.env.scope n := by first | exact Or.inl rfl | exact Or.inr (Or.inl rfl) | exact Or.inr (Or.inr rfl)) (hd : (n == ("__debug__" : Str)) = false := by decide) (hcd : (n == ("__classdict__" : Str)) = false := by decide) : PE X (.Subscript (.Name n p0) e pos) (tFnd X Γ f i) :=
  PE.wk (pe_ix ix_list (pe_var hN hv hd hcd) h hp) fun σ H Q ⟨lk, H0, a, ds, kss, d, F, hd, q⟩ => ⟨.ref a, F.sl, H0, F.ok, fun v H1 e1 r1 => by
    cases r1
    exact ⟨a, ds.map V.ref, i, .ref d, rfl, rfl, .of (e1 _ _ F.fo.la), atRef hd, q H1 e1⟩⟩
/-- found[t][key] = True -/
def tStr (X : Cx) (Γ : List Cell) (f t : Nat) (x : Looks) : TS := fun D σ H => ∃ lk H0 a ds kss d, FAt X Γ f lk H0 H σ a ds kss ∧ ds[t]? = some d ∧ lk t = none ∧ (kss.getD t []).length ≤ 1000 ∧
  ∀ H', FAt X Γ f lk H0 H' σ a ds (addTo kss t x) → (∀ c u, c ≠ d → H c = some u → H' c = some u) → D.nx σ H'
theorem ps_str (f t : Nat) {x : Looks} (hno : noOwn Γ = true) (ht : DE X Γ etgt (.int (t : Int))) (hk : DE X Γ key (eLooks x)) (hu : X.A.units + 20 < cLine) (hp : PlainIx etgt := by exact fun _ _ => rfl) (hN : X.N[f]? = some n := by rfl) (hv : Vis X.env.scope n := by first | exact Or.inl rfl | exact Or.inr (Or.inl rfl) | exact Or.inr (Or.inr rfl)) (hd : (n == ("__debug__" : Str)) = false := by decide) (hcd : (n == ("__classdict__" : Str)) = false := by decide)
    (has : ∀ v, assign (.Subscript (.Subscript (.Name n p0) etgt p1) key p2) X.env v = (do
      let ov ← holding [v] (eval (.Subscript (.Name n p0) etgt p1) X.env)
      let iv ← holding [v, ov] (eval key X.env)
      standAt p2
      holding [v, ov, iv] (setItem ov iv v)
      release [v, ov, iv] []) := by intro _; rfl)
    (hs : swapsWithSole [.Subscript (.Subscript (.Name n p0) etgt p1) key p2] (.Constant (.bool true) jj pc) pos.line X.env = pure false := by rfl) (hw : swappedStores [.Subscript (.Subscript (.Name n p0) etgt p1) key p2] (.Constant (.bool true) jj pc) X.env = pure none := by rfl) (h1 : (assignEach [.Subscript (.Subscript (.Name n p0) etgt p1) key p2] X.env).map (·.2) = [assign (.Subscript (.Subscript (.Name n p0) etgt p1) key p2) X.env] := by rfl) :
    PS X (.Assign [.Subscript (.Subscript (.Name n p0) etgt p1) key p2] (.Constant (.bool true) jj pc) pos) (tStr X Γ f t x) :=
  PS.wk (ps_asg (pe_bl (b := true)) (pg_sub (pe_fnd (Γ := Γ) (p0 := p0) f ht hp hN hv hd hcd) hk (set_nd (by omega)) has) hs hw h1) fun D σ H ⟨lk, H0, a, ds, kss, d, F, hd, hl, few, q⟩ => by
    refine ⟨lk, H0, a, ds, kss, d, F, atI_nat hd, fun H1 e1 => ⟨H0, F.ok.mono e1, fun v H2 e2 r2 => ?_⟩⟩
    have F2 := F.mono (e1.trans e2)
    obtain ⟨n0, rows, g1, g2, g3⟩ := F2.fo.at_ t d hd
    rw [hl] at g1
    have g1' : H2 d = some (NDO X.prog X.w d rows) := g1
    have r2' : TD X.K H2 v (.tuple (x.map eLot)) := r2
    obtain ⟨b, rfl⟩ := r2'.refOf
    have hlen : rows.length = (kss.getD t []).length := by
      have z := congrArg List.length g3
      rwa [List.length_map, List.length_map] at z
    refine ⟨d, b, rows, kLooks.kof x, rfl, rfl, rfl, g1', g2, by rw [kLooks.data]; exact r2, Nat.le_trans (kLooks.deep x) (by decide), by rw [hlen]; exact few, ?_⟩
    refine q _ ⟨F2.ok.other n0 (extNoTup g1') (noOwnAt hno), F2.sl, F2.fo.store hd hl g1' g2 g3 r2⟩ fun c u hc hu => ?_
    rw [upd_ne hc]
    exact e2 _ _ (e1 _ _ hu)
end
end K54
set_option Elab.async false
set_option linter.all false
set_option autoImplicit false
set_option maxRecDepth 100000
set_option maxHeartbeats 2000000
/-! K54: piece_looks, 2: the loops -/
namespace K54
open PySem PySem.Spec PyProof.Rows L2
theorem ele_back {Γ : List Cell} {l : Nat} {c : Cell} (h : Γ[l]? = some .un) : ELe (Γ.set l c) Γ := ⟨by rw [List.length_set], fun j c' hc => by
  by_cases e : j = l
  · subst e
    rw [h] at hc
    cases hc
    have lt := (List.getElem?_eq_some_iff.mp h).1
    exact ⟨c, List.getElem?_set_self lt, .un _⟩
  · exact ⟨c', by rw [List.getElem?_set_ne (Ne.symm e)]; exact hc, .eq _⟩⟩
theorem noOwn_set {Γ : List Cell} {l : Nat} {d : PyData} (h : noOwn Γ = true) : noOwn (Γ.set l (.dat d)) = true := by
  unfold noOwn at h ⊢
  rw [List.all_eq_true] at h ⊢
  intro c hc
  rcases List.mem_or_eq_of_mem_set hc with z | z
  · exact h c z
  · rw [z]
def runIn (t : Nat) (g : Looks → Looks) (Ls : List Looks) (kss : List (List Looks)) : List (List Looks) := Ls.foldl (fun k L => addTo k t (g L)) kss
theorem runIn_snoc (t : Nat) (g : Looks → Looks) (Ls : List Looks) (L : Looks) (kss : List (List Looks)) : runIn t g (Ls ++ [L]) kss = addTo (runIn t g Ls kss) t (g L) := by unfold runIn; rw [List.foldl_append]; rfl
section
variable {X : Cx} {Γ : List Cell} {tg iter : Expr} {body : List Stmt} {pos : Pos}
/-- for looks in found[i]: found[t][..] = True -/
def tIn (X : Cx) (Γ : List Cell) (f i t : Nat) (g : Looks → Looks) : TS := fun D σ H => ∃ H0 a ds kss, FAt X Γ f (fun _ => none) H0 H σ a ds kss ∧ i < ds.length ∧ t < ds.length ∧ i ≠ t ∧ (∀ m, ((runIn t g ((kss.getD i []).take m) kss).getD t []).length ≤ 1000) ∧
  ∀ H' σ', FAt X Γ f (fun _ => none) H0 H' σ' a ds (runIn t g (kss.getD i []) kss) → D.nx σ' H'
structure LIx (X : Cx) (Γ : List Cell) (f t l : Nat) (g : Looks → Looks) (body : List Stmt) where
  L : Looks
  ok : PSs X body (tStr X (Γ.set l (.dat (eLooks L))) f t (g L))
theorem ps_in (f i t l : Nat) (g : Looks → Looks) (q : Looks → Prop) (hno : noOwn Γ = true) (hfl : f ≠ l) (hl : Γ[l]? = some .un) (hi : PE X iter (tFnd X Γ f i)) (hg : ∀ L, DGt X Γ tg (.t (eLooks L)) (Γ.set l (.dat (eLooks L))) [l]) (hb : ∀ L, q L → PSs X body (tStr X (Γ.set l (.dat (eLooks L))) f t (g L)))
    (hp : PassesOwn (model X.prog X.w) X.A X.env X.xe := by exact PassesOwn.never) (hc : X.calm = true := by rfl) (hs : ∀ x, foldedSetIterable iter X.env x = pure x := by intro _; rfl) : PS X (.For tg iter body [] pos) (fun D σ H => ∃ H0 a ds kss, (∀ L ∈ kss.getD i [], q L) ∧ FAt X Γ f (fun _ => none) H0 H σ a ds kss ∧ i < ds.length ∧ t < ds.length ∧ i ≠ t ∧ (∀ m, ((runIn t g ((kss.getD i []).take m) kss).getD t []).length ≤ 1000) ∧
  ∀ H' σ', FAt X Γ f (fun _ => none) H0 H' σ' a ds (runIn t g (kss.getD i []) kss) → D.nx σ' H') := by
  have hG : PG X tg (fun v σ H Q => ∃ L, gD X.prog X.w X.K Γ (.t (eLooks L)) (Γ.set l (.dat (eLooks L))) [l] v σ H Q) := PG.ex hg
  have hB : PSs X body (fun D σ H => ∃ z : LIx X Γ f t l g body, tStr X (Γ.set l (.dat (eLooks z.L))) f t (g z.L) D σ H) := PSs.ex fun z => z.ok
  refine PS.wk (ps_lock (ps_for hp hc (pi_nd hi) hG hB hs)) fun D σ H ⟨H0, a, ds, kss, hq, F, li, lt, ne, few, kk⟩ => ?_
  obtain ⟨d, hd⟩ : ∃ d, ds[i]? = some d := ⟨ds[i], List.getElem?_eq_getElem li⟩
  obtain ⟨dt, hdt⟩ : ∃ d, ds[t]? = some d := ⟨ds[t], List.getElem?_eq_getElem lt⟩
  obtain ⟨nd0, rows, g1, g2, g3⟩ := F.fo.at_ i d hd
  have g1' : H d = some (NDO X.prog X.w d rows) := g1
  have hlen : rows.length = (kss.getD i []).length := by
    have z := congrArg List.length g3
    rwa [List.length_map, List.length_map] at z
  have ndt : dt ≠ d := fun z => ne (dsEq F.fo hdt (by rw [z]; exact hd))
  refine ⟨d, NDO X.prog X.w d rows, g1', trivial, fun o => ?_⟩
  have F1 : FAt X Γ f (lkAt i o) H0 (upd H d (.frz o (NDO X.prog X.w d rows))) σ a ds kss := ⟨F.ok.other nd0 (extNoTup g1') (noOwnAt hno), F.sl, F.fo.lock hd g1' g2 g3⟩
  have tx0 : TupEx H (upd H d (.frz o (NDO X.prog X.w d rows))) := TupEx.write (extNoTup g1')
  refine ⟨lkAt i o, H0, a, ds, kss, d, F1, atI_nat hd, fun H1 e1 => ⟨d, o, rows, rfl, e1 _ _ upd_same, ?_⟩⟩
  refine ⟨fun j m σ' H' => j ≤ rows.length ∧ m = rows.length - j ∧ H' d = some (.frz o (NDO X.prog X.w d rows)) ∧ NRows X.K H' rows ∧ FAt X Γ f (lkAt i o) H0 H' σ' a ds (runIn t g ((kss.getD i []).take j) kss), ⟨_, Nat.zero_le _, rfl, e1 _ _ upd_same, rows_ex (tx0.trans (.of e1)) g2, F1.mono e1⟩, ?_⟩
  rintro j m σ' H' ⟨hj, rfl, hd', hr', F'⟩
  by_cases hlt : j < rows.length
  · have hlt2 : j < (kss.getD i []).length := by omega
    obtain ⟨L, hL⟩ : ∃ L, (kss.getD i [])[j]? = some L := ⟨_, List.getElem?_eq_getElem hlt2⟩
    obtain ⟨r, hr⟩ : ∃ r, rows[j]? = some r := ⟨_, List.getElem?_eq_getElem hlt⟩
    have rk : r.1 = kLooks.kof L := by
      have z := congrArg (fun l => l[j]?) g3
      simp only [List.getElem?_map, hr, hL, Option.map_some] at z
      exact Option.some.inj z
    refine .inr ⟨⟨hd', hlt⟩, fun σ2 H2 => j + 1 ≤ rows.length ∧ H2 d = some (.frz o (NDO X.prog X.w d rows)) ∧ NRows X.K H2 rows ∧ FAt X Γ f (lkAt i o) H0 H2 σ2 a ds (runIn t g ((kss.getD i []).take (j + 1)) kss), fun σ2 H2 ⟨k1, k2⟩ => ⟨rows.length - (j + 1), by omega, k1, rfl, k2⟩, fun v H2 ⟨eH, r', hr2, ev⟩ => ?_⟩
    subst eH
    rw [hr] at hr2
    cases hr2
    subst ev
    have rd : TD X.K H2 (.ref r.2) (eLooks L) := by
      have z := (hr'.2 r (List.mem_of_getElem? hr)).1
      rw [rk, kLooks.data] at z
      exact z
    have hbL := hb L (hq L (List.mem_of_getElem? hL))
    refine ⟨L, H0, F'.ok.ex, rd, fun σ3 l3 o3 k3 => ⟨⟨L, hbL⟩, lkAt i o, H0, a, ds, runIn t g ((kss.getD i []).take j) kss, dt, ⟨k3 H0 (Same.refl H0) F'.ok, ?_, F'.fo⟩, hdt, ?_, few j, fun H4 F4 fr => ⟨hlt, ?_, ?_, ⟨F4.ok.wk (ele_back hl), F4.sl, ?_⟩⟩⟩⟩
    · rw [o3 f (fun z => hfl (List.mem_singleton.mp z))]; exact F'.sl
    · unfold lkAt; rw [if_neg (Ne.symm ne)]
    · exact fr d _ (Ne.symm ndt) hd'
    · refine rows_ex (fun c xs q => ?_) hr'
      have nc : c ≠ dt := fun z => by
        obtain ⟨_, rws, q1, _, _⟩ := F'.fo.at_ t dt hdt
        rw [z] at q
        exact lkNoTup q1 xs q
      rcases q with q | ⟨u, q⟩
      · exact .inl (fr c _ nc q)
      · exact .inr ⟨u, fr c _ nc q⟩
    · rw [take_succ_of hL, runIn_snoc]
      exact F4.fo
  · have hjn : j = rows.length := by omega
    subst hjn
    refine .inl ⟨⟨hd', Nat.le_refl _⟩, hd', ?_⟩
    have F'' := F'
    have fk : (runIn t g ((kss.getD i []).take rows.length) kss).getD i [] = kss.getD i [] := by
      have key : ∀ (Ls : List Looks) (ks : List (List Looks)), ks.length = ds.length → (runIn t g Ls ks).getD i [] = ks.getD i [] ∧ (runIn t g Ls ks).length = ds.length := by
        intro Ls
        induction Ls with
        | nil => intro ks hk; exact ⟨rfl, hk⟩
        | cons L Ls ih =>
          intro ks hk
          have e0 : (addTo ks t (g L)).length = ds.length := by unfold addTo; rw [List.length_set]; exact hk
          obtain ⟨z1, z2⟩ := ih (addTo ks t (g L)) e0
          refine ⟨?_, z2⟩
          show (runIn t g Ls (addTo ks t (g L))).getD i [] = _
          rw [z1]
          unfold addTo
          rw [addGet (by rw [hk]; exact lt), if_neg ne]
      exact (key _ kss F.fo.len.symm).1
    rw [hlen, List.take_length] at F'' fk
    have tx1 : TupEx H' (upd H' d (NDO X.prog X.w d rows)) := TupEx.write (lkNoTup (o := some o) (e := d) hd')
    exact kk _ σ' ⟨F''.ok.other nd0 (lkNoTup (o := some o) (e := d) hd') (noOwnAt hno), F''.sl, F''.fo.unlock hd hd' hr' (by rw [g3, fk])⟩
end
end K54
set_option Elab.async false
set_option linter.all false
set_option autoImplicit false
set_option maxRecDepth 100000
set_option maxHeartbeats 2000000
/-! K54: piece_looks, 3: a for with more that is known; the list of empty dicts -/
namespace K54
open PySem PySem.Spec PyProof.Rows L2
/-- more that is known, about the slot f -/
structure FSt (f : Nat) (F : Hp → Hp → L2.St → Prop) : Prop where
  grow : ∀ {H0 Hb H H' : Hp} {σ : L2.St}, F H0 H σ → Same H H' → (∀ b u, Hb b = some u → H0 b = none → H b = none ∨ ∃ xs, Rd H b (.tup xs)) → F Hb H' σ
  slot : ∀ {H0 H : Hp} {σ σ' : L2.St}, F H0 H σ → σ'[f]? = σ[f]? → F H0 H σ'
def tSx (X : Cx) (F : Hp → Hp → L2.St → Prop) (Γ : List Cell) (F' : Hp → Hp → L2.St → Prop) (Γ' : List Cell) : TS := fun D σ H => ∃ H0, EnvOk X.prog X.w X.K H0 H σ Γ ∧ F H0 H σ ∧ ∀ Hb σ' H', Same H0 Hb → EnvOk X.prog X.w X.K Hb H' σ' Γ' → F' Hb H' σ' → D.nx σ' H'
section
variable {X : Cx} {Γ : List Cell} {tg iter : Expr} {body : List Stmt} {pos : Pos} {α : Type} {xs : List α} {enc : α → Arg}
structure XIx (X : Cx) (G : Nat → List Cell) (F : Nat → Hp → Hp → L2.St → Prop) (f : Nat) (tg : Expr) (body : List Stmt) (enc : α → Arg) where
  i : Nat
  x : α
  B : List Cell
  js : List Nat
  ok : f ∉ js ∧ DGt X (G i) tg (enc x) B js ∧ PSs X body (tSx X (F i) B (F (i + 1)) (G (i + 1)))
theorem ps_forX (f : Nat) (G : Nat → List Cell) (F : Nat → Hp → Hp → L2.St → Prop) (hF : ∀ i, FSt f (F i)) (hi : DI X Γ tg iter (xs.map enc)) (h0 : ELe Γ (G 0)) (hb : ∀ i x, xs[i]? = some x → ∃ B js, f ∉ js ∧ DGt X (G i) tg (enc x) B js ∧ PSs X body (tSx X (F i) B (F (i + 1)) (G (i + 1))))
    (hp : PassesOwn (model X.prog X.w) X.A X.env X.xe := by exact PassesOwn.never) (hc : X.calm = true := by rfl) (hs : ∀ x, foldedSetIterable iter X.env x = pure x := by intro _; rfl) : PS X (.For tg iter body [] pos) (tSx X (F 0) Γ (F xs.length) (G xs.length)) := by
  refine PS.wk (ps_for hp hc hi (PG.ex (t := fun q : XIx X G F f tg body enc => gD X.prog X.w X.K (G q.i) (enc q.x) q.B q.js) fun q => q.ok.2.1)
    (PSs.ex (t := fun q : XIx X G F f tg body enc => tSx X (F q.i) q.B (F (q.i + 1)) (G (q.i + 1))) fun q => q.ok.2.2) hs) fun D σ H ⟨H0, ok, fx, q⟩ => ?_
  refine ⟨H0, ok, fun J H1 Hb e1 b1 b6 okb wk => ⟨fun i m σ' H' => i ≤ xs.length ∧ m = xs.length - i ∧ ∃ Hc, Same Hb Hc ∧ EnvOk X.prog X.w X.K Hc H' σ' (G i) ∧ F i Hc H' σ', ⟨_, Nat.zero_le _, rfl, Hb, Same.refl Hb, okb.wk h0, ?_⟩, ?_⟩⟩
  · refine (hF 0).grow fx e1 fun b u h1 h2 => ?_
    cases hb' : H b with
    | none => exact .inl rfl
    | some v =>
      rcases Classical.em (∃ xs, Rd H b (.tup xs)) with z | z
      · exact .inr z
      · have := b6 b v hb' (fun xs q => z ⟨xs, q⟩) h2
        rw [h1] at this; cases this
  rintro i m σ' H' ⟨hl, rfl, Hc, ec, ok', fx'⟩
  have eb : Same Hb H' := ec.trans ok'.ex
  by_cases hlt : i < xs.length
  · have hx : xs[i]? = some xs[i] := List.getElem?_eq_getElem hlt
    generalize xs[i] = x at hx
    obtain ⟨go, yl⟩ := (wk i H' eb).1 (enc x) (by rw [List.getElem?_map, hx]; rfl)
    refine .inr ⟨go, fun σ2 H2 => i + 1 ≤ xs.length ∧ ∃ Hc, Same Hb Hc ∧ EnvOk X.prog X.w X.K Hc H2 σ2 (G (i + 1)) ∧ F (i + 1) Hc H2 σ2, fun σ2 H2 ⟨k1, k2⟩ => ⟨xs.length - (i + 1), by omega, k1, rfl, k2⟩, fun v H2 y => ?_⟩
    obtain ⟨e2, Hi, c1, c2, c3, rv⟩ := yl v H2 y
    obtain ⟨He, d1, d2, ok2, d3⟩ := ok'.union e2 ec c1 c2 c3
    obtain ⟨B, js, hB⟩ := hb i x hx
    refine ⟨⟨i, x, B, js, hB⟩, Hi, c2, rv, fun σ3 _ o3 k => ⟨⟨i, x, B, js, hB⟩, He, k He d2 ok2, ?_, fun Hd σ4 H4 e4 ok4 f4 => ⟨hlt, Hd, (ec.trans d1).trans e4, ok4, f4⟩⟩⟩
    exact (hF i).slot ((hF i).grow fx' e2 fun b u h1 h2 => .inl (d3 b u h1 h2)) (o3 f hB.1)
  · have hin : i = xs.length := by omega
    subst hin
    exact .inl ⟨(wk _ H' eb).2 (by rw [List.length_map]), q Hc σ' H' (b1.trans ec) ok' fx'⟩
/-- the list of dicts as such -/
def FL (X : Cx) (f : Nat) (kss : List (List Looks)) : Hp → Hp → L2.St → Prop := fun H0 H σ => ∃ a ds, σ[f]? = some (some (.ref a)) ∧ FOk X.prog X.w X.K (fun _ => none) H0 H a ds kss
theorem fst_FL (f : Nat) (kss : List (List Looks)) : FSt f (FL X f kss) := ⟨fun ⟨a, ds, h, q⟩ e n => ⟨a, ds, h, q.grow e n⟩, fun ⟨a, ds, h, q⟩ e => ⟨a, ds, e.trans h, q⟩⟩
/-- found = [{} for _ in ..] -/
def tMk (X : Cx) (Γ : List Cell) (f n : Nat) : TS := fun D σ H => ∃ H0, EnvOk X.prog X.w X.K H0 H σ Γ ∧ ∀ H' σ', EnvOk X.prog X.w X.K H0 H' σ' (Γ.set f .un) → FL X f (List.replicate n []) H0 H' σ' → D.nx σ' H'
theorem ps_mk (f : Nat) {n : Str} {pn cpos dpos : Pos} {scope : Scope} (own : List (Str × Nat)) (hi : DI X Γ tg iter (xs.map enc)) (hg : ∀ x ∈ xs, ∃ B js, (∀ j ∈ js, j ∈ own.map (·.2)) ∧ ∀ (s : Shared) (H : Hp) (C : Addr) (cl : List (Str × Addr)) (fp : List Addr), DGt (X.blk s H scope (compEnvC scope cl C X.env) fp) (wipeC Γ (own.map (·.2))) tg (enc x) B js) (hz : xs.length ≤ 1000) (hf : f < Γ.length := by decide) (hk : blkC X.N X.env.scope scope own = true := by kernel_rfl)
    (hj : X.N[f]? = some n := by rfl) (hl : X.env.scope.names.lookup n = some .local := by rfl) (hsw : swapsWith (.ListComp (.Dict [] [] dpos) [⟨tg, iter, [], 0⟩] scope cpos) (some (.Name n pn)) pos.line X.env = pure true := by exact sw_true rfl rfl rfl (by decide +kernel))
    (hN : X.N.Nodup := by assumption) (hc : X.calm = true := by rfl) (hs : ∀ x, foldedSetIterable iter X.env x = pure x := by intro _; rfl) : PS X (.Assign [.Name n pn] (.ListComp (.Dict [] [] dpos) [⟨tg, iter, [], 0⟩] scope cpos) pos) (tMk X Γ f xs.length) := by
  have hG : ∀ (s : Shared) (H : Hp) (C : Addr) (cl : List (Str × Addr)) (fp : List Addr), PG (X.blk s H scope (compEnvC scope cl C X.env) fp) tg (fun v σ H Q => ∃ q : { q : α × List Cell × List Nat // (∀ j ∈ q.2.2, j ∈ own.map (·.2)) ∧ ∀ (s : Shared) (H : Hp) (C : Addr) (cl : List (Str × Addr)) (fp : List Addr), DGt (X.blk s H scope (compEnvC scope cl C X.env) fp) (wipeC Γ (own.map (·.2))) tg (enc q.1) q.2.1 q.2.2 }, gD X.prog X.w X.K (wipeC Γ (own.map (·.2))) (enc q.1.1) q.1.2.1 q.1.2.2 v σ H Q) := fun s H C cl fp => PG.ex fun q => q.2.2 s H C cl fp
  have hE : ∀ (s : Shared) (H : Hp) (C : Addr) (cl : List (Str × Addr)) (fp : List Addr), PE (X.blk s H scope (compEnvC scope cl C X.env) fp) (.Dict [] [] dpos) (tND X.prog X.w) := fun s H C cl fp => pe_nd0
  refine PS.wk (ps_setLc hc hN hj hl hsw hi (blkOk_by hk) hG (fun s H C cl fp => pts_nil) hE hs) fun D σ H ⟨H0, ok, q⟩ => ?_
  refine ⟨H0, ok, fun J H1 Hb e1 b1 _ okb wk L nL => ?_⟩
  refine ⟨fun i m H' => i ≤ xs.length ∧ m = xs.length - i ∧ Same H1 H' ∧ ∃ ds : List Addr, ds.length = i ∧ H' L = some (.lst (ds.map V.ref)) ∧ ds.Nodup ∧ L ∉ ds ∧ ∀ d ∈ ds, H1 d = none ∧ H' d = some (NDO X.prog X.w d []), ⟨_, Nat.zero_le _, rfl, sameNew nL, [], rfl, upd_same, List.nodup_nil, (fun z => nomatch z), fun _ z => nomatch z⟩, ?_⟩
  rintro i m H' ⟨hil, rfl, e', ds, hlen, hL, hnd, hLd, hds⟩
  have eb : Same Hb H' := okb.ex.trans e'
  by_cases hlt : i < xs.length
  · have hx : xs[i]? = some xs[i] := List.getElem?_eq_getElem hlt
    generalize xs[i] = x at hx
    obtain ⟨go, yl⟩ := (wk i H' eb).1 (enc x) (by rw [List.getElem?_map, hx]; rfl)
    refine .inr ⟨go, fun H'' => i + 1 ≤ xs.length ∧ Same H1 H'' ∧ ∃ ds : List Addr, ds.length = i + 1 ∧ H'' L = some (.lst (ds.map V.ref)) ∧ ds.Nodup ∧ L ∉ ds ∧ ∀ d ∈ ds, H1 d = none ∧ H'' d = some (NDO X.prog X.w d []), fun H'' ⟨k1, k2, k3⟩ => ⟨xs.length - (i + 1), by omega, k1, rfl, k2, k3⟩, fun v H'' y => ?_⟩
    obtain ⟨e2, Hc, c1, c2, c3, rv⟩ := yl v H'' y
    obtain ⟨B, js, hB⟩ := hg x (List.mem_of_getElem? hx)
    refine ⟨⟨(x, B, js), hB⟩, Hc, c2, rv, fun σ' l' o' k' => ⟨wipe_eq (by rw [l', wipe_length]) hB.1 o', ?_⟩⟩
    unfold tYes
    simp only [if_true]
    intro p hp
    have hL2 := e2 _ _ hL
    have npL : L ≠ p := ne_of_none hL2 hp
    have npd : ∀ d ∈ ds, d ≠ p := fun d hd => ne_of_none (e2 _ _ (hds d hd).2) hp
    refine ⟨ds.map V.ref, by rw [upd_ne npL]; exact hL2, by rw [List.length_map, hlen]; exact Nat.lt_of_lt_of_le hlt (Nat.le_trans hz (by decide)), hlt, fun c z hcz => ?_, ds ++ [p], by rw [List.length_append, hlen]; rfl, by rw [upd_same, List.map_append]; rfl, ?_, ?_, fun d hd => ?_⟩
    · have ncL : c ≠ L := ne_of_none hcz nL
      have z1 := e2 _ _ (e' _ _ hcz)
      rw [upd_ne ncL, upd_ne (ne_of_none z1 hp)]
      exact z1
    · exact List.nodup_append.mpr ⟨hnd, by simp, fun x hx y hy => by rw [List.mem_singleton.mp hy]; exact npd x hx⟩
    · intro z
      rcases List.mem_append.mp z with z | z
      · exact hLd z
      · exact npL (List.mem_singleton.mp z)
    · rcases List.mem_append.mp hd with z | z
      · have ndL : d ≠ L := fun q => hLd (by rw [← q]; exact z)
        rw [upd_ne ndL, upd_ne (npd d z)]
        exact ⟨(hds d z).1, e2 _ _ (hds d z).2⟩
      · have ez := List.mem_singleton.mp z
        subst ez
        refine ⟨(e'.trans e2).free hp, ?_⟩
        rw [upd_ne (Ne.symm npL), upd_same]
  · have hin : i = xs.length := by omega
    subst hin
    refine .inl ⟨(wk _ H' eb).2 (by rw [List.length_map]), ?_⟩
    have okE := (ok.mono (e1.trans e')).drop f (some (.ref L))
    have len : f < σ.length := by rw [ok.len]; exact hf
    refine q H' _ okE ⟨L, ds, List.getElem?_set_self len, ?_, hL, hnd, hLd, by rw [hlen, List.length_replicate], fun j d hj => ?_⟩
    · exact (ok.ex.trans e1).free nL
    · have hd := List.mem_of_getElem? hj
      refine ⟨(ok.ex.trans e1).free (hds d hd).1, [], (hds d hd).2, ⟨List.nodup_nil, fun _ z => nomatch z⟩, ?_⟩
      have lj := (List.getElem?_eq_some_iff.mp hj).1
      rw [List.getD_eq_getElem?_getD, List.getElem?_replicate, if_pos (by omega)]; rfl
end
end K54
set_option Elab.async false
set_option linter.all false
set_option autoImplicit false
set_option maxRecDepth 100000
set_option maxHeartbeats 1000000
/-! K54: defs of the program, 9: piece_looks -/
namespace K54
open PySem PySem.Spec PyProof.Rows L2
structure Piece where
  steps : List Looks
  stands : List (List (Nat × Nat))
def eArr (a : Nat × Nat) : PyData := .tuple [eN a.1, eN a.2]
def eStep (L : Looks) : PyData := .tuple [eLooks L, .none]
def eWays (r : List (Nat × Nat)) : PyData := .tuple (r.map eArr)
def eSteps (p : Piece) : PyData := .tuple (p.steps.map eStep)
def eStands (p : Piece) : PyData := .tuple (p.stands.map eWays)
def ePiece (p : Piece) : PyData := .tuple [eSteps p, eStands p]
structure VPiece (n : Nat) (p : Piece) : Prop where
  n1 : 1 ≤ n
  n3 : n ≤ 3
  ne : p.steps ≠ []
  steps : ∀ L ∈ p.steps, VLooks n L
  arr : ∀ (i : Nat) (row : List (Nat × Nat)), p.stands[i]? = some row → ∀ a ∈ row, a.1 < p.steps.length ∧ i < a.2 ∧ a.2 ≤ p.stands.length
  few : p.stands.flatten.length ≤ 9
  short : p.stands.length ≤ 900 ∧ p.steps.length ≤ 900
def stepM (p : Piece) (a : Nat) : Looks := p.steps.getD a []
def armM (p : Piece) (i : Nat) (a : Nat × Nat) (kss : List (List Looks)) : List (List Looks) := runIn a.2 (fun L => behindM L (stepM p a.1)) (kss.getD i []) kss
def rowM (p : Piece) (i : Nat) (row : List (Nat × Nat)) (kss : List (List Looks)) : List (List Looks) := row.foldl (fun k a => armM p i a k) kss
def startM (p : Piece) (n : Nat) : List (List Looks) := addTo (List.replicate (p.stands.length + 1) []) 0 (stillM n)
def runTo (p : Piece) (n : Nat) : Nat → List (List Looks)
  | 0 => startM p n
  | i + 1 => rowM p i (p.stands.getD i []) (runTo p n i)
def rowsM (p : Piece) (n : Nat) : List Looks := canon ltLooks ((runTo p n p.stands.length).getD p.stands.length [])
/-! ### sizes -/
def tot (kss : List (List Looks)) : Nat := (kss.map List.length).sum
theorem tot_set : ∀ (kss : List (List Looks)) (t : Nat) (ks : List Looks), ks.length ≤ (kss.getD t []).length + 1 → tot (kss.set t ks) ≤ tot kss + 1
  | [], _, _, _ => by simp [tot]
  | k :: kss, 0, ks, h => by
    have h' : ks.length ≤ k.length + 1 := h
    simp only [tot, List.set_cons_zero, List.map_cons, List.sum_cons]
    omega
  | k :: kss, t + 1, ks, h => by
    have ih := tot_set kss t ks h
    simp only [tot, List.set_cons_succ, List.map_cons, List.sum_cons] at ih ⊢
    omega
theorem get_tot : ∀ (kss : List (List Looks)) (t : Nat), (kss.getD t []).length ≤ tot kss
  | [], _ => by simp [tot]
  | k :: kss, 0 => by
    simp only [tot, List.map_cons, List.sum_cons, List.getD_cons_zero]; omega
  | k :: kss, t + 1 => by
    have ih := get_tot kss t
    simp only [tot, List.map_cons, List.sum_cons, List.getD_cons_succ] at ih ⊢; omega
theorem addTo_tot (kss : List (List Looks)) (t : Nat) (x : Looks) : tot (addTo kss t x) ≤ tot kss + 1 := by
  refine tot_set _ _ _ ?_
  unfold addK
  split
  · omega
  · rw [List.length_append]; exact Nat.le_refl _
theorem runIn_tot (t : Nat) (g : Looks → Looks) : ∀ (Ls : List Looks) (kss : List (List Looks)), tot (runIn t g Ls kss) ≤ tot kss + Ls.length
  | [], _ => Nat.le_refl _
  | L :: Ls, kss => by
    have a := runIn_tot t g Ls (addTo kss t (g L))
    have b := addTo_tot kss t (g L)
    show tot (runIn t g Ls (addTo kss t (g L))) ≤ _
    rw [List.length_cons]; omega
theorem runIn_len (t : Nat) (g : Looks → Looks) : ∀ (Ls : List Looks) (kss : List (List Looks)), (runIn t g Ls kss).length = kss.length
  | [], _ => rfl
  | L :: Ls, kss => by
    show (runIn t g Ls (addTo kss t (g L))).length = _
    rw [runIn_len t g Ls]
    unfold addTo
    rw [List.length_set]
/-- what holds of the lists all along -/
structure KInv (n S c : Nat) (kss : List (List Looks)) : Prop where
  len : kss.length = S + 1
  ok : ∀ (j : Nat), ∀ L ∈ kss.getD j [], VLooks n L
  sz : tot kss ≤ 2 ^ c
theorem addTo_ok {n : Nat} {kss : List (List Looks)} {t : Nat} {x : Looks} (h : ∀ (j : Nat), ∀ L ∈ kss.getD j [], VLooks n L) (hx : VLooks n x) : ∀ (j : Nat), ∀ L ∈ (addTo kss t x).getD j [], VLooks n L := fun j L hL => by
  by_cases ht : t < kss.length
  · unfold addTo at hL
    rw [addGet ht] at hL
    by_cases e : j = t
    · rw [if_pos e] at hL
      unfold addK at hL
      split at hL
      · exact h t L hL
      · rcases List.mem_append.mp hL with z | z
        · exact h t L z
        · rw [List.mem_singleton.mp z]; exact hx
    · rw [if_neg e] at hL
      exact h j L hL
  · unfold addTo at hL
    rw [List.set_eq_of_length_le (by omega)] at hL
    exact h j L hL
theorem runIn_ok {n t : Nat} {g : Looks → Looks} : ∀ {Ls : List Looks} {kss : List (List Looks)}, (∀ L ∈ Ls, VLooks n (g L)) → (∀ (j : Nat), ∀ L ∈ kss.getD j [], VLooks n L) → ∀ (j : Nat), ∀ L ∈ (runIn t g Ls kss).getD j [], VLooks n L
  | [], _, _, h => h
  | L :: Ls, kss, hg, h => runIn_ok (Ls := Ls) (kss := addTo kss t (g L)) (fun x hx => hg x (List.mem_cons_of_mem _ hx)) (addTo_ok h (hg L List.mem_cons_self))
theorem arm_inv {n c i : Nat} {p : Piece} {kss : List (List Looks)} {a : Nat × Nat} (V : VPiece n p) (h : KInv n p.stands.length c kss) (ha : a.1 < p.steps.length) : KInv n p.stands.length (c + 1) (armM p i a kss) := by
  have vs : VLooks n (stepM p a.1) := by
    unfold stepM
    rw [List.getD_eq_getElem?_getD, List.getElem?_eq_getElem ha]
    exact V.steps _ (List.getElem_mem ha)
  refine ⟨by unfold armM; rw [runIn_len]; exact h.len, runIn_ok (fun L hL => behindV (h.ok i L hL) vs) h.ok, ?_⟩
  have x1 := runIn_tot a.2 (fun L => behindM L (stepM p a.1)) (kss.getD i []) kss
  have x2 := get_tot kss i
  have x3 := h.sz
  unfold armM
  rw [Nat.pow_succ]; omega
theorem row_inv {n i : Nat} {p : Piece} (V : VPiece n p) : ∀ {row : List (Nat × Nat)} {c : Nat} {kss : List (List Looks)}, KInv n p.stands.length c kss → (∀ a ∈ row, a.1 < p.steps.length) → KInv n p.stands.length (c + row.length) (rowM p i row kss)
  | [], _, _, h, _ => h
  | a :: row, c, kss, h, hr => by
    have z := row_inv (i := i) V (row := row) (c := c + 1) (arm_inv (i := i) V h (hr a List.mem_cons_self)) fun b hb => hr b (List.mem_cons_of_mem _ hb)
    rw [List.length_cons, show c + (row.length + 1) = c + 1 + row.length by omega]
    exact z
theorem still_v (n : Nat) : VLooks n (stillM n) := by
  refine ⟨by unfold stillM; rw [List.length_map, List.length_range], fun l hl => ?_⟩
  obtain ⟨i, hi, rfl⟩ := List.mem_map.mp hl
  exact ⟨by simp, List.pairwise_singleton _ _, fun x hx => by rw [List.mem_singleton.mp hx]; exact List.mem_range.mp hi⟩
theorem start_inv {n : Nat} {p : Piece} : KInv n p.stands.length 0 (startM p n) := by
  refine ⟨by unfold startM addTo; rw [List.length_set, List.length_replicate], addTo_ok (fun j L hL => ?_) (still_v n), ?_⟩
  · rw [List.getD_eq_getElem?_getD, List.getElem?_replicate] at hL
    split at hL <;> cases hL
  · have := addTo_tot (List.replicate (p.stands.length + 1) []) 0 (stillM n)
    have z : ∀ m, tot (List.replicate m []) = 0 := fun m => by
      induction m with
      | zero => rfl
      | succ m ih => rw [List.replicate_succ]; simp only [tot, List.map_cons, List.sum_cons, List.length_nil] at ih ⊢; omega
    rw [z] at this
    exact this
def cnt (p : Piece) (i : Nat) : Nat := (p.stands.take i).flatten.length
theorem cnt_succ {p : Piece} {i : Nat} {row : List (Nat × Nat)} (h : p.stands[i]? = some row) : cnt p (i + 1) = cnt p i + row.length := by
  unfold cnt
  rw [take_succ_of h, List.flatten_append, List.length_append]; simp
theorem cnt_le {n : Nat} {p : Piece} (V : VPiece n p) (i : Nat) : cnt p i ≤ 9 := by
  refine Nat.le_trans ?_ V.few
  unfold cnt
  have e : p.stands.flatten = (p.stands.take i).flatten ++ (p.stands.drop i).flatten := by rw [← List.flatten_append, List.take_append_drop]
  rw [e, List.length_append]
  exact Nat.le_add_right _ _
theorem run_inv {n : Nat} {p : Piece} (V : VPiece n p) : ∀ i, i ≤ p.stands.length → KInv n p.stands.length (cnt p i) (runTo p n i)
  | 0, _ => start_inv
  | i + 1, h => by
    have hi : p.stands[i]? = some (p.stands.getD i []) := by rw [List.getD_eq_getElem?_getD, List.getElem?_eq_getElem (by omega : i < p.stands.length)]; rfl
    rw [cnt_succ hi]
    exact row_inv V (run_inv V i (by omega)) fun a ha => (V.arr i _ hi a ha).1
end K54
set_option Elab.async false
set_option linter.all false
set_option autoImplicit false
set_option maxRecDepth 100000
set_option maxHeartbeats 2000000
/-! K54: piece_looks, 4: the rules in one shape -/
namespace K54
open PySem PySem.Spec PyProof.Rows L2
open PySem.W (EachIs alike dataLe dataLt AllAlike Sortable)
/-- more is known, about a slot -/
def tX (X : Cx) (F : Hp → Hp → L2.St → Prop) (Γ : List Cell) (o : Out) : TS := fun D σ H => ∃ H0, EnvOk X.prog X.w X.K H0 H σ Γ ∧ F H0 H σ ∧ Takes X.prog X.w X.K H0 D o
section
variable {X : Cx} {Γ Γ1 Γ2 : List Cell} {F F' F1 : Hp → Hp → L2.St → Prop} {o : Out} {st : Stmt} {rest : List Stmt} {e etgt key tg iter : Expr} {body : List Stmt} {p p0 p1 p2 pc pos pos1 pos2 : Pos} {n : Str} {jj : Nat} {kss : List (List Looks)}
theorem dx_cons (h1 : PS X st (tSx X F Γ F' Γ1)) (h2 : PSs X rest (tX X F' Γ1 o)) : PSs X (st :: rest) (tX X F Γ o) := PSs.wk (pss_cons h1 h2) fun D σ H ⟨H0, ok, fx, q⟩ => ⟨H0, ok, fx, fun Hb σ' H' e ok' f' => ⟨Hb, ok', f', q.up e⟩⟩
theorem dss_mk {f m : Nat} (h1 : PS X st (tMk X Γ f m)) (h2 : PSs X rest (tX X (FL X f (List.replicate m [])) (Γ.set f .un) o)) : DSs X Γ (st :: rest) o := PSs.wk (pss_cons h1 h2) fun D σ H ⟨H0, ok, q⟩ => ⟨H0, ok, fun H' σ' ok' f' => ⟨H0, ok', f', q⟩⟩
theorem dx_is {F1 : Hp → Hp → L2.St → Prop} {o1 : Out} (h : PSs X rest (tX X F Γ o)) (e : F = F1) (eo : o = o1) : PSs X rest (tX X F1 Γ o1) := by subst e; subst eo; exact h
theorem dx_wk (h : PSs X rest (tSx X F Γ F' Γ1)) (l : ELe Γ1 Γ2) (e : F' = F1) : PSs X rest (tSx X F Γ F1 Γ2) := by
  subst e
  exact PSs.wk h fun D σ H ⟨H0, ok, fx, q⟩ => ⟨H0, ok, fx, fun Hb σ' H' e ok' f' => q Hb σ' H' e (ok'.wk l) f'⟩
theorem ps_strX (f t : Nat) {x : Looks} (ht : t < kss.length) (few : (kss.getD t []).length ≤ 1000) (hno : noOwn Γ = true) (hte : DE X Γ etgt (.int (t : Int))) (hk : DE X Γ key (eLooks x)) (hu : X.A.units + 20 < cLine) (hp : PlainIx etgt := by exact fun _ _ => rfl) (hN : X.N[f]? = some n := by rfl) (hv : Vis X.env.scope n := by first | exact Or.inl rfl | exact Or.inr (Or.inl rfl) | exact Or.inr (Or.inr rfl)) (hd : (n == ("__debug__" : Str)) = false := by decide) (hcd : (n == ("__classdict__" : Str)) = false := by decide)
    (has : ∀ v, assign (.Subscript (.Subscript (.Name n p0) etgt p1) key p2) X.env v = (do
      let ov ← holding [v] (eval (.Subscript (.Name n p0) etgt p1) X.env)
      let iv ← holding [v, ov] (eval key X.env)
      standAt p2
      holding [v, ov, iv] (setItem ov iv v)
      release [v, ov, iv] []) := by intro _; rfl)
    (hs : swapsWithSole [.Subscript (.Subscript (.Name n p0) etgt p1) key p2] (.Constant (.bool true) jj pc) pos.line X.env = pure false := by rfl) (hw : swappedStores [.Subscript (.Subscript (.Name n p0) etgt p1) key p2] (.Constant (.bool true) jj pc) X.env = pure none := by rfl) (h1 : (assignEach [.Subscript (.Subscript (.Name n p0) etgt p1) key p2] X.env).map (·.2) = [assign (.Subscript (.Subscript (.Name n p0) etgt p1) key p2) X.env] := by rfl) :
    PS X (.Assign [.Subscript (.Subscript (.Name n p0) etgt p1) key p2] (.Constant (.bool true) jj pc) pos) (tSx X (FL X f kss) Γ (FL X f (addTo kss t x)) Γ) :=
  PS.wk (ps_str f t hno hte hk hu hp hN hv hd hcd has hs hw h1) fun D σ H ⟨H0, ok, ⟨a, ds, sl, fo⟩, q⟩ => by
    have lt : t < ds.length := by rw [fo.len]; exact ht
    exact ⟨fun _ => none, H0, a, ds, kss, ds[t], ⟨ok, sl, fo⟩, List.getElem?_eq_getElem lt, rfl, few, fun H' F' _ => q H0 σ H' (Same.refl _) F'.ok ⟨a, ds, F'.sl, F'.fo⟩⟩
theorem ps_inX (f i t l : Nat) (g : Looks → Looks) (q : Looks → Prop) (hq : ∀ L ∈ kss.getD i [], q L) (li : i < kss.length) (lt : t < kss.length) (ne : i ≠ t) (few : ∀ m, ((runIn t g ((kss.getD i []).take m) kss).getD t []).length ≤ 1000) (hno : noOwn Γ = true) (hfl : f ≠ l) (hl : Γ[l]? = some .un) (hi : PE X iter (tFnd X Γ f i)) (hg : ∀ L, DGt X Γ tg (.t (eLooks L)) (Γ.set l (.dat (eLooks L))) [l]) (hb : ∀ L, q L → PSs X body (tStr X (Γ.set l (.dat (eLooks L))) f t (g L)))
    (hp : PassesOwn (model X.prog X.w) X.A X.env X.xe := by exact PassesOwn.never) (hc : X.calm = true := by rfl) (hs : ∀ x, foldedSetIterable iter X.env x = pure x := by intro _; rfl) : PS X (.For tg iter body [] pos) (tSx X (FL X f kss) Γ (FL X f (runIn t g (kss.getD i []) kss)) Γ) :=
  PS.wk (ps_in f i t l g q hno hfl hl hi hg hb hp hc hs) fun D σ H ⟨H0, ok, ⟨a, ds, sl, fo⟩, k⟩ =>
    ⟨H0, a, ds, kss, hq, ⟨ok, sl, fo⟩, by rw [fo.len]; exact li, by rw [fo.len]; exact lt, ne, few, fun H' σ' F' => k H0 σ' H' (Same.refl _) F'.ok ⟨a, ds, F'.sl, F'.fo⟩⟩
theorem de_m1 {j : Nat} : DE X Γ (.UnaryOp .USub (.Constant (.int 1) j p) pos) (.int (-1)) := PE.wk (pe_un un_neg pe_int) fun σ H Q ⟨H0, ok, q⟩ => ⟨1, rfl, q _ H (Same.refl H) (.int _)⟩
theorem atI_last {α : Type} {ds : List α} {d : α} (h : ds[ds.length - 1]? = some d) (h0 : ds ≠ []) : atI ds (-1) = some d := by
  cases ds with
  | nil => exact absurd rfl h0
  | cons x l =>
    rw [← h]
    unfold atI
    have z : ixN (x :: l).length (-1) = some ((x :: l).length - 1) := by
      unfold ixN
      have h1 : ¬ ((0 : Int) ≤ -1) := by omega
      have h2 : (0 : Int) ≤ -1 + ((x :: l).length : Nat) ∧ (-1 + ((x :: l).length : Nat) : Int) < ((x :: l).length : Nat) := by simp only [List.length_cons]; omega
      simp
      omega
    rw [z]; rfl
/-- return tuple(sorted(found[-1])) -/
theorem ps_retF (f : Nat) (h0 : kss ≠ []) (few : (kss.getD (kss.length - 1) []).length ≤ 1000) (hL : ∀ L ∈ kss.getD (kss.length - 1) [], L ≠ []) (h : DE X Γ e (.int (-1))) (hu : X.A.units + 64 < cLine) (hm : X.mg "tuple" = none) (hm2 : X.mg "sorted" = none) (hpi : PlainIx e := by exact fun _ _ => rfl) (hc : X.calm = true := by rfl) (hg : Gl X "tuple" := by rfl) (hg2 : Gl X "sorted" := by rfl) (hN : X.N[f]? = some n := by rfl) (hv : Vis X.env.scope n := by first | exact Or.inl rfl | exact Or.inr (Or.inl rfl) | exact Or.inr (Or.inr rfl)) (hd : (n == ("__debug__" : Str)) = false := by decide) (hcd : (n == ("__classdict__" : Str)) = false := by decide)
    (hs : starEach [.Call (.Name "sorted" p2) [.Subscript (.Name n p0) e pos1] [] pos2] X.env = (false, eval (.Call (.Name "sorted" p2) [.Subscript (.Name n p0) e pos1] [] pos2) X.env) :: starEach [] X.env := by rfl) (hs2 : starEach [.Subscript (.Name n p0) e pos1] X.env = (false, eval (.Subscript (.Name n p0) e pos1) X.env) :: starEach [] X.env := by rfl) (hpl : (backTo pos (starEach [] X.env)).any (·.1) = false := by rfl) (hpl2 : (backTo pos2 (starEach [] X.env)).any (·.1) = false := by rfl) {posr : Pos} :
    PS X (.Return (some (.Call (.Name "tuple" p) [.Call (.Name "sorted" p2) [.Subscript (.Name n p0) e pos1] [] pos2] [] pos)) posr) (tX X (FL X f kss) Γ (.rt (.tuple ((canon ltLooks (kss.getD (kss.length - 1) [])).map eLooks)))) :=
  PS.wk (ps_ret (pe_callTy call_tuple_of hg hm (by decide +kernel) (pa_cons (pe_callB (cr_sortND hc hu) hg2 hm2 (by decide +kernel) (pa_cons (pe_fnd (Γ := Γ) f h hpi hN hv hd hcd) pa_nil hs2) (by decide) (by decide) hs2 hpl2) pa_nil hs) (by decide) (by decide) hs hpl)) fun D σ H ⟨H0, ok, ⟨a, ds, sl, fo⟩, q⟩ => by
    have lpos : 0 < kss.length := List.length_pos_iff.mpr h0
    have lt : kss.length - 1 < ds.length := by rw [fo.len]; omega
    have hd : ds[kss.length - 1]? = some ds[kss.length - 1] := List.getElem?_eq_getElem lt
    generalize ds[kss.length - 1] = d at hd
    have dn : ds ≠ [] := fun z => by rw [z] at lt; exact absurd lt (Nat.not_lt_zero _)
    refine ⟨fun _ => none, H0, a, ds, kss, d, ⟨ok, sl, fo⟩, atI_last (by rw [fo.len]; exact hd) dn, fun H1 e1 => ?_⟩
    obtain ⟨n0, rows, g1, g2, g3⟩ := (fo.mono e1).at_ _ d hd
    have g1' : H1 d = some (NDO X.prog X.w d rows) := g1
    have hlen : rows.length = (kss.getD (kss.length - 1) []).length := by
      have z := congrArg List.length g3
      rwa [List.length_map, List.length_map] at z
    have eL := encRows kLooks rows _ g3
    refine ⟨d, rows, rfl, g1', g2, by rw [hlen]; exact few, ?_, ?_, fun L' pp pm pw np => ?_⟩
    · rw [eL]
      exact PySem.W.AllAlike.of kLooks.al
    · rw [eL]
      refine .inl fun d' hd' => ?_
      obtain ⟨z, hz', rfl⟩ := List.mem_map.mp hd'
      have zne := hL z hz'
      cases z with
      | nil => exact absurd rfl zne
      | cons l z => exact ⟨_, _, rfl⟩
    · obtain ⟨ys, ey, hy⟩ := itemsOf kLooks (kss.getD (kss.length - 1) []) L' fun r hr' => by rw [← g3]; exact List.mem_map_of_mem (pm.mem_iff.mp hr')
      have e3 : Same H1 (upd H1 pp (.lst (L'.map fun r => V.ref r.2))) := sameNew np
      have tds := tdsRows kLooks L' ys ey fun r hr' => (g2.2 r (pm.mem_iff.mp hr')).1.ex e3
      have ndy : ys.Nodup := ndKof kLooks (by rw [← ey]; exact (pm.map (·.1)).nodup_iff.mpr g2.1)
      have asc := asc_of_le kLooks.lin (pairKof kLooks L' ys ey pw) ndy
      have mem : ∀ z, z ∈ ys ↔ z ∈ kss.getD (kss.length - 1) [] := fun z => by
        rw [← mapKof kLooks (zs := ys), ← ey, (pm.map (·.1)).mem_iff, g3, mapKof kLooks]
      rw [canon_is kLooks.lin asc mem] at tds
      refine ⟨pp, _, rfl, .inl ⟨.of upd_same, fun l hl => ?_⟩⟩
      exact q _ _ ((ok.ex.trans e1).trans (e3.trans (sameNew hl))) (.tup (.of upd_same) (tds.ex (sameNew hl)))
end
end K54
set_option Elab.async false
set_option linter.all false
set_option autoImplicit false
set_option maxRecDepth 100000
set_option maxHeartbeats 2000000
/-! K54: defs of the program, 10: piece_looks -/
namespace K54
open PySem PySem.Spec PyProof.Rows L2
theorem tupled_seq {x : PyData} {ds : List PyData} (h : tupled x = .tuple ds) : ∃ xs, IsSq x xs ∧ xs.map tupled = ds := by
  cases x with
  | list xs => rw [tupled, tupleds_map] at h; exact ⟨xs, .lst xs, by injection h⟩
  | tuple xs => rw [tupled, tupleds_map] at h; exact ⟨xs, .tup xs, by injection h⟩
  | none => rw [tupled] at h; cases h
  | bool b => rw [tupled] at h; cases h
  | int i => rw [tupled] at h; cases h
  | str s => rw [tupled] at h; cases h
  | dict k => rw [tupled] at h; cases h
theorem tupled_at {xs ds : List PyData} {i : Nat} {d : PyData} (h : xs.map tupled = ds) (hd : ds[i]? = some d) : ∃ y, xs[i]? = some y ∧ tupled y = d := by
  rw [← h, List.getElem?_map] at hd
  exact Option.map_eq_some_iff.mp hd
/-- x is the piece p, its tuples and lists mixed -/
structure IsPiece (n : Nat) (p : Piece) (x : PyData) : Prop where
  v : VPiece n p
  sl : slim x = true
  dp : x.depth ≤ 5
  tp : tupled x = ePiece p
theorem IsPiece.count {n : Nat} {p : Piece} {x : PyData} (h : IsPiece n p x) : rCount [.g x] (eN n) := by
  obtain ⟨L0, Lr, e0⟩ : ∃ L0 Lr, p.steps = L0 :: Lr := by
    cases hs : p.steps with
    | nil => exact absurd hs h.v.ne
    | cons x l => exact ⟨x, l, rfl⟩
  obtain ⟨xs, h0, m0⟩ := tupled_seq h.tp
  obtain ⟨x1, g0, t1⟩ := tupled_at (i := 0) m0 rfl
  obtain ⟨xs1, h1, m1⟩ := tupled_seq (ds := p.steps.map eStep) t1
  obtain ⟨x2, g1, t2⟩ := tupled_at (i := 0) (d := eStep L0) m1 (by rw [e0]; rfl)
  obtain ⟨xs2, h2, m2⟩ := tupled_seq (ds := [eLooks L0, .none]) t2
  obtain ⟨x3, g2, t3⟩ := tupled_at (i := 0) m2 rfl
  obtain ⟨xs3, h3, m3⟩ := tupled_seq (ds := L0.map eLot) t3
  refine ⟨x, x1, x2, x3, xs, xs1, xs2, xs3, h0, g0, h1, g1, h2, g2, h3, rfl, ?_⟩
  have z := congrArg List.length m3
  rw [List.length_map, List.length_map] at z
  rw [z, (h.v.steps L0 (by rw [e0]; exact List.mem_cons_self)).1]
theorem rowM_snoc (p : Piece) (i : Nat) (row : List (Nat × Nat)) (a : Nat × Nat) (kss : List (List Looks)) : rowM p i (row ++ [a]) kss = armM p i a (rowM p i row kss) := by unfold rowM; rw [List.foldl_append]; rfl
section
variable {P : Program} {w : World} {K : PySem.W.Frag} {mg : Str → Option Value} {base : Heap} {k : Nat}
theorem scS25 : FnScope ["piece", "steps", "stands", "found", "stand", "ways", "place", "target", "looks", "_"] ["piece"] (defScope (top 25)) := ⟨rfl, rfl, rfl, by decide +kernel, rfl, by decide +kernel, by decide +kernel⟩
def rPL (as : List Arg) (d : PyData) : Prop := ∃ x p n, IsPiece n p x ∧ as = [.g x] ∧ d = eRows (rowsM p n)
theorem ok_looks (B : Blt mg) (D : DefAt K mg "piece_looks" 25 ["piece"]) (O1 : Ok P w K mg base "tuple_of" k ["thing"] (spE K (rTupled 5))) (O2 : Ok P w K mg base "stand_still" k ["n"] (spE K rStill)) (O3 : Ok P w K mg base "count_in" k ["piece"] (spE K rCount)) (O4 : Ok P w K mg base "behind_looks" k ["looks", "others"] (spE K rBehind)) : Ok P w K mg base "piece_looks" (k + 1) ["piece"] (spE K rPL) := by
  refine okE' D scS25 (fun as d h => by obtain ⟨_, _, _, _, rfl, _⟩ := h; rfl) fun nd f cdv A outer s H E hr as d h => ?_
  obtain ⟨x, p, n, V, rfl, rfl⟩ := h
  have hu := hr.units
  have hu' : A.units + 3 + 64 < cLine := hu
  have S1 := V.v.short
  have c0 : (startM p n).length = p.stands.length + 1 := (start_inv (n := n) (p := p)).len
  have runLen : ∀ i, i ≤ p.stands.length → (runTo p n i).length = p.stands.length + 1 := fun i hi => (run_inv V.v i hi).len
  have at_ : ∀ {i : Nat} {row : List (Nat × Nat)}, p.stands[i]? = some row → p.stands.getD i [] = row := fun h => by rw [List.getD_eq_getElem?_getD, h]; rfl
  have inv : ∀ {i j : Nat} {row : List (Nat × Nat)} {a : Nat × Nat}, p.stands[i]? = some row → row[j]? = some a → KInv n p.stands.length (cnt p i + j) (rowM p i (row.take j) (runTo p n i)) ∧ cnt p i + j < 9 := fun {i j row a} hi hj => by
    have lt := (List.getElem?_eq_some_iff.mp hi).1
    have lj := (List.getElem?_eq_some_iff.mp hj).1
    have z := row_inv (i := i) V.v (row := row.take j) (run_inv V.v i (by omega)) fun b hb => (V.v.arr i row hi b (List.mem_of_mem_take hb)).1
    rw [List.length_take, Nat.min_eq_left (by omega)] at z
    have c1 := cnt_succ hi
    have c2 := cnt_le V.v (i + 1)
    exact ⟨z, by omega⟩
  have zi : ∀ {i : Nat} {q : List (Nat × Nat) × Nat}, p.stands.zipIdx[i]? = some q → p.stands[i]? = some q.1 ∧ q.2 = i := fun {i q} h => by
    rw [List.getElem?_zipIdx] at h
    obtain ⟨y, h1, h2⟩ := Option.map_eq_some_iff.mp h
    rw [← h2]
    exact ⟨h1, by omega⟩
  refine DSs.is (dss_cons (ds_asg (de_fn O1 hr (dr_g (dg_var 0) dr_nil) ⟨x, V.sl, V.dp, rfl, V.tp.symm⟩) (dg_tup (dgs_cons (dg_name 1) (dgs_cons (dg_name 2) dgs_nil)))) (dss_mk (ps_mk 3 [("_", 9)] (xs := List.range (p.stands.length + 1)) (enc := fun i => .t (.int (i : Nat))) (di_range (j := ((p.stands.length + 1 : Nat) : Int)) (DE.is (de_op op_add opI0 (de_lenT (ds := p.stands.map eWays) (de_var 2) B.len) de_int) ?_) B.range) (fun x hx => ⟨_, _, ?_, fun s H C cl fp => dg_name 9⟩) ?_ (hf := by show 3 < 10; decide))
    (dx_cons (ps_strX 3 0 (kss := List.replicate (List.range (p.stands.length + 1)).length []) (x := stillM n) ?_ ?_ rfl de_int (de_fn O2 hr (dr_t (de_fn O3 hr (dr_g (dg_var 0) dr_nil) V.count) dr_nil) ⟨n, ?_, rfl, rfl⟩) ?_)
    (dx_is (F := FL _ 3 (runTo p n 0)) (dx_cons (ps_forX 3 (fun _ => [.gd x, .dat (eSteps p), .dat (eStands p), .un, .un, .un, .un, .un, .un, .un]) (fun i => FL _ 3 (runTo p n i)) (fun i => fst_FL 3 _) (xs := p.stands.zipIdx) (enc := fun q => .t (.tuple [.int (q.2 : Nat), eWays q.1])) (di_enT (xs := p.stands) (enc := eWays) (de_var 2) B.enumerate) (ELe.refl _) fun i q hq => ⟨_, _, ?_, dg_tup (dgs_cons (dg_name 4) (dgs_cons (dg_name 5) dgs_nil)), dx_wk (pss_one (ps_forX 3 (fun _ => [.gd x, .dat (eSteps p), .dat (eStands p), .un, .dat (.int (q.2 : Nat)), .dat (eWays q.1), .un, .un, .un, .un]) (fun j => FL _ 3 (rowM p i (q.1.take j) (runTo p n i))) (fun j => fst_FL 3 _) (xs := q.1) (enc := fun a => .t (eArr a)) (di_tup (de_var 5)) (ELe.refl _) fun j a ha => ⟨_, _, ?_, dg_tup (dgs_cons (dg_name 6) (dgs_cons (dg_name 7) dgs_nil)), dx_wk (pss_one (ps_inX 3 i a.2 8 (fun L => behindM L (stepM p a.1)) (VLooks n) ?_ ?_ ?_ ?_ ?_ rfl ?_ rfl (pe_fnd 3 (DE.is (de_var 4) ?_)) (fun L => dg_name 8) fun L hL => pss_one (ps_str 3 a.2 rfl (de_var 7) (de_fn O4 hr (dr_t (de_var 8) (dr_t (de_ixT (ds := [eLooks (stepM p a.1), .none]) (de_ixT (ds := p.steps.map eStep) (de_var 1) (de_var 6) (atI_nat ?_)) de_int rfl) dr_nil)) ⟨n, L, stepM p a.1, V.v.n3, hL, ?_, rfl, rfl⟩) ?_))) ?_ ?_⟩)) ?_ ?_⟩) (dx_is (pss_one (ps_retF 3 (kss := runTo p n p.stands.length) ?_ ?_ ?_ de_m1 ?_ B.tuple B.sorted)) ?_ rfl)) ?_ rfl)))) ?_
  · congr 1
    rw [List.length_map]; omega
  · exact fun j hj => hj
  · rw [List.length_range]; omega
  · rw [List.length_replicate, List.length_range]; omega
  · rw [List.getD_eq_getElem?_getD, List.getElem?_replicate]
    split <;> simp
  · have := V.v.n3; omega
  · show A.units + 3 + 20 < cLine; omega
  · decide
  · decide
  · exact (inv (zi hq).1 ha).1.ok i
  · rw [(inv (zi hq).1 ha).1.len]
    have := (List.getElem?_eq_some_iff.mp (zi hq).1).1; omega
  · rw [(inv (zi hq).1 ha).1.len]
    have := (V.v.arr i _ (zi hq).1 a (List.mem_of_getElem? ha)).2.2; omega
  · have := (V.v.arr i _ (zi hq).1 a (List.mem_of_getElem? ha)).2.1; omega
  · intro m
    obtain ⟨I1, I2⟩ := inv (zi hq).1 ha
    have x1 := runIn_tot a.2 (fun L => behindM L (stepM p a.1)) (((rowM p i (q.1.take j) (runTo p n i)).getD i []).take m) (rowM p i (q.1.take j) (runTo p n i))
    have x2 := get_tot (runIn a.2 (fun L => behindM L (stepM p a.1)) (((rowM p i (q.1.take j) (runTo p n i)).getD i []).take m) (rowM p i (q.1.take j) (runTo p n i))) a.2
    have x3 := get_tot (rowM p i (q.1.take j) (runTo p n i)) i
    have x4 := I1.sz
    have x5 : 2 ^ (cnt p i + j) ≤ 2 ^ 8 := Nat.pow_le_pow_right (by omega) (by omega)
    rw [List.length_take] at x1
    have : min m ((rowM p i (q.1.take j) (runTo p n i)).getD i []).length ≤ ((rowM p i (q.1.take j) (runTo p n i)).getD i []).length := Nat.min_le_right _ _
    omega
  · decide
  · rw [(zi hq).2]
  · have lt := (V.v.arr i _ (zi hq).1 a (List.mem_of_getElem? ha)).1
    unfold stepM
    rw [List.getElem?_map, List.getD_eq_getElem?_getD, List.getElem?_eq_getElem lt]; rfl
  · have lt := (V.v.arr i _ (zi hq).1 a (List.mem_of_getElem? ha)).1
    unfold stepM
    rw [List.getD_eq_getElem?_getD, List.getElem?_eq_getElem lt]
    exact V.v.steps _ (List.getElem_mem lt)
  · show A.units + 3 + 20 < cLine; omega
  · exact .cons (.eq _) (.cons (.eq _) (.cons (.eq _) (.cons (.eq _) (.cons (.eq _) (.cons (.eq _) (.cons (.un _) (.cons (.un _) (.cons (.eq _) (.cons (.eq _) .nil)))))))))
  · rw [take_succ_of ha, rowM_snoc]; rfl
  · exact .cons (.eq _) (.cons (.eq _) (.cons (.eq _) (.cons (.eq _) (.cons (.un _) (.cons (.un _) (.cons (.eq _) (.cons (.eq _) (.cons (.eq _) (.cons (.eq _) .nil)))))))))
  · rw [List.take_length]
    show FL _ 3 _ = FL _ 3 (rowM p i (p.stands.getD i []) (runTo p n i))
    rw [at_ (zi hq).1]
  · intro z
    have := runLen _ (Nat.le_refl _)
    rw [z] at this; cases this
  · have x2 := get_tot (runTo p n p.stands.length) ((runTo p n p.stands.length).length - 1)
    have x4 := (run_inv V.v _ (Nat.le_refl _)).sz
    have x5 : 2 ^ cnt p p.stands.length ≤ 2 ^ 9 := Nat.pow_le_pow_right (by omega) (cnt_le V.v _)
    omega
  · intro L hL z
    have := (run_inv V.v _ (Nat.le_refl _)).ok _ L hL
    have l1 := this.1
    have := V.v.n1
    rw [z] at l1
    simp at l1; omega
  · show A.units + 3 + 64 < cLine; omega
  · rw [List.length_zipIdx]
  · rw [List.length_range]; rfl
  · rw [runLen _ (Nat.le_refl _)]; rfl
end
end K54
set_option Elab.async false
set_option linter.all false
set_option autoImplicit false
set_option maxRecDepth 100000
set_option maxHeartbeats 2000000
/-! K54: defs of the program, 11: piece_table, pieces_alike, is_surrounding -/
namespace K54
open PySem PySem.Spec PyProof.Rows L2
/-- a piece the walk can take: its rows are few -/
structure GP (n : Nat) (p : Piece) (x : PyData) : Prop where
  is : IsPiece n p x
  ne : rowsM p n ≠ []
  lt : (rowsM p n).length < 64
theorem GP.rows {n : Nat} {p : Piece} {x : PyData} (h : GP n p x) : ∀ L ∈ rowsM p n, VLooks n L := fun L hL => (run_inv h.is.v _ (Nat.le_refl _)).ok _ L (mem_canon.mp hL)
theorem camps_few : ∀ n, n ≤ 3 → (campsM n).length ≤ 900 ∧ (campsM n).Nodup := by
  intro n hn
  match n, hn with
  | 0, _ => exact ⟨by decide, by decide⟩
  | 1, _ => exact ⟨by decide, by decide⟩
  | 2, _ => exact ⟨by decide, by decide⟩
  | 3, _ => exact ⟨by decide, by decide⟩
theorem table_fst (Ls : List Looks) (n : Nat) : (tableM Ls n).map (·.1) = campsM n := by
  unfold tableM
  rw [List.map_map]
  exact List.map_id _
theorem table_ok {n : Nat} {Ls : List Looks} (hn : n ≤ 3) (hl : Ls.length < 64) (hv : ∀ L ∈ Ls, VLooks n L) : TSmall (tableM Ls n) ∧ ((tableM Ls n).map (·.1)).Nodup := by
  refine ⟨⟨?_, fun r hr => ?_⟩, by rw [table_fst]; exact (camps_few n hn).2⟩
  · unfold tableM
    rw [List.length_map]; exact (camps_few n hn).1
  · obtain ⟨c, hc, rfl⟩ := List.mem_map.mp hr
    have vc := campsM_mem hn hc
    have q : ∀ g ∈ great (Ls.filterMap fun L => ledM L c), CSmall g := fun g hg => by
      have z := mem_canon.mp (List.mem_filter.mp hg).1
      obtain ⟨L, hL, e⟩ := List.mem_filterMap.mp z
      have := ledSmall (hv L hL) e
      exact ⟨by omega, by omega⟩
    refine ⟨?_, ⟨by have := vc.1.len; show c.1.length ≤ 1000; omega, by have := vc.2.len; show c.2.length ≤ 1000; omega⟩, q⟩
    show (great (Ls.filterMap fun L => ledM L c)).length ≤ 900
    have z1 : (great (Ls.filterMap fun L => ledM L c)).length ≤ (canon ltCamps (Ls.filterMap fun L => ledM L c)).length := List.length_filter_le _ _
    have z2 := canon_len (lt := ltCamps) (Ls.filterMap fun L => ledM L c)
    have z3 := List.length_filterMap_le (fun L => ledM L c) Ls
    omega
theorem nice_Cs (cs : List Camps) : Nice (eCs cs) 3 := nice_tmap nice_Camps
theorem nice_Row (r : Row) : Nice (eRow r) 4 := nice_pair (Nice.up (nice_Camps r.1) (by decide)) (nice_Cs r.2)
theorem nice_Tab (t : Tab) : Nice (eTab t) 5 := nice_tmap nice_Row
theorem eqv_Tab : EqvIs eTab := eqv_tmap (eqv_pair eqv_Camps (eqv_tmap eqv_Camps))
theorem eqv_B (a b : Bool) : PyData.eqv (.bool a) (.bool b) = decide (a = b) := by cases a <;> cases b <;> rfl
/-- what is_looks says of any data -/
theorem isNat {y : PyData} {n : Nat} (h : isNum y = true) (h2 : inR y n = true) : ∃ m : Nat, y = eN m ∧ m < n := by
  obtain ⟨i, rfl⟩ := numInt h
  simp only [inR, Bool.and_eq_true, decide_eq_true_eq] at h2
  refine ⟨i.toNat, ?_, by omega⟩
  show PyData.int i = .int (i.toNat : Int)
  congr 1
  omega
theorem natsOf {n : Nat} : ∀ ds : List PyData, (∀ y ∈ ds, ∃ m : Nat, y = eN m ∧ m < n) → ∃ l : Lot, ds = l.map eN ∧ ∀ m ∈ l, m < n
  | [], _ => ⟨[], rfl, fun _ z => nomatch z⟩
  | d :: ds, h => by
    obtain ⟨l, e, hl⟩ := natsOf ds fun y hy => h y (List.mem_cons_of_mem _ hy)
    obtain ⟨m, e2, hm⟩ := h d List.mem_cons_self
    refine ⟨m :: l, by rw [e, e2]; rfl, fun x hx => ?_⟩
    rcases List.mem_cons.mp hx with z | z
    · rw [z]; exact hm
    · exact hl x z
theorem asc_of_steps : ∀ l : Lot, (∀ k, k < l.length - 1 → l.getD k 0 < l.getD (k + 1) 0) → l.Pairwise (fun a b => ltN a b = true)
  | [], _ => List.Pairwise.nil
  | [x], _ => List.pairwise_singleton _ _
  | x :: y :: l, h => by
    have ih := asc_of_steps (y :: l) fun k hk => by
      have z := h (k + 1) (by simp only [List.length_cons] at hk ⊢; omega)
      simpa using z
    have h0 : x < y := by simpa using h 0 (by simp)
    refine List.pairwise_cons.mpr ⟨fun z hz => ?_, ih⟩
    have : ∀ z ∈ y :: l, y ≤ z := fun z hz => by
      rcases List.mem_cons.mp hz with e | e
      · rw [e]; exact Nat.le_refl _
      · have q := (List.pairwise_cons.mp ih).1 z e
        have q' : y < z := by simpa [ltN] using q
        omega
    have := this z hz
    show ltN x z = true
    simp [ltN]; omega
theorem isLot_v {y : PyData} {n : Nat} (h : isLotM y n = true) : ∃ l : Lot, y = eLot l ∧ VLot n l := by
  cases y with
  | tuple ds =>
    simp only [isLotM, Bool.and_eq_true, decide_eq_true_eq, List.all_eq_true] at h
    obtain ⟨h1, h2, h3⟩ := h
    obtain ⟨l, e, hl⟩ := natsOf (n := n) ds fun y hy => isNat (h2 y hy).1 (h2 y hy).2
    subst e
    refine ⟨l, rfl, fun z => h1 (by rw [z]; rfl), asc_of_steps l fun k hk => ?_, hl⟩
    have z := h3 k (List.mem_range.mpr (by rw [List.length_map]; exact hk))
    have a1 : k < l.length := by omega
    have a2 : k + 1 < l.length := by omega
    rw [List.getD_eq_getElem?_getD, List.getD_eq_getElem?_getD, List.getElem?_map, List.getElem?_map, List.getElem?_eq_getElem a1, List.getElem?_eq_getElem a2] at z
    rw [List.getD_eq_getElem?_getD, List.getD_eq_getElem?_getD, List.getElem?_eq_getElem a1, List.getElem?_eq_getElem a2]
    have z' : decide ((l[k] : Int) < (l[k + 1] : Int)) = true := z
    have := of_decide_eq_true z'
    simp only [Option.getD_some]
    omega
  | _ => cases h
theorem lotsOf {n : Nat} : ∀ ds : List PyData, (∀ y ∈ ds, ∃ l : Lot, y = eLot l ∧ VLot n l) → ∃ L : Looks, ds = L.map eLot ∧ ∀ l ∈ L, VLot n l
  | [], _ => ⟨[], rfl, fun _ z => nomatch z⟩
  | d :: ds, h => by
    obtain ⟨l, e, hl⟩ := lotsOf ds fun y hy => h y (List.mem_cons_of_mem _ hy)
    obtain ⟨m, e2, hm⟩ := h d List.mem_cons_self
    refine ⟨m :: l, by rw [e, e2]; rfl, fun x hx => ?_⟩
    rcases List.mem_cons.mp hx with z | z
    · rw [z]; exact hm
    · exact hl x z
theorem isLooks_v {x : PyData} {n : Nat} (h : isLooksM x n = true) : ∃ L : Looks, x = eLooks L ∧ VLooks n L := by
  cases x with
  | tuple ds =>
    simp only [isLooksM, Bool.and_eq_true, decide_eq_true_eq, List.all_eq_true] at h
    obtain ⟨h1, h2⟩ := h
    obtain ⟨L, e, hL⟩ := lotsOf (n := n) ds fun y hy => isLot_v (h2 y hy)
    subst e
    exact ⟨L, rfl, by rw [← h1, List.length_map], hL⟩
  | _ => cases h
def surM (p q : Piece) (n m : Nat) (L : Looks) : Bool := keepsM (tableM (rowsM p n) n) L != keepsM (tableM (rowsM q m) m) L
section
variable {P : Program} {w : World} {K : PySem.W.Frag} {mg : Str → Option Value} {base : Heap} {k : Nat}
theorem scS27 : FnScope ["piece"] ["piece"] (defScope (top 27)) := ⟨rfl, rfl, rfl, by decide +kernel, rfl, by decide +kernel, by decide +kernel⟩
def rPTab (as : List Arg) (d : PyData) : Prop := ∃ x p n, GP n p x ∧ as = [.g x] ∧ d = eTab (tableM (rowsM p n) n)
theorem ok_ptab (D : DefAt K mg "piece_table" 27 ["piece"]) (O1 : Ok P w K mg base "piece_looks" k ["piece"] (spE K rPL)) (O2 : Ok P w K mg base "table_of_looks" k ["looks"] (spE K rTable)) : Ok P w K mg base "piece_table" (k + 1) ["piece"] (spE K rPTab) := by
  refine okE' D scS27 (fun as d h => by obtain ⟨_, _, _, _, rfl, _⟩ := h; rfl) fun nd f cdv A outer s H E hr as d h => ?_
  obtain ⟨x, p, n, G, rfl, rfl⟩ := h
  exact dss_one (ds_ret (de_fn O2 hr (dr_t (de_fn O1 hr (dr_g (dg_var 0) dr_nil) ⟨x, p, n, G.is, rfl, rfl⟩) dr_nil) ⟨rowsM p n, n, G.is.v.n3, G.ne, G.lt, G.rows, rfl, rfl⟩))
theorem scS28 : FnScope ["one", "other"] ["one", "other"] (defScope (top 28)) := ⟨rfl, rfl, rfl, by decide +kernel, rfl, by decide +kernel, by decide +kernel⟩
def rAlike (as : List Arg) (d : PyData) : Prop := ∃ x p n y q m, GP n p x ∧ GP m q y ∧ as = [.g x, .g y] ∧ d = .bool (decide (tableM (rowsM p n) n = tableM (rowsM q m) m))
theorem ok_alike (D : DefAt K mg "pieces_alike" 28 ["one", "other"]) (O : Ok P w K mg base "piece_table" k ["piece"] (spE K rPTab)) : Ok P w K mg base "pieces_alike" (k + 1) ["one", "other"] (spE K rAlike) := by
  refine okE' D scS28 (fun as d h => by obtain ⟨_, _, _, _, _, _, _, _, rfl, _⟩ := h; rfl) fun nd f cdv A outer s H E hr as d h => ?_
  obtain ⟨x, p, n, y, q, m, G1, G2, rfl, rfl⟩ := h
  refine dss_one (ds_ret (DE.is (dg_cmp (op_eqD hr.units) (opEqD ((nice_Tab _).shaped (by decide)) ((nice_Tab _).shaped (by decide))) (de_fn O hr (dr_g (dg_var 0) dr_nil) ⟨x, p, n, G1, rfl, rfl⟩).g (de_fn O hr (dr_g (dg_var 1) dr_nil) ⟨y, q, m, G2, rfl, rfl⟩).g) ?_))
  rw [eqv_Tab]
theorem scS33 : FnScope ["one", "other", "thing"] ["one", "other", "thing"] (defScope (top 33)) := ⟨rfl, rfl, rfl, by decide +kernel, rfl, by decide +kernel, by decide +kernel⟩
def rIsSur (as : List Arg) (d : PyData) : Prop := ∃ x p n y q m z, GP n p x ∧ GP m q y ∧ slim z = true ∧ as = [.g x, .g y, .g z] ∧ ((isLooksM z n = false ∧ d = .bool false) ∨ ∃ L, z = eLooks L ∧ VLooks n L ∧ d = .bool (surM p q n m L))
theorem v_isLooks {n : Nat} {L : Looks} (h : VLooks n L) : isLooksM (eLooks L) n = true := by
  have e : isLooksM (eLooks L) n = (decide ((L.map eLot).length = n) && (L.map eLot).all fun y => isLotM y n) := rfl
  rw [e, Bool.and_eq_true, decide_eq_true_eq, List.length_map, List.all_eq_true]
  refine ⟨h.1, fun y hy => ?_⟩
  obtain ⟨l, hl, rfl⟩ := List.mem_map.mp hy
  obtain ⟨h1, h2, h3⟩ := h.2 l hl
  have e2 : isLotM (eLot l) n = (decide (l.map eN ≠ []) && ((l.map eN).all (fun y => isNum y && inR y n) && (List.range ((l.map eN).length - 1)).all fun k => ltD ((l.map eN).getD k .none) ((l.map eN).getD (k + 1) .none))) := rfl
  rw [e2, Bool.and_eq_true, Bool.and_eq_true, decide_eq_true_eq, List.all_eq_true, List.all_eq_true]
  refine ⟨fun z => h1 (List.map_eq_nil_iff.mp z), fun y hy => ?_, fun k hk => ?_⟩
  · obtain ⟨m, hm, rfl⟩ := List.mem_map.mp hy
    have := h3 m hm
    show (true && (decide ((0 : Int) ≤ (m : Nat)) && decide (((m : Nat) : Int) < (n : Nat)))) = true
    simp; omega
  · have hk' := List.mem_range.mp hk
    rw [List.length_map] at hk'
    have a1 : k < l.length := by omega
    have a2 : k + 1 < l.length := by omega
    rw [List.getD_eq_getElem?_getD, List.getD_eq_getElem?_getD, List.getElem?_map, List.getElem?_map, List.getElem?_eq_getElem a1, List.getElem?_eq_getElem a2]
    have z := List.pairwise_iff_getElem.mp h2 k (k + 1) a1 a2 (by omega)
    have z' : l[k] < l[k + 1] := by simpa [ltN] using z
    show decide ((l[k] : Int) < (l[k + 1] : Int)) = true
    exact decide_eq_true (by omega)
theorem ok_isSur (D : DefAt K mg "is_surrounding" 33 ["one", "other", "thing"]) (O1 : Ok P w K mg base "count_in" k ["piece"] (spE K rCount)) (O2 : Ok P w K mg base "is_looks" k ["thing", "n"] (spE K rIsLooks)) (O3 : Ok P w K mg base "piece_table" k ["piece"] (spE K rPTab)) (O4 : Ok P w K mg base "keeps_round" k ["table", "looks"] (spE K rKeeps)) : Ok P w K mg base "is_surrounding" (k + 1) ["one", "other", "thing"] (spE K rIsSur) := by
  refine okE' D scS33 (fun as d h => by obtain ⟨_, _, _, _, _, _, _, _, _, _, rfl, _⟩ := h; rfl) fun nd f cdv A outer s H E hr as d h => ?_
  obtain ⟨x, p, n, y, q, m, z, G1, G2, hs, rfl, h⟩ := h
  rcases h with ⟨hz, rfl⟩ | ⟨L, rfl, hL, rfl⟩
  · exact dss_if (b := true) (DT.is (dt_not (dt_val (de_fn O2 hr (dr_g (dg_var 2) (dr_t (de_fn O1 hr (dr_g (dg_var 0) dr_nil) G1.is.count) dr_nil)) ⟨z, n, hs, rfl, rfl⟩))) (by rw [hz]; rfl)) (fun _ => dss_one (ds_ret de_bl)) fun z => nomatch z
  · have T1 := table_ok G1.is.v.n3 G1.lt G1.rows
    have T2 := table_ok G2.is.v.n3 G2.lt G2.rows
    have n3 := G1.is.v.n3
    have lm : ∀ m ∈ L, m.length ≤ 1000 := fun m hm => by have := (hL.2 m hm).len; omega
    have ll : L.length ≤ 1000 := by rw [hL.1]; omega
    refine dss_if (b := false) (DT.is (dt_not (dt_val (de_fn O2 hr (dr_g (dg_var 2) (dr_t (de_fn O1 hr (dr_g (dg_var 0) dr_nil) G1.is.count) dr_nil)) ⟨eLooks L, n, hs, rfl, rfl⟩))) (by rw [v_isLooks hL]; rfl)) (fun z => nomatch z) fun _ => dss_one (ds_ret (DE.is (dg_cmp (op_neD hr.units) (opNeD rfl rfl) (de_fn O4 hr (dr_t (de_fn O3 hr (dr_g (dg_var 0) dr_nil) ⟨x, p, n, G1, rfl, rfl⟩) (dr_t (DG.t (dg_var 2) (tonly_Looks L)) dr_nil)) ⟨_, L, T1.1.1, T1.2, fun r hr => (T1.1.2 r hr).1, ll, lm, rfl, rfl⟩).g (de_fn O4 hr (dr_t (de_fn O3 hr (dr_g (dg_var 1) dr_nil) ⟨y, q, m, G2, rfl, rfl⟩) (dr_t (DG.t (dg_var 2) (tonly_Looks L)) dr_nil)) ⟨_, L, T2.1.1, T2.2, fun r hr => (T2.1.2 r hr).1, ll, lm, rfl, rfl⟩).g) ?_))
    rw [eqv_B]
    unfold surM
    cases keepsM (tableM (rowsM p n) n) L <;> cases keepsM (tableM (rowsM q m) m) L <;> rfl
end
end K54
set_option Elab.async false
set_option linter.all false
set_option autoImplicit false
set_option maxRecDepth 100000
set_option maxHeartbeats 2000000
/-! K54, the data layer, 15: a def that may raise an own error; or between data -/
namespace K54
open PySem PySem.Spec PyProof.Rows L2
def truD : PyData → Option Bool
  | .none => some false
  | .bool b => some b
  | .int i => some (i != 0)
  | .tuple ds => some (!ds.isEmpty)
  | _ => none
theorem tds_empty {K : PySem.W.Frag} {H : Hp} {vs : List V} {ds : List PyData} (h : TDs K H vs ds) : vs.isEmpty = ds.isEmpty := by
  have := h.length
  cases vs <;> cases ds <;> simp_all
theorem td_tru {K : PySem.W.Frag} {H : Hp} {v : V} {d : PyData} {k : Bool} (h : TD K H v d) (e : truD d = some k) : TruV K v H k := by
  cases h with
  | non => cases e; rfl
  | bl b => cases e; rfl
  | int i => cases e; rfl
  | str s => cases e
  | tup h1 h2 =>
    cases e
    exact .inr (.inl ⟨_, h1, by rw [tds_empty h2]⟩)
section
variable {X : Cx} {Γ Γ1 : List Cell} {a b e c : Expr} {x y : PyData} {rest : List Expr} {pos p : Pos} {st : Stmt} {sts th : List Stmt} {C : Addr} {E : XK}
theorem de_orD {k : Bool} (h : DE X Γ a x) (hk : truD x = some k) (hr : k = false → DE X Γ (.BoolOp .Or (b :: rest) pos) y) : DE X Γ (.BoolOp .Or (a :: b :: rest) pos) (if k = true then x else y) :=
  PE.wk (pe_orT h (peIf hr)) fun σ H Q ⟨H0, ok, q⟩ => ⟨H0, ok, fun v H1 e1 r1 => by
    refine ⟨k, td_tru r1 hk, ?_⟩
    cases k with
    | false => exact ⟨rfl, H0, ok.mono e1, fun v H2 e2 r2 => q v H2 (e1.trans e2) r2⟩
    | true => exact q _ H1 e1 r1⟩
/-- X() -/
theorem pmk_own0 {bmB : List Value} {B newId initId : String} {n : Str} (F : ExcBaseFacts B newId initId bmB) (q : PySem.W.excIn X.K C bmB newId = true) (gC : X.mg n = some (.ref C)) (kC : PySem.W.keepIn X.K (.ref C) = true) (r : Raises X (.ref C)) (hg : Gl X n)
    (hdb : (n == ("__debug__" : Str)) = false := by decide) : PMk X (.Call (.Name n p) [] [] pos) (fun _ H Q => Q (.ref C) none H) := by
  intro pins s σ H Q I h
  refine wpAny_Call_Name_kw (ld_glob I hg gC ?_ hdb)
  refine PySem.W.callWith_K0 I.kIn kC ?_
  show wpAny _ _ (call (.ref C) []) _ _ _
  obtain ⟨bm, N, nm, qn, bs, hdct, sn, sub, ab, col, dd, k0, k1, k2, k3, k5, mN, hC, hN, hni, T⟩ := exc_obj I.kIn q
  obtain ⟨hp, g, dr, tk, os⟩ := s
  refine wpAny_call_exc_subT F T hC hN hni (fun h' e hm => ?_) (by show 0 ≤ sizeLine; exact Nat.zero_le _)
  exact mk_of I hm r h (I.hok.gone hm.new)
/-- the error's class, as the top has written it -/
structure ErrAt (K : PySem.W.Frag) (mg : Str → Option Value) (n : Str) (C : Addr) : Prop where
  g : mg n = some (.ref C)
  keep : PySem.W.keepIn K (.ref C) = true
  exc : ∃ (bmB : List Value) (B newId initId : String), ExcBaseFacts B newId initId bmB ∧ PySem.W.excIn K C bmB newId = true
  sub : PySem.W.subIn K (.ref C) (.type "BaseException") = some true
  ty : PySem.W.typeIn K (.ref C) = some (.type "type")
/-- an error of the class C leaves -/
def tR (X : Cx) (Γ : List Cell) (C : Addr) (E : XK) : TS := fun _ σ H => ∃ H0, EnvOk X.prog X.w X.K H0 H σ Γ ∧ ∀ H', Same H0 H' → E (.ref C) none H'
theorem rs_raise {n : Str} {pos2 : Pos} (T : ErrAt X.K X.mg n C) (hc : X.calm = true) (tk : L2.Takes X (fun cls d _ H => E cls d H)) (hg : Gl X n := by rfl) (hdb : (n == ("__debug__" : Str)) = false := by decide) : PS X (.Raise (some (.Call (.Name n p) [] [] pos)) none pos2) (tR X Γ C E) := by
  obtain ⟨bmB, B, nw, ini, F, q⟩ := T.exc
  exact PS.wk (ps_raise hc tk (pmk_own0 F q T.g T.keep (raises_own T.sub T.ty) hg hdb)) fun D σ H ⟨H0, ok, k⟩ => k H ok.ex
theorem rs_cons (h1 : DS X Γ st (.nx Γ1)) (h2 : PSs X sts (tR X Γ1 C E)) : PSs X (st :: sts) (tR X Γ C E) := PSs.wk (pss_cons h1 h2) fun D σ H ⟨H0, ok, q⟩ => ⟨H0, ok, fun Hb σ' H' e ok' => ⟨Hb, ok', fun H2 e2 => q H2 (e.trans e2)⟩⟩
theorem rs_if (hc : DT X Γ c true) (h1 : PSs X th (tR X Γ C E)) : PSs X (.If c th [] pos :: sts) (tR X Γ C E) :=
  PSs.wk (pss_cons (ps_if hc h1 (pss_never (X := X) (sts := []))) pss_never) fun D σ H ⟨H0, ok, q⟩ => ⟨H0, ok, fun H1 e1 => iteT ⟨H0, ok.mono e1, q⟩⟩
end
/-- a def that answers or raises -/
def spS (K : PySem.W.Frag) (C : Addr) (R : List Arg → Option PyData → Prop) : Sp := fun vs H Q E => ∃ as r, ArgsOk K H vs as ∧ R as r ∧ (∀ d, r = some d → ∀ v H', Same H H' → TD K H' v d → Q v H') ∧ (r = none → ∀ H', Same H H' → E (.ref C) none H')
abbrev BXS (P : Program) (w : World) (K : PySem.W.Frag) (mg : Str → Option Value) (base : Heap) (N : List Str) (x : Str) (st : Stmt) (f : Addr) (cdv : Value) (A : Around) (outer : List Env) (s : Shared) (H : Hp) (E : XK) : Cx :=
  cxOf (L2.CX P w) P w K mg base N x (defScope st) f cdv A outer s H E
def OkS (P : Program) (w : World) (K : PySem.W.Frag) (mg : Str → Option Value) (base : Heap) (x : Str) (k : Nat) (ps : List Str) (C : Addr) (R : List Arg → Option PyData → Prop) : Prop := ∃ f fd, FnOk P w K mg base (L2.CX P w) k f fd ps (spS K C R) ∧ mg x = some (.ref f) ∧ PySem.W.keepIn K (.ref f) = true ∧ Binds K fd ps []
section
variable {P : Program} {w : World} {K : PySem.W.Frag} {mg : Str → Option Value} {base : Heap} {x : Str} {i k : Nat} {N ps : List Str} {C : Addr}
theorem OkS.mono {j : Nat} {R : List Arg → Option PyData → Prop} (o : OkS P w K mg base x j ps C R) (h : j ≤ k) : OkS P w K mg base x k ps C R := by
  obtain ⟨f, fd, F, r⟩ := o
  exact ⟨f, fd, F.mono h, r⟩
theorem okS' {R : List Arg → Option PyData → Prop} (D : DefAt K mg x i ps) (S : FnScope N ps (defScope (top i))) (hl : ∀ as r, R as r → as.length = ps.length)
    (hb : N.Nodup → ∀ (f : Addr) (cdv : Value) (A : Around) (outer : List Env) (s : Shared) (H : Hp) (E : XK), Room k (BXS P w K mg base N x (top i) f cdv A outer s H E).A → L2.Takes (BXS P w K mg base N x (top i) f cdv A outer s H E) (fun cls d _ H => E cls d H) →
      (∀ as d, R as (some d) → DSs (BXS P w K mg base N x (top i) f cdv A outer s H E) (cellsOf N as) (defBody (top i)) (.rt d)) ∧ ∀ as, R as none → PSs (BXS P w K mg base N x (top i) f cdv A outer s H E) (defBody (top i)) (tR (BXS P w K mg base N x (top i) f cdv A outer s H E) (cellsOf N as) C E)) : OkS P w K mg base x (k + 1) ps C R := by
  obtain ⟨f, fd, F, h1, h2⟩ := D
  refine ⟨f, fd, F.okX S (fun vs H Q E h => ?_) (fun cdv A outer s H vs Q E hr h => ?_), h1, F.kp, h2⟩
  · obtain ⟨as, r, g1, g2, _⟩ := h
    rw [g1.length, hl as r g2]
  · obtain ⟨as, r, g1, g2, q1, q2⟩ := h
    obtain ⟨b1, b2⟩ := hb S.nd f cdv A outer s H E hr (takes_of rfl rfl rfl rfl)
    cases r with
    | some d => exact ⟨_, b1 as d g2, H, env_start g1, q1 d rfl⟩
    | none => exact ⟨_, b2 as g2, H, env_start g1, q2 rfl⟩
end
/-! ### surrounding -/
def foundM (t b : Tab) : Option (Camps × Camps) := match firstM t b with
  | some q => some q
  | none => firstM b t
def answerM (p q : Piece) (n m : Nat) : Option Looks := (foundM (tableM (rowsM p n) n) (tableM (rowsM q m) m)).map fun c => tellM c.1 c.2 n
section
variable {P : Program} {w : World} {K : PySem.W.Frag} {mg : Str → Option Value} {base : Heap} {k : Nat} {C : Addr}
theorem scS32 : FnScope ["one", "other", "near", "far", "found"] ["one", "other"] (defScope (top 32)) := ⟨rfl, rfl, rfl, by decide +kernel, rfl, by decide +kernel, by decide +kernel⟩
def rSur (as : List Arg) (r : Option PyData) : Prop := ∃ x p n y q m, GP n p x ∧ GP m q y ∧ as = [.g x, .g y] ∧ r = (answerM p q n m).map eLooks
theorem ok_sur (B : Blt mg) (D : DefAt K mg "surrounding" 32 ["one", "other"]) (T : ErrAt K mg "CanNot" C) (O1 : Ok P w K mg base "piece_table" k ["piece"] (spE K rPTab)) (O2 : Ok P w K mg base "first_unlike" k ["table", "beside"] (spE K rFirst)) (O3 : Ok P w K mg base "telling_looks" k ["camps", "goal", "n"] (spE K rTell)) (O4 : Ok P w K mg base "count_in" k ["piece"] (spE K rCount)) : OkS P w K mg base "surrounding" (k + 1) ["one", "other"] C rSur := by
  refine okS' D scS32 (fun as d h => by obtain ⟨_, _, _, _, _, _, _, _, rfl, _⟩ := h; rfl) fun nd f cdv A outer s H E hr tk => ?_
  have e0 : ∀ t b : Tab, (if (truD (eHit (firstM t b))).getD false = true then eHit (firstM t b) else eHit (firstM b t)) = eHit (foundM t b) := fun t b => by
    unfold foundM
    cases firstM t b <;> rfl
  have tk1 : ∀ t b : Tab, truD (eHit (firstM t b)) = some ((truD (eHit (firstM t b))).getD false) := fun t b => by
    cases firstM t b <;> rfl
  refine ⟨fun as d h => ?_, fun as h => ?_⟩
  · obtain ⟨x, p, n, y, q, m, G1, G2, rfl, h⟩ := h
    have T1 := table_ok G1.is.v.n3 G1.lt G1.rows
    have T2 := table_ok G2.is.v.n3 G2.lt G2.rows
    obtain ⟨L, hL, rfl⟩ := Option.map_eq_some_iff.mp h.symm
    obtain ⟨c, hc, rfl⟩ := Option.map_eq_some_iff.mp hL
    refine dss_cons (ds_par 2 3 (de_fn O1 hr (dr_g (dg_var 0) dr_nil) ⟨x, p, n, G1, rfl, rfl⟩) (de_fn O1 hr (dr_g (dg_var 1) dr_nil) ⟨y, q, m, G2, rfl, rfl⟩)) (dss_cons (ds_set 4 (d := eHit (some c)) (DE.is (de_orD (de_fn O2 hr (dr_t (de_var 2) (dr_t (de_var 3) dr_nil)) ⟨_, _, T1.1, T2.1, rfl, rfl⟩) (tk1 _ _) fun _ => de_one (de_fn O2 hr (dr_t (de_var 3) (dr_t (de_var 2) dr_nil)) ⟨_, _, T2.1, T1.1, rfl, rfl⟩)) ?_)) (dss_if (b := false) (DT.is (dt_isN (DE.g (de_var 4))) ?_) (fun z => nomatch z) fun _ => dss_one (ds_ret (de_fn O3 hr (dr_t (de_ixT (ds := [eCamps c.1, eCamps c.2]) (de_var 4) de_int rfl) (dr_t (de_ixT (ds := [eCamps c.1, eCamps c.2]) (de_var 4) de_int rfl) (dr_t (de_fn O4 hr (dr_g (dg_var 0) dr_nil) G1.is.count) dr_nil))) ⟨c.1, c.2, n, ?_, rfl, rfl⟩))))
    · rw [e0, hc]
    · rfl
    · have := G1.is.v.n3; omega
  · obtain ⟨x, p, n, y, q, m, G1, G2, rfl, h⟩ := h
    have T1 := table_ok G1.is.v.n3 G1.lt G1.rows
    have T2 := table_ok G2.is.v.n3 G2.lt G2.rows
    have hc := Option.map_eq_none_iff.mp (Option.map_eq_none_iff.mp h.symm)
    refine rs_cons (ds_par 2 3 (de_fn O1 hr (dr_g (dg_var 0) dr_nil) ⟨x, p, n, G1, rfl, rfl⟩) (de_fn O1 hr (dr_g (dg_var 1) dr_nil) ⟨y, q, m, G2, rfl, rfl⟩)) (rs_cons (ds_set 4 (d := eHit none) (DE.is (de_orD (de_fn O2 hr (dr_t (de_var 2) (dr_t (de_var 3) dr_nil)) ⟨_, _, T1.1, T2.1, rfl, rfl⟩) (tk1 _ _) fun _ => de_one (de_fn O2 hr (dr_t (de_var 3) (dr_t (de_var 2) dr_nil)) ⟨_, _, T2.1, T1.1, rfl, rfl⟩)) ?_)) (rs_if (DT.is (dt_isN (DE.g (de_var 4))) ?_) (pss_one (rs_raise T rfl tk))))
    · rw [e0, hc]
    · rfl
end
end K54
set_option Elab.async false
set_option linter.all false
set_option autoImplicit false
set_option maxRecDepth 100000
set_option maxHeartbeats 2000000
/-! K54: defs of the law, 1: within, lots_of, camps_of, is_whole, is_row, still, in, are_in -/
namespace K54
open PySem PySem.Spec PyProof.Rows L2
theorem eqv_lnil {α : Type} [DecidableEq α] {f : α → PyData} (xs : List α) : PyData.eqv (.list (xs.map f)) (.list []) = decide (xs = []) := by cases xs <;> simp [PyData.eqv, PyData.eqvAll]
section
variable {X : Cx} {Γ : List Cell} {e : Expr} {pos p : Pos} {α : Type} [DecidableEq α] {xs : List α} {f : α → PyData} {k : Nat}
/-- a list == [] -/
theorem dt_eqNil (h : DN X Γ e (xs.map f)) (hf : ∀ x, Nice (f x) k) (hu : X.A.units + 64 < cLine) (hk : k + 1 ≤ 64 := by decide) (hm : behindInMarks .Eq (.List [] p) = false := by first | exact nomark _ | rfl) : DT X Γ (.Compare e [.Eq] [.List [] p] pos) (decide (xs = [])) :=
  DT.is (dtg_cmp (k := PyData.eqv (.list (xs.map f)) (.list [])) (op_eqD hu) (opEqD ((nice_lmap hf).shaped hk) rfl) h.g (DN.g (dn_lst du_nil)) hm) (eqv_lnil xs)
theorem de_eqNil (h : DN X Γ e (xs.map f)) (hf : ∀ x, Nice (f x) k) (hu : X.A.units + 64 < cLine) (hk : k + 1 ≤ 64 := by decide) (hm : behindInMarks .Eq (.List [] p) = false := by first | exact nomark _ | rfl) : DE X Γ (.Compare e [.Eq] [.List [] p] pos) (.bool (decide (xs = []))) :=
  DE.is (dg_cmp (op_eqD hu) (opEqD ((nice_lmap hf).shaped hk) rfl) h.g (DN.g (dn_lst du_nil)) hm) (by rw [eqv_lnil])
theorem dt_neNil (h : DN X Γ e (xs.map f)) (hf : ∀ x, Nice (f x) k) (hu : X.A.units + 64 < cLine) (hk : k + 1 ≤ 64 := by decide) (hm : behindInMarks .NotEq (.List [] p) = false := by first | exact nomark _ | rfl) : DT X Γ (.Compare e [.NotEq] [.List [] p] pos) (decide (xs ≠ [])) :=
  DT.is (dtg_cmp (k := !PyData.eqv (.list (xs.map f)) (.list [])) (op_neD hu) (opNeD ((nice_lmap hf).shaped hk) rfl) h.g (DN.g (dn_lst du_nil)) hm) (by rw [eqv_lnil]; simp)
end
section
variable {X : Cx} {Γ : List Cell} {e : Expr} {pos p : Pos} {α : Type} [DecidableEq α] {xs : List α} {f : α → PyData} {k : Nat}
theorem de_neNil (h : DL X Γ e (xs.map f)) (hf : ∀ x, Nice (f x) k) (hu : X.A.units + 64 < cLine) (hk : k + 1 ≤ 64 := by decide) (hm : behindInMarks .NotEq (.List [] p) = false := by first | exact nomark _ | rfl) : DE X Γ (.Compare e [.NotEq] [.List [] p] pos) (.bool (decide (xs ≠ []))) :=
  DE.is (dg_cmp (op_neD hu) (opNeD ((nice_lmap hf).shaped hk) rfl) h.g (DN.g (dn_lst du_nil)) hm) (by rw [eqv_lnil]; simp)
end
theorem filt_nil {l m : Lot} : decide (l.filter (fun x => !decide (x ∈ m)) = []) = within l m := by
  rw [Bool.eq_iff_iff, decide_eq_true_iff, List.filter_eq_nil_iff]
  unfold within
  simp
theorem filt_apart {l m : Lot} : decide (l.filter (fun x => decide (x ∈ m)) = []) = apartM l m := by
  rw [Bool.eq_iff_iff, decide_eq_true_iff, List.filter_eq_nil_iff]
  unfold apartM
  simp
section
variable {P : Program} {w : World} {K : PySem.W.Frag} {mg : Str → Option Value} {base : Heap} {k : Nat}
theorem scS43 : FnScope ["_law_looks_so", "_law_lot_so", "_law_k", "_law_own", "_law_far"] ["_law_looks_so", "_law_lot_so"] (defScope (top 43)) := ⟨rfl, rfl, rfl, by decide +kernel, rfl, by decide +kernel, by decide +kernel⟩
theorem ok_lwithin (B : Blt mg) (D : DefAt K mg "_law_within" 43 ["_law_looks_so", "_law_lot_so"]) : Ok P w K mg base "_law_within" (k + 1) ["_law_looks_so", "_law_lot_so"] (spE K rLw) := by
  refine okE' D scS43 (fun as d h => by obtain ⟨L, l, _, _, rfl, _⟩ := h; rfl) fun nd f cdv A outer s H E hr as d h => ?_
  obtain ⟨L, l, h1, h2, rfl, rfl⟩ := h
  refine DSs.is (dss_one (ds_ret (de_tupL (DN.l (dn_lc [("_law_k", 2), ("_law_own", 3)] (xs := L.zipIdx) (enc := fun p => .t (.tuple [.int (p.2 : Nat), eLot p.1])) (p := fun p => within p.1 l) (f := fun p => eN p.2) (di_enT (de_var 0) B.enumerate)
    (fun x hx => ⟨_, _, by decide, fun s H C cl fp => ⟨dg_tup (dgs_cons (dg_name 2) (dgs_cons (dg_name 3) dgs_nil)), dts_one (DT.is (dt_eqNil (k := 0) (DN.is (dn_lc [("_law_far", 4)] (xs := x.1) (enc := fun n => .t (eN n)) (p := fun y => !decide (y ∈ l)) (f := eN) (di_tup (de_var 3)) (fun y hy => ⟨_, _, by decide, fun s H C cl fp => ⟨dg_name 4, dts_one (dt_cmp op_notIn_seq opNotIn (de_var 4) (de_var 1)), fun _ => de_var 4⟩⟩) ?_) rfl) nice_N hr.units) filt_nil), fun _ => de_var 2⟩⟩) (by rw [List.length_zipIdx]; omega))) B.tuple))) ?_
  · have := h2 _ (memZip hx); omega
  · unfold lw eLot
    rw [List.map_map]; rfl
theorem scS51 : FnScope ["_law_n", "_law_k"] ["_law_n"] (defScope (top 51)) := ⟨rfl, rfl, rfl, by decide +kernel, rfl, by decide +kernel, by decide +kernel⟩
theorem ok_lstill (B : Blt mg) (D : DefAt K mg "_law_still" 51 ["_law_n"]) : Ok P w K mg base "_law_still" (k + 1) ["_law_n"] (spE K rStill) := by
  refine okE' D scS51 (fun as d h => by obtain ⟨n, _, rfl, _⟩ := h; rfl) fun nd f cdv A outer s H E hr as d h => ?_
  obtain ⟨n, h1, rfl, rfl⟩ := h
  refine DSs.is (dss_one (ds_ret (de_tupL (DN.l (dn_lcA [("_law_k", 1)] (xs := List.range n) (enc := fun i => .t (.int (i : Nat))) (f := fun i => .tuple [eN i]) (di_range (j := n) (de_var 0) B.range)
    (fun x hx => ⟨_, _, by decide, fun s H C cl fp => ⟨dg_name 1, de_tup (du_cons (de_var 1) du_nil)⟩⟩) (by rw [List.length_range]; omega))) B.tuple))) ?_
  unfold stillM eLooks
  rw [List.map_map]; rfl
theorem scS54 : FnScope ["_law_one", "_law_two", "_law_k"] ["_law_one", "_law_two"] (defScope (top 54)) := ⟨rfl, rfl, rfl, by decide +kernel, rfl, by decide +kernel, by decide +kernel⟩
theorem ok_lin (D : DefAt K mg "_law_in" 54 ["_law_one", "_law_two"]) : Ok P w K mg base "_law_in" (k + 1) ["_law_one", "_law_two"] (spE K rWithin) := by
  refine okE' D scS54 (fun as d h => by obtain ⟨L, l, _, rfl, _⟩ := h; rfl) fun nd f cdv A outer s H E hr as d h => ?_
  obtain ⟨l, m, h1, rfl, rfl⟩ := h
  refine DSs.is (dss_one (ds_ret (de_eqNil (k := 0) (DN.is (dn_lc [("_law_k", 2)] (xs := l) (enc := fun n => .t (eN n)) (p := fun y => !decide (y ∈ m)) (f := eN) (di_tup (de_var 0)) (fun y hy => ⟨_, _, by decide, fun s H C cl fp => ⟨dg_name 2, dts_one (dt_cmp op_notIn_seq opNotIn (de_var 2) (de_var 1)), fun _ => de_var 2⟩⟩) (by omega)) rfl) nice_N hr.units))) ?_
  rw [filt_nil]
theorem scS55 : FnScope ["_law_own", "_law_far"] ["_law_own", "_law_far"] (defScope (top 55)) := ⟨rfl, rfl, rfl, by decide +kernel, rfl, by decide +kernel, by decide +kernel⟩
theorem ok_lareIn (D : DefAt K mg "_law_are_in" 55 ["_law_own", "_law_far"]) (O : Ok P w K mg base "_law_in" k ["_law_one", "_law_two"] (spE K rWithin)) : Ok P w K mg base "_law_are_in" (k + 1) ["_law_own", "_law_far"] (spE K rAreW) := by
  refine okE' D scS55 (fun as d h => by obtain ⟨c, d, _, _, rfl, _⟩ := h; rfl) fun nd f cdv A outer s H E hr as d h => ?_
  obtain ⟨c, d', h1, h2, rfl, rfl⟩ := h
  have c0 : ∀ {X : Cx} {Γ : List Cell} {e : Expr} {c : Camps} {j : Nat} {p pos : Pos}, DE X Γ e (eCamps c) → PlainIx (.Constant (.int 0) j p) → DE X Γ (.Subscript e (.Constant (.int 0) j p) pos) (eLot c.1) := fun h hp => de_ixT (ds := [eLot _, eLot _]) h de_int rfl hp
  have c1 : ∀ {X : Cx} {Γ : List Cell} {e : Expr} {c : Camps} {j : Nat} {p pos : Pos}, DE X Γ e (eCamps c) → PlainIx (.Constant (.int 1) j p) → DE X Γ (.Subscript e (.Constant (.int 1) j p) pos) (eLot c.2) := fun h hp => de_ixT (ds := [eLot _, eLot _]) h de_int rfl hp
  refine dss_one (ds_ret (DE.is (de_or (k := within c.1 d'.1 && within c.2 d'.2) (l := within c.1 d'.2 && within c.2 d'.1) (de_and (de_fn O hr (dr_t (c0 (de_var 0) fun _ _ => rfl) (dr_t (c0 (de_var 1) fun _ _ => rfl) dr_nil)) ⟨_, _, h1, rfl, rfl⟩) fun _ => de_one (de_fn O hr (dr_t (c1 (de_var 0) fun _ _ => rfl) (dr_t (c1 (de_var 1) fun _ _ => rfl) dr_nil)) ⟨_, _, h2, rfl, rfl⟩)) fun _ => de_one (de_and (de_fn O hr (dr_t (c0 (de_var 0) fun _ _ => rfl) (dr_t (c1 (de_var 1) fun _ _ => rfl) dr_nil)) ⟨_, _, h1, rfl, rfl⟩) fun _ => de_one (de_fn O hr (dr_t (c1 (de_var 0) fun _ _ => rfl) (dr_t (c0 (de_var 1) fun _ _ => rfl) dr_nil)) ⟨_, _, h2, rfl, rfl⟩))) rfl))
theorem scS46 : FnScope ["_law_thing"] ["_law_thing"] (defScope (top 46)) := ⟨rfl, rfl, rfl, by decide +kernel, rfl, by decide +kernel, by decide +kernel⟩
theorem ok_lwhole (B : Blt mg) (D : DefAt K mg "_law_is_whole" 46 ["_law_thing"]) : Ok P w K mg base "_law_is_whole" (k + 1) ["_law_thing"] (spE K rNum) := by
  refine okE' D scS46 (fun as d h => by obtain ⟨l, rfl, _⟩ := h; rfl) fun nd f cdv A outer s H E hr as d h => ?_
  obtain ⟨x, rfl, rfl⟩ := h
  refine DSs.is (dss_one (ds_ret (de_and (de_isi "int" (dg_var 0) (kitInt x) B.isinstance B.int) fun _ => de_one (de_not (de_isi "bool" (dg_var 0) (kitBool x) B.isinstance B.bool))))) ?_
  rw [isNum_eq]
end
end K54
set_option Elab.async false
set_option linter.all false
set_option autoImplicit false
set_option maxRecDepth 100000
set_option maxHeartbeats 2000000
/-! K54: defs of the law, 2: lots_of, camps_of, led, great, table -/
namespace K54
open PySem PySem.Spec PyProof.Rows L2
theorem raw_filter : ∀ n, n ≤ 3 → (lotsRaw n).filter (fun l => decide (l ≠ [])) = (lotsRaw n).drop 1
  | 0, _ => by decide
  | 1, _ => by decide
  | 2, _ => by decide
  | 3, _ => by decide
  | n + 4, h => by omega
def campsTo (n i : Nat) : List Camps := ((lotsM n).zipIdx.take i).flatMap fun p => (((lotsM n).drop (p.2 + 1)).filter (apartM p.1)).map fun m => (p.1, m)
theorem campsTo_few : ∀ n, n ≤ 3 → (campsM n).length ≤ 1000 := fun n hn => Nat.le_trans (camps_few n hn).1 (by decide)
theorem flat_take {α β : Type} (f : α → List β) : ∀ (xs : List α) (i : Nat), ((xs.take i).flatMap f).length ≤ (xs.flatMap f).length
  | [], i => by simp
  | x :: xs, 0 => by simp
  | x :: xs, i + 1 => by
    have := flat_take f xs i
    rw [List.take_succ_cons, List.flatMap_cons, List.flatMap_cons, List.length_append, List.length_append]; omega
section
variable {P : Program} {w : World} {K : PySem.W.Frag} {mg : Str → Option Value} {base : Heap} {k : Nat}
theorem scS44 : FnScope ["_law_n", "_law_found", "_law_k", "_law_own"] ["_law_n"] (defScope (top 44)) := ⟨rfl, rfl, rfl, by decide +kernel, rfl, by decide +kernel, by decide +kernel⟩
theorem ok_llots (B : Blt mg) (D : DefAt K mg "_law_lots_of" 44 ["_law_n"]) : Ok P w K mg base "_law_lots_of" (k + 1) ["_law_n"] (spN K rLots) := by
  refine okN' D scS44 (fun as d h => by obtain ⟨n, _, rfl, _⟩ := h; rfl) fun nd f cdv A outer s H E hr as ds h => ?_
  obtain ⟨n, h1, rfl, rfl⟩ := h
  have lr : ∀ i, i ≤ 3 → (lotsRaw i).length ≤ 1000 := fun i hi => by rw [lotsRaw_len]; exact Nat.le_trans (Nat.pow_le_pow_right (by decide) hi) (by decide)
  refine dss_cons (ds_setR 1 (ds := (lotsRaw 0).map eLot) (dn_lst (du_cons (de_tup du_nil) du_nil))) (dss_cons (ds_for (fun i => [.dat (eN n), .rdl ((lotsRaw i).map eLot), .un, .un]) (xs := List.range n) (enc := fun i => .t (.int (i : Nat))) (di_range (j := n) (de_var 0) B.range) ?_ fun i x hx => ?_) ?_)
  · exact .cons (.eq _) (.cons (.eq _) (.cons (.un _) (.cons (.un _) .nil)))
  · obtain ⟨hl, ex⟩ := List.getElem?_eq_some_iff.mp hx
    rw [List.getElem_range] at ex
    subst ex
    have hi : i < 3 := by rw [List.length_range] at hl; omega
    have len := lr i (by omega)
    refine ⟨_, _, dg_name 2, DSs.wk2 (dss_one (ds_setR 1 (dn_cat (ds := (lotsRaw i).map eLot) (es := (lotsRaw i).map fun l => eLot (l ++ [i])) (dl_var 1) (DN.l (dn_lcA [("_law_own", 3)] (xs := lotsRaw i) (enc := fun l => .t (eLot l)) (f := fun l => eLot (l ++ [i])) (di_var 1)
      (fun x hx => ⟨_, _, by decide, fun s H C cl fp => ⟨dg_name 3, DE.is (de_op op_catA (opCatT (ds := x.map eN) (es := [eN i]) ?_) (de_var 3) (de_tup (du_cons (de_var 2) du_nil))) ?_⟩⟩) (by omega))) ?_))) ?_⟩
    · have := lotsRaw_mem i x hx
      rw [List.length_map, List.length_singleton]; omega
    · rw [eLot, List.map_append]; rfl
    · simp; omega
    · refine .cons (.eq _) (.cons ?_ (.cons (.un _) (.cons (.un _) .nil)))
      have e : (lotsRaw i).map eLot ++ (lotsRaw i).map (fun l => eLot (l ++ [i])) = (lotsRaw (i + 1)).map eLot := by
        show _ = (lotsRaw i ++ (lotsRaw i).map (· ++ [i])).map eLot
        rw [List.map_append, List.map_map]; rfl
      rw [e]
      exact .eq _
  · refine dss_one (ds_retN (dn_sortL kLot (xs := (lotsRaw n).drop 1) (DN.l (DN.is (dn_lc [("_law_own", 3)] (xs := lotsRaw n) (enc := fun l => .t (eLot l)) (p := fun l => decide (l ≠ [])) (f := eLot) (di_var 1 (hc := ?_)) (fun x hx => ⟨_, _, by decide, fun s H C cl fp => ⟨dg_name 3, dts_one (DT.is (dtg_cmp (k := !PyData.eqv (eLot x) (.tuple [])) (op_neD hr.units) (opNeD ((nice_Lot _).shaped (by decide)) rfl) (DE.g (de_var 3)) (DE.g (de_tup du_nil))) ?_), fun _ => de_var 3⟩⟩) ?_) ?_)) (fun x hx => eLot_cons ((lots_ne n h1).1 x hx)) (by decide) ?_ (lots_ne n h1).2 hr.units B.sorted))
    · rw [List.length_range]; rfl
    · rw [eqv_nil]; simp
    · have := lr n h1; omega
    · rw [raw_filter n h1]; rfl
    · rw [List.length_drop]; have := lr n h1; omega
theorem scS45 : FnScope ["_law_n", "_law_lots_so", "_law_found", "_law_k", "_law_own", "_law_far", "_law_its"] ["_law_n"] (defScope (top 45)) := ⟨rfl, rfl, rfl, by decide +kernel, rfl, by decide +kernel, by decide +kernel⟩
theorem ok_lcamps (B : Blt mg) (D : DefAt K mg "_law_camps_of" 45 ["_law_n"]) (O : Ok P w K mg base "_law_lots_of" k ["_law_n"] (spN K rLots)) : Ok P w K mg base "_law_camps_of" (k + 1) ["_law_n"] (spN K rCamps) := by
  refine okN' D scS45 (fun as d h => by obtain ⟨n, _, rfl, _⟩ := h; rfl) fun nd f cdv A outer s H E hr as ds h => ?_
  obtain ⟨n, h1, rfl, rfl⟩ := h
  obtain ⟨l1, l2⟩ := lotsM_len n h1
  have all : campsTo n (lotsM n).zipIdx.length = campsM n := by unfold campsTo campsM; rw [List.take_length]
  have fl : ∀ i, (campsTo n i).length ≤ 1000 := fun i => Nat.le_trans (flat_take _ _ i) (campsTo_few n h1)
  refine dss_cons (ds_setR 1 (dn_fn O hr (dr_t (de_var 0) dr_nil) ⟨n, h1, rfl, rfl⟩)) (dss_cons (ds_setO 2 (ds := []) (dn_lst du_nil)) (dss_cons (ds_for (fun i => [.dat (eN n), .rdl ((lotsM n).map eLot), .own (.lst ((campsTo n i).map eCamps)), .un, .un, .un, .un]) (xs := (lotsM n).zipIdx) (enc := fun p => .t (.tuple [.int (p.2 : Nat), eLot p.1])) (di_enV 1 B.enumerate) ?_ fun i p hp => ⟨_, _, dg_tup (dgs_cons (dg_name 3) (dgs_cons (dg_name 4) dgs_nil)), DSs.wk2 (dss_one (ds_setO 2 (dn_cat (ds := (campsTo n i).map eCamps) (es := (((lotsM n).drop (p.2 + 1)).filter (apartM p.1)).map fun m => eCamps (p.1, m)) (do_var 2) (DN.l (dn_lc [("_law_far", 5)] (xs := (lotsM n).drop (p.2 + 1)) (enc := fun m => .t (eLot m)) (p := apartM p.1) (f := fun m => eCamps (p.1, m)) (di_new (DN.is (dn_slFrom (p.2 + 1) (dl_var 1) (de_op op_add opI0 (de_var 3) de_int)) ?_))
      (fun m hm => ⟨_, _, by decide, fun s H C cl fp => ⟨dg_name 5, dts_one (DT.is (dt_eqNil (k := 0) (DN.is (dn_lc [("_law_its", 6)] (xs := p.1) (enc := fun n => .t (eN n)) (p := fun y => decide (y ∈ m)) (f := eN) (di_tup (de_var 4)) (fun y hy => ⟨_, _, by decide, fun s H C cl fp => ⟨dg_name 6, dts_one (dt_cmp op_in_seq opIn (de_var 6) (de_var 5)), fun _ => de_var 6⟩⟩) ?_) rfl) nice_N hr.units) filt_apart), fun _ => de_tup (du_cons (de_var 4) (du_cons (de_var 5) du_nil))⟩⟩) ?_)) ?_))) ?_⟩) (dss_one (DS.is2 (ds_retO 2 (ds := (campsTo n (lotsM n).zipIdx.length).map eCamps)) ?_))))
  · exact .cons (.eq _) (.cons (.eq _) (.cons (.eq _) (.cons (.un _) (.cons (.un _) (.cons (.un _) (.cons (.un _) .nil))))))
  · rw [List.map_drop]
  · have := (l2 _ (memZip (List.mem_of_getElem? hp))).len; omega
  · rw [List.length_drop]; omega
  · have z1 := fl i
    have z2 := List.length_filter_le (apartM p.1) ((lotsM n).drop (p.2 + 1))
    rw [List.length_drop] at z2
    rw [List.length_map, List.length_map]; omega
  · refine .cons (.eq _) (.cons (.eq _) (.cons ?_ (.cons (.un _) (.cons (.un _) (.cons (.un _) (.cons (.un _) .nil))))))
    have e : (campsTo n i).map eCamps ++ (((lotsM n).drop (p.2 + 1)).filter (apartM p.1)).map (fun m => eCamps (p.1, m)) = (campsTo n (i + 1)).map eCamps := by
      unfold campsTo
      rw [take_succ_of hp, List.flatMap_append, List.map_append]
      simp [List.map_map, Function.comp_def]
    rw [e]
    exact .eq _
  · rw [all]
theorem scS53 : FnScope ["_law_looks_so", "_law_camps_so", "_law_one", "_law_two"] ["_law_looks_so", "_law_camps_so"] (defScope (top 53)) := ⟨rfl, rfl, rfl, by decide +kernel, rfl, by decide +kernel, by decide +kernel⟩
theorem ok_lled (D : DefAt K mg "_law_led" 53 ["_law_looks_so", "_law_camps_so"]) (O1 : Ok P w K mg base "_law_within" k ["_law_looks_so", "_law_lot_so"] (spE K rLw)) : Ok P w K mg base "_law_led" (k + 1) ["_law_looks_so", "_law_camps_so"] (spE K rLed) := by
  refine okE' D scS53 (fun as d h => by obtain ⟨l, m, _, _, rfl, _⟩ := h; rfl) fun nd f cdv A outer s H E hr as d h => ?_
  obtain ⟨L, c, h1, h2, rfl, rfl⟩ := h
  refine dss_cons (ds_par 2 3 (x := eLot (lw L c.1)) (y := eLot (lw L c.2)) (de_fn O1 hr (dr_t (de_var 0) (dr_t (de_ixT (de_var 1) de_int rfl) dr_nil)) ⟨L, c.1, h1, h2, rfl, rfl⟩) (de_fn O1 hr (dr_t (de_var 0) (dr_t (de_ixT (de_var 1) de_int rfl) dr_nil)) ⟨L, c.2, h1, h2, rfl, rfl⟩)) (dss_if (b := decide (lw L c.1 = []) || decide (lw L c.2 = []))
    (PW.pt (dw_or (k := decide (lw L c.1 = [])) (l := decide (lw L c.2 = [])) (dtg_cmp (op_eqD hr.units) (by rw [← eqv_nil]; exact opEqD ((nice_Lot _).shaped (by decide)) rfl) (DE.g (de_var 2)) (DE.g (de_tup du_nil))) fun _ => dw_or1 (dtg_cmp (op_eqD hr.units) (by rw [← eqv_nil]; exact opEqD ((nice_Lot _).shaped (by decide)) rfl) (DE.g (de_var 3)) (DE.g (de_tup du_nil))))) (fun z => DSs.is (dss_one (ds_ret de_non)) ?_) fun z => dss_one (DS.is2 (ds_ret (d := eCamps (inOrd (lw L c.1) (lw L c.2))) (de_if (k := ltLot (lw L c.1) (lw L c.2)) (dt_cmp (op_ltT hr.units0) opLtT (de_var 2) (de_var 3)) (fun z => DE.is (de_tup (du_cons (de_var 2) (du_cons (de_var 3) du_nil))) ?_) fun z => DE.is (de_tup (du_cons (de_var 3) (du_cons (de_var 2) du_nil))) ?_)) ?_))
  · have z' : lw L c.1 = [] ∨ lw L c.2 = [] := by simpa using z
    unfold ledM
    rw [if_pos z']; rfl
  · unfold inOrd
    rw [if_pos z]; rfl
  · unfold inOrd
    rw [if_neg (by rw [z]; exact Bool.false_ne_true)]; rfl
  · have z' : ¬ (lw L c.1 = [] ∨ lw L c.2 = []) := by simpa using z
    unfold ledM
    rw [if_neg z']; rfl
def topC (cs : List Camps) (c : Camps) : Bool := !cs.any fun o => decide (o ≠ c) && areW c o
theorem topC_eq (cs : List Camps) (c : Camps) : decide (cs.filter (fun o => decide (o ≠ c) && areW c o) = []) = topC cs c := by
  rw [Bool.eq_iff_iff, decide_eq_true_iff, List.filter_eq_nil_iff]
  unfold topC
  rw [Bool.not_eq_true', List.any_eq_false]
theorem great_law (cs : List Camps) : (canon ltCamps cs).filter (topC cs) = great cs := by
  unfold great
  refine List.filter_congr fun c _ => ?_
  unfold topC
  congr 1
  rw [Bool.eq_iff_iff, List.any_eq_true, List.any_eq_true]
  exact ⟨fun ⟨o, h, q⟩ => ⟨o, mem_canon.mpr h, q⟩, fun ⟨o, h, q⟩ => ⟨o, mem_canon.mp h, q⟩⟩
theorem scS56 : FnScope ["_law_some", "_law_found", "_law_own", "_law_far"] ["_law_some"] (defScope (top 56)) := ⟨rfl, rfl, rfl, by decide +kernel, rfl, by decide +kernel, by decide +kernel⟩
theorem ok_lgreat (B : Blt mg) (D : DefAt K mg "_law_great" 56 ["_law_some"]) (O : Ok P w K mg base "_law_are_in" k ["_law_own", "_law_far"] (spE K rAreW)) : Ok P w K mg base "_law_great" (k + 1) ["_law_some"] (spE K rGreat) := by
  refine okE' D scS56 (fun as d h => by obtain ⟨l, _, _, rfl, _⟩ := h; rfl) fun nd f cdv A outer s H E hr as d h => ?_
  obtain ⟨cs, h1, h2, rfl, rfl⟩ := h
  have sm : ∀ c ∈ canon ltCamps cs, CSmall c := fun c hc => h2 c (mem_canon.mp hc)
  have le := canon_len (lt := ltCamps) cs
  have tl : ∀ i, (((canon ltCamps cs).take i).filter (topC cs)).length ≤ 1000 := fun i => by
    have z1 := List.length_filter_le (topC cs) ((canon ltCamps cs).take i)
    rw [List.length_take] at z1; omega
  refine DSs.is (dss_cons (ds_setO 1 (ds := []) (dn_lst du_nil)) (dss_cons (ds_for (fun i => [.rdl (cs.map eCamps), .own (.lst ((((canon ltCamps cs).take i).filter (topC cs)).map eCamps)), .un, .un]) (xs := canon ltCamps cs) (enc := fun c => .t (eCamps c)) (di_new (dn_sortSet kCamps (xs := cs) (DL.q (dl_var 0)) (fun c _ => ⟨_, _, rfl⟩) (by decide) h1 hr.units B.sorted B.set)) ?_ fun i c hc => ⟨_, _, dg_name 2, dss_one (ds_if (b := topC cs c) (DT.is (dt_eqNil (k := 2) (xs := cs.filter (fun o => decide (o ≠ c) && areW c o)) (f := eCamps) (dn_lc [("_law_far", 3)] (xs := cs) (enc := fun c => .t (eCamps c)) (p := fun o => decide (o ≠ c) && areW c o) (f := eCamps) (di_var 0)
    (fun o ho => ⟨_, _, by decide, fun s H C cl fp => ⟨dg_name 3, dts_one (PW.pt (dw_and (k := decide (o ≠ c)) (l := areW c o) (DT.is (dtg_cmp (k := !PyData.eqv (eCamps o) (eCamps c)) (op_neD hr.units) (opNeD ((nice_Camps o).shaped (by decide)) ((nice_Camps c).shaped (by decide))) (DE.g (de_var 3)) (DE.g (de_var 2))) ?_) fun _ => dw_and1 (dt_val (de_fn O hr (dr_t (de_var 2) (dr_t (de_var 3) dr_nil)) ⟨c, o, ?_, ?_, rfl, rfl⟩)))), fun _ => de_var 3⟩⟩) ?_) nice_Camps hr.units) (topC_eq cs c)) (fun z => DSs.wk2 (dss_one (ds_app 1 (de_var 2) ?_)) ?_) fun z => DSs.wk2 dss_nil ?_)⟩) (dss_one (ds_ret (de_tupL (do_var 1) B.tuple))))) ?_
  · exact .cons (.eq _) (.cons (.eq _) (.cons (.un _) (.cons (.un _) .nil)))
  · rw [eqv_Camps]; simp
  · exact (sm c (List.mem_of_getElem? hc)).1
  · exact (sm c (List.mem_of_getElem? hc)).2
  · omega
  · rw [List.length_map]; have := tl i; omega
  · refine .cons (.eq _) (.cons ?_ (.cons (.un _) (.cons (.un _) .nil)))
    rw [take_succ_of hc, List.filter_append, List.map_append, List.filter_cons_of_pos z]
    exact .eq _
  · refine .cons (.eq _) (.cons ?_ (.cons (.un _) (.cons (.un _) .nil)))
    rw [take_succ_of hc, List.filter_append, List.filter_cons_of_neg (by rw [z]; exact Bool.false_ne_true), List.filter_nil, List.append_nil]
    exact .eq _
  · rw [List.take_length, great_law]
theorem scS57 : FnScope ["_law_some_looks", "_law_n", "_law_found", "_law_camps_so", "_law_led_so", "_law_own"] ["_law_some_looks", "_law_n"] (defScope (top 57)) := ⟨rfl, rfl, rfl, by decide +kernel, rfl, by decide +kernel, by decide +kernel⟩
def rLTable (as : List Arg) (d : PyData) : Prop := ∃ (Ls : List Looks) (n : Nat), n ≤ 3 ∧ Ls.length < 64 ∧ (∀ L ∈ Ls, VLooks n L) ∧ as = [.l (Ls.map eLooks), .t (eN n)] ∧ d = eTab (tableM Ls n)
theorem ok_ltable (B : Blt mg) (D : DefAt K mg "_law_table" 57 ["_law_some_looks", "_law_n"]) (O2 : Ok P w K mg base "_law_camps_of" k ["_law_n"] (spN K rCamps)) (O3 : Ok P w K mg base "_law_led" k ["_law_looks_so", "_law_camps_so"] (spE K rLed)) (O4 : Ok P w K mg base "_law_great" k ["_law_some"] (spE K rGreat)) : Ok P w K mg base "_law_table" (k + 1) ["_law_some_looks", "_law_n"] (spE K rLTable) := by
  refine okE' D scS57 (fun as d h => by obtain ⟨_, _, _, _, _, rfl, _⟩ := h; rfl) fun nd f cdv A outer s H E hr as d h => ?_
  obtain ⟨Ls, n, h1, h3, h4, rfl, rfl⟩ := h
  have c1000 : (campsM n).length ≤ 1000 := campsTo_few n h1
  refine DSs.is (dss_cons (ds_setO 2 (ds := []) (dn_lst du_nil)) (dss_cons (ds_for (fun i => [.rdl (Ls.map eLooks), .dat (eN n), .own (.lst (((tableM Ls n).take i).map eRow)), .un, .un, .un]) (xs := campsM n) (enc := fun c => .t (eCamps c)) (di_new (dn_fn O2 hr (dr_t (de_var 1) dr_nil) ⟨n, h1, rfl, rfl⟩)) ?_ fun i c hc => ?_) (dss_one (ds_ret (de_tupL (do_var 2) B.tuple))))) ?_
  · exact .cons (.eq _) (.cons (.eq _) (.cons (.eq _) (.cons (.un _) (.cons (.un _) (.cons (.un _) .nil)))))
  · have ti : (tableM Ls n)[i]? = some (c, great (Ls.filterMap fun L => ledM L c)) := by
      unfold tableM
      rw [List.getElem?_map, hc]; rfl
    have lz : (((tableM Ls n).take i).map eRow).length ≤ 100000 := by
      have tl : (tableM Ls n).length = (campsM n).length := by unfold tableM; rw [List.length_map]
      rw [List.length_map, List.length_take, tl]; omega
    refine ⟨_, _, dg_name 3, DSs.wk2 (dss_cons (ds_lcR 4 [("_law_own", 5)] (xs := Ls) (enc := fun L => .t (eLooks L)) (p := fun _ => true) (f := fun L => eOpt (ledM L c)) (di_var 0) (fun L hL => ⟨_, _, by decide, fun s H C cl fp => ⟨dg_name 5, dts_nil, fun _ => de_fn O3 hr (dr_t (de_var 5) (dr_t (de_var 3) dr_nil)) ⟨L, c, ?_, ?_, rfl, rfl⟩⟩⟩) (by omega)) (dss_one (ds_app 2 (d := eRow (c, great (Ls.filterMap fun L => ledM L c))) (de_tup (du_cons (de_var 3) (du_cons (de_fn O4 hr (dr_l (DN.l (DN.is (dn_lc [("_law_own", 5)] (xs := Ls) (enc := fun L => .t (eOpt (ledM L c))) (p := fun L => (ledM L c).isSome) (f := fun L => eOpt (ledM L c)) (di_var 4 (hc := ?_)) (fun L hL => ⟨_, _, by decide, fun s H C cl fp => ⟨dg_name 5, dts_one (DT.is (dt_notN (DE.g (de_var 5))) ?_), fun _ => de_var 5⟩⟩) (by omega)) (filterSome (fun L => ledM L c) eOpt eCamps (fun _ => rfl) Ls))) dr_nil) ⟨Ls.filterMap fun L => ledM L c, ?_, ?_, rfl, rfl⟩) du_nil))) lz))) ?_⟩
    · rw [(h4 L hL).1]; omega
    · exact fun m hm => Nat.le_trans ((h4 L hL).2 m hm).len (by omega)
    · show some (Cell.rdl ((Ls.filter fun _ => true).map fun L => eOpt (ledM L c))) = _
      rw [fAll]
    · show (!isNn (eOpt (ledM L c))) = (ledM L c).isSome
      cases ledM L c <;> rfl
    · exact Nat.lt_of_le_of_lt (List.length_filterMap_le _ _) h3
    · intro x hx
      obtain ⟨L, hL, e⟩ := List.mem_filterMap.mp hx
      have z := ledSmall (h4 L hL) e
      exact ⟨by omega, by omega⟩
    · refine .cons (.eq _) (.cons (.eq _) (.cons ?_ (.cons (.un _) (.cons (.un _) (.cons (.un _) .nil)))))
      rw [take_succ_of ti, List.map_append]
      exact .eq _
  · have tl : (tableM Ls n).length = (campsM n).length := by unfold tableM; rw [List.length_map]
    rw [← tl, List.take_length]; rfl
end
end K54
set_option Elab.async false
set_option linter.all false
set_option autoImplicit false
set_option maxRecDepth 100000
set_option maxHeartbeats 2000000
/-! K54: defs of the law, 3: behind, free, keeps -/
namespace K54
open PySem PySem.Spec PyProof.Rows L2
theorem DL.is {X : Cx} {Γ : List Cell} {e : Expr} {ds es : List PyData} (h : DL X Γ e ds) (q : ds = es) : DL X Γ e es := q ▸ h
section
variable {P : Program} {w : World} {K : PySem.W.Frag} {mg : Str → Option Value} {base : Heap} {k : Nat}
def seenM (L : Looks) (lot : Lot) : Lot := (lot.map fun p => L.getD p []).flatten
theorem seen_len {n : Nat} {L : Looks} (h : VLooks n L) {lot : Lot} (hl : ∀ p ∈ lot, p < n) : (seenM L lot).length ≤ n * lot.length := by
  have := flat_len (n := n) (ls := lot.map fun p => L.getD p []) fun l hm => by
    obtain ⟨p, hp, rfl⟩ := List.mem_map.mp hm
    exact (h.at (hl p hp)).2.len
  rwa [List.length_map] at this
theorem seen_snoc (L : Looks) (lot : Lot) (p : Nat) : seenM L (lot ++ [p]) = seenM L lot ++ L.getD p [] := by
  unfold seenM
  rw [List.map_append, List.flatten_append]; simp
theorem scS50 : FnScope ["_law_first", "_law_then", "_law_found", "_law_lot_so", "_law_seen", "_law_own"] ["_law_first", "_law_then"] (defScope (top 50)) := ⟨rfl, rfl, rfl, by decide +kernel, rfl, by decide +kernel, by decide +kernel⟩
theorem ok_lbehind (B : Blt mg) (D : DefAt K mg "_law_behind" 50 ["_law_first", "_law_then"]) : Ok P w K mg base "_law_behind" (k + 1) ["_law_first", "_law_then"] (spE K rBehind) := by
  refine okE' D scS50 (fun as d h => by obtain ⟨_, _, _, _, _, _, rfl, _⟩ := h; rfl) fun nd f cdv A outer s H E hr as d h => ?_
  obtain ⟨n, L, M, h1, vL, vM, rfl, rfl⟩ := h
  have bl : (behindM L M).length = M.length := by unfold behindM; rw [List.length_map]
  refine DSs.is (dss_cons (ds_setO 2 (ds := []) (dn_lst du_nil)) (dss_cons (ds_for (fun i => [.dat (eLooks L), .dat (eLooks M), .own (.lst (((behindM L M).take i).map eLot)), .un, .un, .un]) (xs := M) (enc := fun l => .t (eLot l)) (di_tup (de_var 1)) ?_ fun i lot hi => ⟨_, _, dg_name 3, DSs.wk2 (dss_cons (ds_setR 4 (ds := []) (dn_lst du_nil)) (dss_cons (ds_for (fun j => [.dat (eLooks L), .dat (eLooks M), .own (.lst (((behindM L M).take i).map eLot)), .dat (eLot lot), .rdl ((seenM L (lot.take j)).map eN), .un]) (xs := lot) (enc := fun p => .t (eN p)) (di_tup (de_var 3)) ?_ fun j p hj => ⟨_, _, dg_name 5, DSs.wk2 (dss_one (ds_setR 4 (dn_cat (ds := (seenM L (lot.take j)).map eN) (es := (L.getD p []).map eN) (dl_var 4) (DN.l (dn_lstT (de_ixT (d := eLot (L.getD p [])) (de_var 0) (de_var 5) (atI_nat ?_)) B.list)) ?_))) ?_⟩)
    (dss_one (ds_app 2 (d := eLot (joinedM (lot.map fun p => L.getD p []))) (DE.is (de_tupL (DN.l (dn_sortInts (ns := (seenM L lot).map fun k : Nat => (k : Int)) (DL.q (DL.is (dl_var 4) ?_)) ?_ B.sorted B.set)) B.tuple) ?_) ?_)))) ?_⟩) (dss_one (ds_ret (de_tupL (do_var 2) B.tuple))))) ?_
  · exact .cons (.eq _) (.cons (.eq _) (.cons (.eq _) (.cons (.un _) (.cons (.un _) (.cons (.un _) .nil)))))
  · exact .cons (.eq _) (.cons (.eq _) (.cons (.eq _) (.cons (.eq _) (.cons (.eq _) (.cons (.un _) .nil)))))
  · rw [List.getElem?_map, (vL.at ((vM.2 lot (List.mem_of_getElem? hi)).2.2 p (List.mem_of_getElem? hj))).1]; rfl
  · have vl := vM.2 lot (List.mem_of_getElem? hi)
    have z1 := seen_len vL (lot := lot.take j) fun q hq => vl.2.2 q (List.mem_of_mem_take hq)
    have z2 := (vL.at (vl.2.2 p (List.mem_of_getElem? hj))).2.len
    have z3 := vl.len
    rw [List.length_take] at z1
    have z4 : n * min j lot.length ≤ 3 * 3 := Nat.mul_le_mul h1 (by omega)
    rw [List.length_map, List.length_map]; omega
  · refine .cons (.eq _) (.cons (.eq _) (.cons (.eq _) (.cons (.eq _) (.cons ?_ (.cons (.un _) .nil)))))
    rw [take_succ_of hj, seen_snoc, List.map_append]
    exact .eq _
  · rw [List.take_length]; exact eN_map _
  · have vl := vM.2 lot (List.mem_of_getElem? hi)
    have z1 := seen_len vL (lot := lot) vl.2.2
    have z3 := vl.len
    have z4 : n * lot.length ≤ 3 * 3 := Nat.mul_le_mul h1 (by omega)
    rw [List.length_map]; omega
  · rw [canon_cast, ← castMap]; rfl
  · rw [List.length_map, List.length_take, bl]
    have := vM.1; omega
  · refine .cons (.eq _) (.cons (.eq _) (.cons ?_ (.cons (.un _) (.cons (.un _) (.cons (.un _) .nil)))))
    have ti : (behindM L M)[i]? = some (joinedM (lot.map fun p => L.getD p [])) := by
      unfold behindM
      rw [List.getElem?_map, hi]; rfl
    rw [take_succ_of ti, List.map_append]
    exact .eq _
  · rw [← bl, List.take_length]; rfl
theorem scS59 : FnScope ["_law_steps_so", "_law_own"] ["_law_steps_so"] (defScope (top 59)) := ⟨rfl, rfl, rfl, by decide +kernel, rfl, by decide +kernel, by decide +kernel⟩
def rFree (as : List Arg) (d : PyData) : Prop := ∃ Ls : List Looks, Ls.length ≤ 1000 ∧ as = [.l (Ls.map eLooks)] ∧ d = .tuple (Ls.map eStep)
theorem ok_lfree (B : Blt mg) (D : DefAt K mg "_law_free" 59 ["_law_steps_so"]) : Ok P w K mg base "_law_free" (k + 1) ["_law_steps_so"] (spE K rFree) := by
  refine okE' D scS59 (fun as d h => by obtain ⟨n, _, rfl, _⟩ := h; rfl) fun nd f cdv A outer s H E hr as d h => ?_
  obtain ⟨Ls, h1, rfl, rfl⟩ := h
  exact dss_one (ds_ret (de_tupL (DN.l (dn_lcA [("_law_own", 1)] (xs := Ls) (enc := fun L => .t (eLooks L)) (f := eStep) (di_var 0) (fun x hx => ⟨_, _, by decide, fun s H C cl fp => ⟨dg_name 1, de_tup (du_cons (de_var 1) (du_cons de_non du_nil))⟩⟩) (by omega))) B.tuple))
end
/-! ### keeps, as the law asks it -/
def lkOk (Bs : List Looks) (S : List Camps) (c : Camps) : Bool := Bs.any fun L => inO S (ledM L c)
def lkStep (Bs : List Looks) (S : List Camps) : List Camps := S.filter (lkOk Bs S)
def lkSeq (Bs : List Looks) (n : Nat) : Nat → List Camps
  | 0 => campsM n
  | i + 1 => lkStep Bs (lkSeq Bs n i)
def lawKeeps (Bs : List Looks) (n : Nat) : Bool := decide (lkSeq Bs n ((campsM n).length + 1) ≠ [])
def lmany (Bs : List Looks) (n : Nat) : Nat → Int
  | 0 => ((campsM n).length : Int) + 1
  | j + 1 => ((lkSeq Bs n j).length : Int)
theorem lk_sub (Bs : List Looks) (n i : Nat) : List.Sublist (lkSeq Bs n (i + 1)) (lkSeq Bs n i) := List.filter_sublist
theorem lk_le (Bs : List Looks) (n : Nat) : ∀ i, (lkSeq Bs n i).length ≤ (campsM n).length
  | 0 => Nat.le_refl _
  | i + 1 => Nat.le_trans (lk_sub Bs n i).length_le (lk_le Bs n i)
theorem lk_fix {Bs : List Looks} {n m : Nat} (h : (lkSeq Bs n (m + 1)).length = (lkSeq Bs n m).length) : ∀ j, lkSeq Bs n (m + j) = lkSeq Bs n m
  | 0 => rfl
  | j + 1 => by
    show lkStep Bs (lkSeq Bs n (m + j)) = _
    rw [lk_fix h j]
    exact (lk_sub Bs n m).eq_of_length h
theorem lk_stop (Bs : List Looks) (n : Nat) : ∃ m, m ≤ (campsM n).length ∧ (lkSeq Bs n (m + 1)).length = (lkSeq Bs n m).length ∧ ∀ i, i < m → (lkSeq Bs n (i + 1)).length < (lkSeq Bs n i).length := by
  have ex : ∃ m, m ≤ (campsM n).length ∧ ¬ (lkSeq Bs n (m + 1)).length < (lkSeq Bs n m).length := by
    rcases Classical.em (∃ m, m ≤ (campsM n).length ∧ ¬ (lkSeq Bs n (m + 1)).length < (lkSeq Bs n m).length) with h | h
    · exact h
    · exfalso
      have all : ∀ m, m ≤ (campsM n).length → (lkSeq Bs n (m + 1)).length < (lkSeq Bs n m).length := fun m hm => Classical.byContradiction fun z => h ⟨m, hm, z⟩
      have dec : ∀ m, m ≤ (campsM n).length + 1 → (lkSeq Bs n m).length + m ≤ (campsM n).length := by
        intro m
        induction m with
        | zero => intro _; exact lk_le Bs n 0
        | succ m ih =>
          intro hm
          have := ih (by omega)
          have := all m (by omega)
          omega
      have := dec ((campsM n).length + 1) (Nat.le_refl _)
      omega
  obtain ⟨m0, h0, h1⟩ := ex
  obtain ⟨m, hm, hp, hl⟩ := st_least (p := fun m => ¬ (lkSeq Bs n (m + 1)).length < (lkSeq Bs n m).length) m0 h1
  exact ⟨m, Nat.le_trans hm h0, Nat.le_antisymm (lk_sub Bs n m).length_le (by omega), fun i hi => Classical.byContradiction (hl i hi)⟩
theorem anyOpt (S : List Camps) (z : Option Camps) : (S.map eCamps).any (fun y => PyData.eqv y (eOpt z)) = inO S z := by
  rw [List.any_map]
  cases z with
  | none =>
    have : ∀ c : Camps, PyData.eqv (eCamps c) .none = false := fun c => by simp [eCamps, PyData.eqv]
    show S.any (fun c => PyData.eqv (eCamps c) .none) = inO S none
    simp [this, inO]
  | some c =>
    show S.any (fun x => PyData.eqv (eCamps x) (eCamps c)) = memK c S
    have e : ∀ x : Camps, PyData.eqv (eCamps x) (eCamps c) = decide (x = c) := fun x => eqv_Camps x c
    rw [Bool.eq_iff_iff, List.any_eq_true, memK_iff]
    exact ⟨fun ⟨x, hx, q⟩ => (by rw [e] at q; rw [← of_decide_eq_true q]; exact hx), fun h => ⟨c, h, by rw [e]; simp⟩⟩
theorem nice_Opt (z : Option Camps) : Nice (eOpt z) 2 := by
  cases z with
  | none => exact Nice.up nice_none (by decide)
  | some c => exact nice_Camps c
section
variable {P : Program} {w : World} {K : PySem.W.Frag} {mg : Str → Option Value} {base : Heap} {k : Nat}
theorem scS58 : FnScope ["_law_some_looks", "_law_then", "_law_n", "_law_left", "_law_both", "_law_many", "_law_kept", "_law_camps_so", "_law_own"] ["_law_some_looks", "_law_then", "_law_n"] (defScope (top 58)) := ⟨rfl, rfl, rfl, by decide +kernel, rfl, by decide +kernel, by decide +kernel⟩
def rLKeeps (as : List Arg) (d : PyData) : Prop := ∃ (Ls : List Looks) (M : Looks) (n : Nat), n ≤ 3 ∧ Ls.length < 64 ∧ (∀ L ∈ Ls, VLooks n L) ∧ VLooks n M ∧ as = [.l (Ls.map eLooks), .t (eLooks M), .t (eN n)] ∧ d = .bool (lawKeeps (Ls.map fun L => behindM L M) n)
theorem ok_lkeeps (B : Blt mg) (D : DefAt K mg "_law_keeps" 58 ["_law_some_looks", "_law_then", "_law_n"]) (O1 : Ok P w K mg base "_law_camps_of" k ["_law_n"] (spN K rCamps)) (O2 : Ok P w K mg base "_law_behind" k ["_law_first", "_law_then"] (spE K rBehind)) (O3 : Ok P w K mg base "_law_led" k ["_law_looks_so", "_law_camps_so"] (spE K rLed)) : Ok P w K mg base "_law_keeps" (k + 1) ["_law_some_looks", "_law_then", "_law_n"] (spE K rLKeeps) := by
  refine okE' D scS58 (fun as d h => by obtain ⟨_, _, _, _, _, _, _, rfl, _⟩ := h; rfl) fun nd f cdv A outer s H E hr as d h => ?_
  obtain ⟨Ls, M, n, h1, h2, h3, h4, rfl, rfl⟩ := h
  generalize eB : Ls.map (fun L => behindM L M) = Bs
  obtain ⟨m, m1, m2, m3⟩ := lk_stop Bs n
  have c900 := (camps_few n h1).1
  have lk : ∀ i, (lkSeq Bs n i).length ≤ 1000 := fun i => by have := lk_le Bs n i; omega
  have hu := hr.un
  have hu65 : A.units + 3 + 65 < cLine := by have : A.units + 3 + 16 * k + 200 < cLine := hu; omega
  have bn : Bs.length ≤ 1000 := by rw [← eB, List.length_map]; omega
  have bv : ∀ L ∈ Bs, VLooks n L := fun L hL => by
    rw [← eB] at hL
    obtain ⟨L', hL', rfl⟩ := List.mem_map.mp hL
    exact behindV (h3 L' hL') h4
  refine DSs.is (dss_cons (ds_setR 3 (dn_fn O1 hr (dr_t (de_var 2) dr_nil) ⟨n, h1, rfl, rfl⟩)) (dss_cons (ds_lcR 4 [("_law_own", 8)] (xs := Ls) (enc := fun L => .t (eLooks L)) (p := fun _ => true) (f := fun L => eLooks (behindM L M)) (di_var 0) (fun L hL => ⟨_, _, by decide, fun s H C cl fp => ⟨dg_name 8, dts_nil, fun _ => de_fn O2 hr (dr_t (de_var 8) (dr_t (de_var 1) dr_nil)) ⟨n, L, M, h1, h3 L hL, h4, rfl, rfl⟩⟩⟩) (by omega))
    (dss_cons (ds_set 5 (d := .int (((campsM n).length : Int) + 1)) (DE.is (de_op op_add opI0 (de_lenL (dl_var 3) B.len) de_int) ?_))
    (dss_cons (ds_while (fun i => [.rdl (Ls.map eLooks), .dat (eLooks M), .dat (eN n), .rdl ((lkSeq Bs n i).map eCamps), .rdl (Bs.map eLooks), .dat (.int (lmany Bs n i)), .un, .un, .un]) (m + 1) ?_ (fun i hi => DT.is (dt_cmp (k := decide ((((lkSeq Bs n i).map eCamps).length : Int) < (lmany Bs n i))) op_lt opB0 (de_lenL (dl_var 3) B.len) (de_var 5)) ?_) (DT.is (dt_cmp (k := decide ((((lkSeq Bs n (m + 1)).map eCamps).length : Int) < ((lkSeq Bs n m).length : Int))) op_lt opB0 (de_lenL (dl_var 3) B.len) (de_var 5)) ?_) fun i hi => ?_)
    (dss_one (ds_ret (de_neNil (k := 2) (xs := lkSeq Bs n (m + 1)) (f := eCamps) (dl_var 3) nice_Camps hr.units)))))) ) ?_
  · rw [List.length_map]
  · rw [fAll]
    have e : Ls.map (fun L => eLooks (behindM L M)) = Bs.map eLooks := by rw [← eB, List.map_map]; rfl
    rw [e]
    exact .cons (.eq _) (.cons (.eq _) (.cons (.eq _) (.cons (.eq _) (.cons (.eq _) (.cons (.eq _) (.cons (.un _) (.cons (.un _) (.cons (.un _) .nil))))))))
  · cases i with
    | zero =>
      rw [List.length_map]
      have z : ((lkSeq Bs n 0).length : Int) < lmany Bs n 0 := by
        show ((campsM n).length : Int) < ((campsM n).length : Int) + 1
        omega
      exact decide_eq_true z
    | succ j =>
      rw [List.length_map]
      have q := m3 j (by omega)
      have z : ((lkSeq Bs n (j + 1)).length : Int) < lmany Bs n (j + 1) := by
        show ((lkSeq Bs n (j + 1)).length : Int) < ((lkSeq Bs n j).length : Int)
        omega
      exact decide_eq_true z
  · rw [List.length_map, m2]
    exact decide_eq_false (by omega)
  · refine DSs.wk2 (dss_cons (ds_parO 5 6 (x := .int ((lkSeq Bs n i).length : Int)) (ds := []) (DE.is (de_lenL (dl_var 3) B.len) ?_) (dn_lst du_nil)) (dss_cons (ds_for (fun j => [.rdl (Ls.map eLooks), .dat (eLooks M), .dat (eN n), .rdl ((lkSeq Bs n i).map eCamps), .rdl (Bs.map eLooks), .dat (.int ((lkSeq Bs n i).length : Int)), .own (.lst ((((lkSeq Bs n i).take j).filter (lkOk Bs (lkSeq Bs n i))).map eCamps)), .un, .un]) (xs := lkSeq Bs n i) (enc := fun c => .t (eCamps c)) (di_var 3) ?_ fun j c hj => ⟨_, _, dg_name 7, dss_one (ds_if (b := lkOk Bs (lkSeq Bs n i) c) (DT.is (dt_neNil (k := 2) (xs := Bs.filter fun L => inO (lkSeq Bs n i) (ledM L c)) (f := eLooks) (dn_lc [("_law_own", 8)] (xs := Bs) (enc := fun L => .t (eLooks L)) (p := fun L => inO (lkSeq Bs n i) (ledM L c)) (f := eLooks) (di_var 4)
      (fun L hL => ⟨_, _, by decide, fun s H C cl fp => ⟨dg_name 8, dts_one (DT.is (dt_inL (by show A.units + 3 + 65 < cLine; exact hu65) (DE.g (de_fn O3 hr (dr_t (de_var 8) (dr_t (de_var 7) dr_nil)) ⟨L, c, ?_, ?_, rfl, rfl⟩)) (dl_var 3) ((nice_Opt _).shaped (by decide)) ((nice_lmap nice_Camps).shaped (by decide))) (anyOpt _ _)), fun _ => de_var 8⟩⟩) (by omega)) nice_Looks hr.units) ?_) (fun hb => DSs.wk2 (dss_one (ds_app 6 (de_var 7) ?_)) ?_) fun hb => DSs.wk2 dss_nil ?_)⟩) (dss_one (ds_move 6 3)))) ?_
    · rw [List.length_map]
    · exact .cons (.eq _) (.cons (.eq _) (.cons (.eq _) (.cons (.eq _) (.cons (.eq _) (.cons (.eq _) (.cons (.eq _) (.cons (.un _) (.cons (.un _) .nil))))))))
    · rw [(bv L hL).1]; omega
    · exact fun m hm => Nat.le_trans ((bv L hL).2 m hm).len (by omega)
    · rw [Bool.eq_iff_iff, decide_eq_true_iff]
      unfold lkOk
      rw [List.any_eq_true, ne_eq, List.filter_eq_nil_iff]
      refine ⟨fun h => Classical.byContradiction fun q => h fun L hL hq => q ⟨L, hL, hq⟩, fun ⟨L, hL, hq⟩ h => h L hL hq⟩
    · have z1 := List.length_filter_le (lkOk Bs (lkSeq Bs n i)) ((lkSeq Bs n i).take j)
      rw [List.length_take] at z1
      have := lk i
      rw [List.length_map]; omega
    · refine .cons (.eq _) (.cons (.eq _) (.cons (.eq _) (.cons (.eq _) (.cons (.eq _) (.cons (.eq _) (.cons ?_ (.cons (.un _) (.cons (.un _) .nil))))))))
      have hj' : (lkSeq Bs n i)[j]? = some c := hj
      rw [take_succ_of hj', List.filter_append, List.map_append, List.filter_cons_of_pos hb]
      exact .eq _
    · refine .cons (.eq _) (.cons (.eq _) (.cons (.eq _) (.cons (.eq _) (.cons (.eq _) (.cons (.eq _) (.cons ?_ (.cons (.un _) (.cons (.un _) .nil))))))))
      have hj' : (lkSeq Bs n i)[j]? = some c := hj
      rw [take_succ_of hj', List.filter_append, List.filter_cons_of_neg (by rw [hb]; exact Bool.false_ne_true), List.filter_nil, List.append_nil]
      exact .eq _
    · refine .cons (.eq _) (.cons (.eq _) (.cons (.eq _) (.cons ?_ (.cons (.eq _) (.cons (.eq _) (.cons (.un _) (.cons (.un _) (.cons (.un _) .nil))))))))
      rw [List.take_length]
      exact .eq _
  · have f1 := lk_fix m2 ((campsM n).length + 1 - m)
    rw [show m + ((campsM n).length + 1 - m) = (campsM n).length + 1 by omega] at f1
    have f2 := lk_fix m2 1
    unfold lawKeeps
    rw [f1, f2]
end
end K54
set_option Elab.async false
set_option linter.all false
set_option autoImplicit false
set_option maxRecDepth 100000
set_option maxHeartbeats 2000000
/-! K54: defs of the law, 4: row_looks: the paths; the program's rows are the paths' looks -/
namespace K54
open PySem PySem.Spec PyProof.Rows L2
/-! ### pop -/
section
variable {X : Cx} {Γ Γ1 : List Cell} {ds : List PyData} {d : PyData} {js : List Nat} {pos : Pos}
theorem ds_popA (i : Nat) {n : Str} {tg : Expr} {pn apos cpos : Pos} (hc : Γ[i]? = some (.own (.lst (ds ++ [d])))) (hg : DGt X (Γ.set i (.own (.lst ds))) tg (.t d) Γ1 js) (hN : X.N[i]? = some n := by rfl) (hv : Vis X.env.scope n := by first | exact Or.inl rfl | exact Or.inr (Or.inl rfl) | exact Or.inr (Or.inr rfl)) (hd : (n == ("__debug__" : Str)) = false := by decide) (hcd : (n == ("__classdict__" : Str)) = false := by decide)
    (hbase : attributeBase (.Name n pn) "pop" X.env (eval (.Name n pn) X.env) = eval (.Name n pn) X.env := by rfl) (hline : (apos.endLine == cpos.line) = true := by rfl)
    (hs : swapsWithSole [tg] (.Call (.Attribute (.Name n pn) "pop" apos) [] [] cpos) pos.line X.env = pure false := by rfl) (hw : swappedStores [tg] (.Call (.Attribute (.Name n pn) "pop" apos) [] [] cpos) X.env = pure none := by rfl) (h1 : (assignEach [tg] X.env).map (·.2) = [assign tg X.env] := by rfl) :
    DS X Γ (.Assign [tg] (.Call (.Attribute (.Name n pn) "pop" apos) [] [] cpos) pos) (.nx Γ1) :=
  PS.wk (ps_asg (pe_bm0 PySem.F.plainAttrs_list PySem.F.slot_list_pop PySem.F.type_list_pop mt_pop (pe_var hN hv hd hcd) hbase hline) hg hs hw h1) fun D σ H ⟨H0, ok, q⟩ => by
    obtain ⟨a, ea, na, vs, ha, ra⟩ := ok.own hc
    have hl := ra.length
    rw [List.length_append, List.length_singleton] at hl
    have hy : ∃ y, vs[vs.length - 1]? = some y ∧ TD X.K H y d := ra.get (i := vs.length - 1) (by rw [hl]; simp)
    obtain ⟨y, hy, ry⟩ := hy
    have t : TupEx H (upd H a (.lst vs.dropLast)) := TupEx.write (lstNoTup ha)
    have rl : TDs X.K H vs.dropLast ds := by
      have z := ra.take ds.length
      rw [List.take_left] at z
      rwa [List.dropLast_eq_take, show vs.length - 1 = ds.length by omega]
    refine ⟨.ref a, ea, .inl ⟨rfl, _, .of ha⟩, a, vs, y, rfl, rfl, ha, hy, ?_⟩
    have ok1 : EnvOk X.prog X.w X.K H0 (upd H a (.lst vs.dropLast)) σ (Γ.set i (.own (.lst ds))) := ok.write ⟨ea, _, hc⟩ ⟨vs.dropLast, upd_same, rl.at t⟩
    exact ⟨H0, ok1.ex, ry.at t, fun σ' _ _ k => q H0 σ' _ (Same.refl H0) (k H0 (Same.refl H0) ok1)⟩
end
/-! ### the paths -/
def pathsF (p : Piece) : Nat → Nat → Looks → List Looks
  | 0, _, _ => []
  | f + 1, i, L => if i = p.stands.length then [L] else ((p.stands.getD i []).reverse).flatMap fun a => pathsF p f a.2 (behindM L (stepM p a.1))
def wtF (p : Piece) : Nat → Nat → Nat
  | 0, _ => 1
  | f + 1, i => if i = p.stands.length then 1 else 1 + ((p.stands.getD i []).map fun a => wtF p f a.2).sum
def paths (p : Piece) (i : Nat) (L : Looks) : List Looks := pathsF p (p.stands.length + 1 - i) i L
def wt (p : Piece) (i : Nat) : Nat := wtF p (p.stands.length + 1 - i) i
section
variable {n : Nat} {p : Piece} (V : VPiece n p)
include V
theorem row_at {i : Nat} (hi : i < p.stands.length) : p.stands[i]? = some (p.stands.getD i []) := by rw [List.getD_eq_getElem?_getD, List.getElem?_eq_getElem hi]; rfl
theorem pathsF_eq : ∀ (f g i : Nat) (L : Looks), i ≤ p.stands.length → p.stands.length < f + i → p.stands.length < g + i → pathsF p f i L = pathsF p g i L
  | 0, _, i, L, h1, h2, _ => by omega
  | f + 1, 0, i, L, h1, _, h3 => by omega
  | f + 1, g + 1, i, L, h1, h2, h3 => by
    unfold pathsF
    split
    · rfl
    · have hi : i < p.stands.length := by omega
      have hrow := row_at V hi
      have key : ∀ as : List (Nat × Nat), (∀ a ∈ as, a ∈ p.stands.getD i []) → as.flatMap (fun a => pathsF p f a.2 (behindM L (stepM p a.1))) = as.flatMap fun a => pathsF p g a.2 (behindM L (stepM p a.1)) := fun as has => by
        induction as with
        | nil => rfl
        | cons a as ih =>
          have hm := V.arr i _ hrow a (has a List.mem_cons_self)
          rw [List.flatMap_cons, List.flatMap_cons, ih fun b hb => has b (List.mem_cons_of_mem _ hb), pathsF_eq f g a.2 _ hm.2.2 (by omega) (by omega)]
      exact key _ fun a ha => List.mem_reverse.mp ha
theorem wtF_eq : ∀ (f g i : Nat), i ≤ p.stands.length → p.stands.length < f + i → p.stands.length < g + i → wtF p f i = wtF p g i
  | 0, _, i, h1, h2, _ => by omega
  | f + 1, 0, i, h1, _, h3 => by omega
  | f + 1, g + 1, i, h1, h2, h3 => by
    unfold wtF
    split
    · rfl
    · have hi : i < p.stands.length := by omega
      have hrow := row_at V hi
      congr 2
      refine List.map_congr_left fun a ha => ?_
      have hm := V.arr i _ hrow a ha
      exact wtF_eq f g a.2 hm.2.2 (by omega) (by omega)
theorem paths_end (L : Looks) : paths p p.stands.length L = [L] := by
  unfold paths
  rw [show p.stands.length + 1 - p.stands.length = 0 + 1 by omega]
  unfold pathsF
  rw [if_pos rfl]
theorem paths_row {i : Nat} (hi : i < p.stands.length) (L : Looks) : paths p i L = ((p.stands.getD i []).reverse).flatMap fun a => paths p a.2 (behindM L (stepM p a.1)) := by
  have hrow := row_at V hi
  unfold paths
  rw [show p.stands.length + 1 - i = (p.stands.length - i) + 1 by omega]
  show (if i = p.stands.length then [L] else _) = _
  rw [if_neg (by omega)]
  have key : ∀ as : List (Nat × Nat), (∀ a ∈ as, a ∈ p.stands.getD i []) → as.flatMap (fun a => pathsF p (p.stands.length - i) a.2 (behindM L (stepM p a.1))) = as.flatMap fun a => pathsF p (p.stands.length + 1 - a.2) a.2 (behindM L (stepM p a.1)) := fun as has => by
    induction as with
    | nil => rfl
    | cons a as ih =>
      have hm := V.arr i _ hrow a (has a List.mem_cons_self)
      rw [List.flatMap_cons, List.flatMap_cons, ih fun b hb => has b (List.mem_cons_of_mem _ hb), pathsF_eq V _ (p.stands.length + 1 - a.2) a.2 _ hm.2.2 (by omega) (by omega)]
  exact key _ fun a ha => List.mem_reverse.mp ha
theorem wt_end : wt p p.stands.length = 1 := by
  unfold wt
  rw [show p.stands.length + 1 - p.stands.length = 0 + 1 by omega]
  unfold wtF
  rw [if_pos rfl]
theorem wt_row {i : Nat} (hi : i < p.stands.length) : wt p i = 1 + ((p.stands.getD i []).map fun a => wt p a.2).sum := by
  have hrow := row_at V hi
  unfold wt
  rw [show p.stands.length + 1 - i = (p.stands.length - i) + 1 by omega]
  show (if i = p.stands.length then 1 else _) = _
  rw [if_neg (by omega)]
  congr 2
  refine List.map_congr_left fun a ha => ?_
  have hm := V.arr i _ hrow a ha
  exact wtF_eq V _ _ a.2 hm.2.2 (by omega) (by omega)
end
theorem wt_pos (p : Piece) (i : Nat) : 1 ≤ wt p i := by
  unfold wt
  cases p.stands.length + 1 - i with
  | zero => exact Nat.le_refl 1
  | succ f =>
    unfold wtF
    split
    · exact Nat.le_refl _
    · omega
/-! ### what can be reached -/
inductive Reach (p : Piece) (n : Nat) : Nat → Looks → Prop
  | start : Reach p n 0 (stillM n)
  | step {i : Nat} {L : Looks} {row : List (Nat × Nat)} {a : Nat × Nat} : Reach p n i L → p.stands[i]? = some row → a ∈ row → Reach p n a.2 (behindM L (stepM p a.1))
theorem mem_addTo {kss : List (List Looks)} {t j : Nat} {x L : Looks} (ht : t < kss.length) : L ∈ (addTo kss t x).getD j [] ↔ L ∈ kss.getD j [] ∨ (j = t ∧ L = x) := by
  unfold addTo
  rw [addGet ht]
  by_cases e : j = t
  · subst e
    rw [if_pos rfl]
    unfold addK
    split
    · rename_i h
      exact ⟨.inl, fun z => z.elim id fun ⟨_, q⟩ => by rw [q]; exact h⟩
    · rw [List.mem_append, List.mem_singleton]
      exact ⟨fun z => z.elim .inl fun q => .inr ⟨rfl, q⟩, fun z => z.elim .inl fun q => .inr q.2⟩
  · rw [if_neg e]
    exact ⟨.inl, fun z => z.elim id fun q => absurd q.1 e⟩
theorem mem_runIn {t j : Nat} {g : Looks → Looks} {L : Looks} : ∀ {Ls : List Looks} {kss : List (List Looks)}, t < kss.length → (L ∈ (runIn t g Ls kss).getD j [] ↔ L ∈ kss.getD j [] ∨ (j = t ∧ ∃ M ∈ Ls, L = g M))
  | [], kss, _ => ⟨.inl, fun z => z.elim id fun ⟨_, M, h, _⟩ => by cases h⟩
  | M :: Ls, kss, ht => by
    have l : t < (addTo kss t (g M)).length := by unfold addTo; rw [List.length_set]; exact ht
    show L ∈ (runIn t g Ls (addTo kss t (g M))).getD j [] ↔ _
    rw [mem_runIn l, mem_addTo ht]
    constructor
    · rintro ((h | ⟨h1, h2⟩) | ⟨h1, M', h2, h3⟩)
      · exact .inl h
      · exact .inr ⟨h1, M, List.mem_cons_self, h2⟩
      · exact .inr ⟨h1, M', List.mem_cons_of_mem _ h2, h3⟩
    · rintro (h | ⟨h1, M', h2, h3⟩)
      · exact .inl (.inl h)
      · rcases List.mem_cons.mp h2 with e | e
        · exact .inl (.inr ⟨h1, by rw [h3, e]⟩)
        · exact .inr ⟨h1, M', e, h3⟩
theorem mem_rowM {p : Piece} {i j : Nat} {L : Looks} : ∀ {row : List (Nat × Nat)} {kss : List (List Looks)}, kss.length = p.stands.length + 1 → (∀ a ∈ row, i < a.2 ∧ a.2 ≤ p.stands.length) → (L ∈ (rowM p i row kss).getD j [] ↔ L ∈ kss.getD j [] ∨ ∃ a ∈ row, j = a.2 ∧ ∃ M ∈ kss.getD i [], L = behindM M (stepM p a.1))
  | [], kss, _, _ => ⟨.inl, fun z => z.elim id fun ⟨_, h, _⟩ => by cases h⟩
  | a :: row, kss, hl, hr => by
    have ha := hr a List.mem_cons_self
    have ht : a.2 < kss.length := by omega
    have l : (armM p i a kss).length = p.stands.length + 1 := by unfold armM; rw [runIn_len]; exact hl
    have same : ∀ M, M ∈ (armM p i a kss).getD i [] ↔ M ∈ kss.getD i [] := fun M => by
      unfold armM
      rw [mem_runIn ht]
      exact ⟨fun z => z.elim id fun q => absurd q.1 (by omega), .inl⟩
    show L ∈ (rowM p i row (armM p i a kss)).getD j [] ↔ _
    rw [mem_rowM l fun b hb => hr b (List.mem_cons_of_mem _ hb)]
    have h0 : L ∈ (armM p i a kss).getD j [] ↔ L ∈ kss.getD j [] ∨ (j = a.2 ∧ ∃ M ∈ kss.getD i [], L = behindM M (stepM p a.1)) := mem_runIn ht
    rw [h0]
    constructor
    · rintro ((h | ⟨h1, M, h2, h3⟩) | ⟨b, hb, h1, M, h2, h3⟩)
      · exact .inl h
      · exact .inr ⟨a, List.mem_cons_self, h1, M, h2, h3⟩
      · exact .inr ⟨b, List.mem_cons_of_mem _ hb, h1, M, (same M).mp h2, h3⟩
    · rintro (h | ⟨b, hb, h1, M, h2, h3⟩)
      · exact .inl (.inl h)
      · rcases List.mem_cons.mp hb with e | e
        · subst e
          exact .inl (.inr ⟨h1, M, h2, h3⟩)
        · exact .inr ⟨b, e, h1, M, (same M).mpr h2, h3⟩
section
variable {n : Nat} {p : Piece} (V : VPiece n p)
include V
theorem run_len (i : Nat) (hi : i ≤ p.stands.length) : (runTo p n i).length = p.stands.length + 1 := (run_inv V i hi).len
theorem run_step {i j : Nat} {L : Looks} (hi : i < p.stands.length) : L ∈ (runTo p n (i + 1)).getD j [] ↔ L ∈ (runTo p n i).getD j [] ∨ ∃ a ∈ p.stands.getD i [], j = a.2 ∧ ∃ M ∈ (runTo p n i).getD i [], L = behindM M (stepM p a.1) :=
  mem_rowM (run_len V i (by omega)) fun a ha => (V.arr i _ (row_at V hi) a ha).2
theorem run_sound : ∀ i, i ≤ p.stands.length → ∀ j L, L ∈ (runTo p n i).getD j [] → Reach p n j L
  | 0, _, j, L, h => by
    have z := (mem_addTo (kss := List.replicate (p.stands.length + 1) []) (t := 0) (x := stillM n) (j := j) (L := L) (by rw [List.length_replicate]; omega)).mp h
    rcases z with z | ⟨rfl, rfl⟩
    · rw [List.getD_eq_getElem?_getD, List.getElem?_replicate] at z
      split at z <;> cases z
    · exact .start
  | i + 1, hi, j, L, h => by
    rcases (run_step V (by omega)).mp h with z | ⟨a, ha, rfl, M, hM, rfl⟩
    · exact run_sound i (by omega) j L z
    · exact .step (run_sound i (by omega) i M hM) (row_at V (by omega)) ha
theorem run_mono {j : Nat} {L : Looks} : ∀ d i, i + d ≤ p.stands.length → L ∈ (runTo p n i).getD j [] → L ∈ (runTo p n (i + d)).getD j []
  | 0, _, _, h => h
  | d + 1, i, hd, h => (run_step V (i := i + d) (by omega)).mpr (.inl (run_mono d i (by omega) h))
theorem run_full : ∀ {j : Nat} {L : Looks}, Reach p n j L → j ≤ p.stands.length ∧ L ∈ (runTo p n j).getD j [] := by
  intro j L h
  induction h with
  | start =>
    refine ⟨Nat.zero_le _, ?_⟩
    exact (mem_addTo (by rw [List.length_replicate]; omega)).mpr (.inr ⟨rfl, rfl⟩)
  | @step i L row a h hrow ha ih =>
    have lt := (List.getElem?_eq_some_iff.mp hrow).1
    have hr : p.stands.getD i [] = row := by rw [List.getD_eq_getElem?_getD, hrow]; rfl
    have hm := V.arr i row hrow a ha
    refine ⟨hm.2.2, ?_⟩
    have z : behindM L (stepM p a.1) ∈ (runTo p n (i + 1)).getD a.2 [] := (run_step V lt).mpr (.inr ⟨a, by rw [hr]; exact ha, rfl, L, ih.2, rfl⟩)
    have y := run_mono V (a.2 - (i + 1)) (i + 1) (by omega) z
    rwa [show i + 1 + (a.2 - (i + 1)) = a.2 by omega] at y
theorem mem_rows {L : Looks} : L ∈ rowsM p n ↔ Reach p n p.stands.length L := by
  unfold rowsM
  rw [mem_canon]
  exact ⟨run_sound V _ (Nat.le_refl _) _ L, fun h => (run_full V h).2⟩
theorem paths_sound : ∀ d i L0, d + i = p.stands.length → Reach p n i L0 → ∀ L ∈ paths p i L0, Reach p n p.stands.length L := by
  intro d
  induction d using Nat.strongRecOn with
  | _ d ih =>
    intro i L0 hd h L hL
    by_cases e : i = p.stands.length
    · subst e
      rw [paths_end V] at hL
      rw [List.mem_singleton.mp hL]; exact h
    · have hi : i < p.stands.length := by omega
      rw [paths_row V hi] at hL
      obtain ⟨a, ha, hq⟩ := List.mem_flatMap.mp hL
      have hm := V.arr i _ (row_at V hi) a (List.mem_reverse.mp ha)
      exact ih (p.stands.length - a.2) (by omega) a.2 _ (by omega) (.step h (row_at V hi) (List.mem_reverse.mp ha)) L hq
theorem paths_full : ∀ {j : Nat} {M : Looks}, Reach p n j M → ∀ L ∈ paths p j M, L ∈ paths p 0 (stillM n) := by
  intro j M h
  induction h with
  | start => exact fun L hL => hL
  | @step i L0 row a h hrow ha ih =>
    intro L hL
    have lt := (List.getElem?_eq_some_iff.mp hrow).1
    have hr : p.stands.getD i [] = row := by rw [List.getD_eq_getElem?_getD, hrow]; rfl
    refine ih L ?_
    rw [paths_row V lt, hr]
    exact List.mem_flatMap.mpr ⟨a, List.mem_reverse.mpr ha, hL⟩
/-- the program's rows are the looks of the paths -/
theorem rows_paths : rowsM p n = canon ltLooks (paths p 0 (stillM n)) := by
  refine canon_is lin_Looks (canon_sorted lin_Looks _) fun L => ?_
  show L ∈ rowsM p n ↔ _
  rw [mem_rows V]
  refine ⟨fun h => ?_, fun h => paths_sound V p.stands.length 0 _ (by omega) .start L h⟩
  have z := paths_full V h L
  rw [paths_end V] at z
  exact z List.mem_cons_self
end
end K54
set_option Elab.async false
set_option linter.all false
set_option autoImplicit false
set_option maxRecDepth 100000
set_option maxHeartbeats 2000000
/-! K54: defs of the law, 5: row_looks, the walk -/
namespace K54
open PySem PySem.Spec PyProof.Rows L2
abbrev Fr := Looks × Nat
def eFr (q : Fr) : PyData := .tuple [eLooks q.1, eN q.2]
def kids (p : Piece) (q : Fr) : List Fr := (p.stands.getD q.2 []).map fun a => (behindM q.1 (stepM p a.1), a.2)
def rstep (p : Piece) (s : List Looks × List Fr) : List Looks × List Fr := match s.2.getLast? with
  | none => s
  | some q => if q.2 = p.stands.length then (s.1 ++ [q.1], s.2.dropLast) else (s.1, s.2.dropLast ++ kids p q)
def rst (p : Piece) (n : Nat) : Nat → List Looks × List Fr
  | 0 => ([], [(stillM n, 0)])
  | i + 1 => rstep p (rst p n i)
def mu (p : Piece) (l : List Fr) : Nat := (l.map fun q => wt p q.2).sum
theorem mu_app (p : Piece) (l m : List Fr) : mu p (l ++ m) = mu p l + mu p m := by unfold mu; rw [List.map_append, List.sum_append]
theorem mu_len (p : Piece) : ∀ l : List Fr, l.length ≤ mu p l
  | [] => Nat.le_refl _
  | q :: l => by
    have a := mu_len p l
    have b := wt_pos p q.2
    unfold mu at a ⊢
    rw [List.length_cons, List.map_cons, List.sum_cons]; omega
def ansOf (p : Piece) (s : List Looks × List Fr) : List Looks := s.1 ++ s.2.reverse.flatMap fun q => paths p q.2 q.1
theorem last_split {α : Type} {l : List α} {q : α} (h : l.getLast? = some q) : l = l.dropLast ++ [q] := by
  obtain ⟨ys, rfl⟩ := List.getLast?_eq_some_iff.mp h
  rw [List.dropLast_concat]
structure RInv (n : Nat) (p : Piece) (s : List Looks × List Fr) : Prop where
  fr : ∀ q ∈ s.2, q.2 ≤ p.stands.length ∧ VLooks n q.1
  fd : ∀ L ∈ s.1, VLooks n L
  an : ansOf p s = paths p 0 (stillM n)
theorem stepV {n : Nat} {p : Piece} (V : VPiece n p) {a : Nat} (h : a < p.steps.length) : VLooks n (stepM p a) := by
  unfold stepM
  rw [List.getD_eq_getElem?_getD, List.getElem?_eq_getElem h]
  exact V.steps _ (List.getElem_mem h)
theorem kids_ok {n : Nat} {p : Piece} (V : VPiece n p) {q : Fr} (hq : VLooks n q.1) (hs : q.2 < p.stands.length) : (∀ r ∈ kids p q, r.2 ≤ p.stands.length ∧ VLooks n r.1) ∧ mu p (kids p q) + 1 = wt p q.2 ∧ (kids p q).reverse.flatMap (fun q => paths p q.2 q.1) = paths p q.2 q.1 := by
  have hrow := row_at V hs
  refine ⟨fun r hr => ?_, ?_, ?_⟩
  · obtain ⟨a, ha, rfl⟩ := List.mem_map.mp hr
    have hm := V.arr q.2 _ hrow a ha
    exact ⟨hm.2.2, behindV hq (stepV V hm.1)⟩
  · rw [wt_row V hs]
    unfold mu kids
    rw [List.map_map]
    show ((p.stands.getD q.2 []).map fun a => wt p a.2).sum + 1 = _
    omega
  · rw [paths_row V hs]
    unfold kids
    rw [← List.map_reverse, List.flatMap_map]
theorem rstep_inv {n : Nat} {p : Piece} (V : VPiece n p) {s : List Looks × List Fr} (h : RInv n p s) : RInv n p (rstep p s) ∧ (s.2 ≠ [] → mu p (rstep p s).2 + 1 = mu p s.2) := by
  unfold rstep
  cases hl : s.2.getLast? with
  | none => exact ⟨h, fun z => absurd (List.getLast?_eq_none_iff.mp hl) z⟩
  | some q =>
    have sp := last_split hl
    have hq := h.fr q (by rw [sp]; exact List.mem_append_right _ List.mem_cons_self)
    have hd : ∀ r ∈ s.2.dropLast, r.2 ≤ p.stands.length ∧ VLooks n r.1 := fun r hr => h.fr r (by rw [sp]; exact List.mem_append_left _ hr)
    have mu0 : mu p s.2 = mu p s.2.dropLast + wt p q.2 := by
      have z := congrArg (mu p) sp
      rw [mu_app] at z
      rw [z]; simp [mu]
    have an0 : ansOf p s = s.1 ++ (paths p q.2 q.1 ++ s.2.dropLast.reverse.flatMap fun q => paths p q.2 q.1) := by
      unfold ansOf
      have z := congrArg (fun l : List Fr => l.reverse.flatMap fun q => paths p q.2 q.1) sp
      have z' : s.2.reverse.flatMap (fun q => paths p q.2 q.1) = (s.2.dropLast ++ [q]).reverse.flatMap (fun q => paths p q.2 q.1) := z
      rw [z', List.reverse_append, List.flatMap_append]
      simp
    dsimp only
    by_cases e : q.2 = p.stands.length
    · rw [if_pos e]
      refine ⟨⟨hd, fun L hL => ?_, ?_⟩, fun _ => ?_⟩
      · rcases List.mem_append.mp hL with z | z
        · exact h.fd L z
        · rw [List.mem_singleton.mp z]; exact hq.2
      · rw [← h.an, an0, e, paths_end V]
        unfold ansOf
        simp
      · show mu p s.2.dropLast + 1 = _
        rw [mu0, e, wt_end V]
    · rw [if_neg e]
      obtain ⟨k1, k2, k3⟩ := kids_ok V hq.2 (by omega)
      refine ⟨⟨fun r hr => ?_, h.fd, ?_⟩, fun _ => ?_⟩
      · rcases List.mem_append.mp hr with z | z
        · exact hd r z
        · exact k1 r z
      · rw [← h.an, an0]
        unfold ansOf
        show s.1 ++ (s.2.dropLast ++ kids p q).reverse.flatMap _ = _
        rw [List.reverse_append, List.flatMap_append, k3]
      · show mu p (s.2.dropLast ++ kids p q) + 1 = _
        rw [mu_app, mu0]; omega
theorem rst_inv {n : Nat} {p : Piece} (V : VPiece n p) : ∀ i, RInv n p (rst p n i) ∧ (i ≤ wt p 0 → mu p (rst p n i).2 + i = wt p 0)
  | 0 => by
    refine ⟨⟨fun q hq => ?_, fun L hL => (nomatch hL), ?_⟩, fun _ => ?_⟩
    · rw [List.mem_singleton.mp hq]
      exact ⟨Nat.zero_le _, still_v n⟩
    · simp [ansOf, rst]
    · simp [mu, rst]
  | i + 1 => by
    obtain ⟨h1, h2⟩ := rst_inv V i
    obtain ⟨k1, k2⟩ := rstep_inv V h1
    refine ⟨k1, fun hi => ?_⟩
    have z := h2 (by omega)
    have ne : (rst p n i).2 ≠ [] := fun q => by
      rw [q] at z
      have : mu p [] = 0 := rfl
      omega
    have := k2 ne
    show mu p (rstep p (rst p n i)).2 + (i + 1) = _
    omega
section
variable {X : Cx} {Γ : List Cell} {e : Expr} {pos p : Pos} {α : Type} [DecidableEq α] {xs : List α} {f : α → PyData} {k : Nat}
theorem dt_neNilL (h : DL X Γ e (xs.map f)) (hf : ∀ x, Nice (f x) k) (hu : X.A.units + 64 < cLine) (hk : k + 1 ≤ 64 := by decide) (hm : behindInMarks .NotEq (.List [] p) = false := by first | exact nomark _ | rfl) : DT X Γ (.Compare e [.NotEq] [.List [] p] pos) (decide (xs ≠ [])) :=
  DT.is (dtg_cmp (k := !PyData.eqv (.list (xs.map f)) (.list [])) (op_neD hu) (opNeD ((nice_lmap hf).shaped hk) rfl) h.g (DN.g (dn_lst du_nil)) hm) (by rw [eqv_lnil]; simp)
end
theorem nice_Fr (q : Fr) : Nice (eFr q) 3 := nice_pair (nice_Looks q.1) (Nice.up (nice_N q.2) (by decide))
section
variable {P : Program} {w : World} {K : PySem.W.Frag} {mg : Str → Option Value} {base : Heap} {k : Nat}
theorem scS52 : FnScope ["_law_piece_so", "_law_n", "_law_found", "_law_line", "_law_own", "_law_stand", "_law_step", "_law_goal"] ["_law_piece_so"] (defScope (top 52)) := ⟨rfl, rfl, rfl, by decide +kernel, rfl, by decide +kernel, by decide +kernel⟩
/-- the paths are few -/
structure LP (n : Nat) (p : Piece) : Prop where
  v : VPiece n p
  few : (paths p 0 (stillM n)).length < 64
  w : wt p 0 ≤ 1000
def rRow (as : List Arg) (ds : List PyData) : Prop := ∃ p n, LP n p ∧ as = [.t (ePiece p)] ∧ ds = (rowsM p n).map eLooks
theorem ok_lrow (B : Blt mg) (D : DefAt K mg "_law_row_looks" 52 ["_law_piece_so"]) (O1 : Ok P w K mg base "_law_still" k ["_law_n"] (spE K rStill)) (O2 : Ok P w K mg base "_law_behind" k ["_law_first", "_law_then"] (spE K rBehind)) : Ok P w K mg base "_law_row_looks" (k + 1) ["_law_piece_so"] (spN K rRow) := by
  refine okN' D scS52 (fun as d h => by obtain ⟨_, _, _, rfl, _⟩ := h; rfl) fun nd f cdv A outer s H E hr as d h => ?_
  obtain ⟨p, n, V, rfl, rfl⟩ := h
  obtain ⟨L0, Lr, e0⟩ : ∃ L0 Lr, p.steps = L0 :: Lr := by
    cases hs : p.steps with
    | nil => exact absurd hs V.v.ne
    | cons x l => exact ⟨x, l, rfl⟩
  have l0 : L0.length = n := (V.v.steps L0 (by rw [e0]; exact List.mem_cons_self)).1
  have n3 := V.v.n3
  have muN : ∀ i, i ≤ wt p 0 → mu p (rst p n i).2 + i = wt p 0 := fun i => (rst_inv V.v i).2
  have fdl : ∀ i, (rst p n i).1.length < 64 := fun i => by
    have z := congrArg List.length (rst_inv V.v i).1.an
    unfold ansOf at z
    rw [List.length_append] at z
    have := V.few; omega
  have lnl : ∀ i, i ≤ wt p 0 → (rst p n i).2.length ≤ 1000 := fun i hi => by
    have := mu_len p (rst p n i).2
    have := muN i hi
    have := V.w; omega
  have lend : (rst p n (wt p 0)).2 = [] := by
    have z := muN _ (Nat.le_refl _)
    have y := mu_len p (rst p n (wt p 0)).2
    exact List.length_eq_zero_iff.mp (by omega)
  have fin : canon ltLooks (rst p n (wt p 0)).1 = rowsM p n := by
    have z := (rst_inv V.v (wt p 0)).1.an
    unfold ansOf at z
    rw [lend] at z
    have z' : (rst p n (wt p 0)).1 = paths p 0 (stillM n) := by simpa using z
    rw [z', rows_paths V.v]
  refine DSs.is (dss_cons (ds_set 1 (d := eN n) (DE.is (de_lenT (ds := L0.map eLot) (de_ixT (ds := [eLooks L0, .none]) (de_ixT (d := eStep L0) (ds := p.steps.map eStep) (de_ixT (ds := [eSteps p, eStands p]) (de_var 0) de_int rfl) de_int (atI_nat (i := 0) (by rw [e0]; rfl))) de_int rfl) B.len) (by rw [List.length_map, l0]; rfl)))
    (dss_cons (ds_parOO 2 3 (cs := []) (ds := [eFr (stillM n, 0)]) (dn_lst du_nil) (dn_lst (du_cons (de_tup (du_cons (de_fn O1 hr (dr_t (de_var 1) dr_nil) ⟨n, by omega, rfl, rfl⟩) (du_cons de_int du_nil))) du_nil)))
    (dss_cons (ds_while (fun i => [.dat (ePiece p), .dat (eN n), .own (.lst ((rst p n i).1.map eLooks)), .own (.lst ((rst p n i).2.map eFr)), .un, .un, .un, .un]) (wt p 0) ?_ (fun i hi => DT.is (dt_neNilL (do_var 3) nice_Fr hr.units) ?_) (DT.is (dt_neNilL (do_var 3) nice_Fr hr.units) ?_) fun i hi => ?_)
    (dss_one (ds_retN (dn_sortSet kLooks (xs := (rst p n (wt p 0)).1) (DL.q (do_var 2)) ?_ (by decide) (fdl _) hr.units B.sorted B.set)))))) ?_
  · exact .cons (.eq _) (.cons (.eq _) (.cons (.eq _) (.cons (.eq _) (.cons (.un _) (.cons (.un _) (.cons (.un _) (.cons (.un _) .nil)))))))
  · refine decide_eq_true fun z => ?_
    have y := muN i (by omega)
    rw [z] at y
    have : mu p [] = 0 := rfl
    omega
  · exact decide_eq_false fun z => z lend
  · have I := (rst_inv V.v i).1
    have ne : (rst p n i).2 ≠ [] := fun z => by
      have y := muN i (by omega)
      rw [z] at y
      have : mu p [] = 0 := rfl
      omega
    obtain ⟨q, hq⟩ : ∃ q, (rst p n i).2.getLast? = some q := by
      cases hl : (rst p n i).2.getLast? with
      | none => exact absurd (List.getLast?_eq_none_iff.mp hl) ne
      | some q => exact ⟨q, rfl⟩
    have sp := last_split hq
    have fq := I.fr q (by rw [sp]; exact List.mem_append_right _ List.mem_cons_self)
    have ln := lnl i (by omega)
    have ln1 := lnl (i + 1) (by omega)
    have dl : (rst p n i).2.dropLast.length ≤ 1000 := by rw [List.length_dropLast]; omega
    generalize hls : (rst p n i).2.dropLast = ls at sp dl
    generalize hfd : (rst p n i).1 = fd
    have hn : rst p n (i + 1) = if q.2 = p.stands.length then (fd ++ [q.1], ls) else (fd, ls ++ kids p q) := by
      show rstep p (rst p n i) = _
      unfold rstep
      rw [hq, ← hfd, ← hls]
    have fdl' : fd.length < 64 := by rw [← hfd]; exact fdl i
    refine dss_cons (ds_popA 3 (ds := ls.map eFr) (d := eFr q) (by show some (Cell.own (Own.lst ((rst p n i).2.map eFr))) = _; rw [sp, List.map_append]; rfl) (dg_tup (ds := [eLooks q.1, eN q.2]) (dgs_cons (dg_name 4) (dgs_cons (dg_name 5) dgs_nil)))) (dss_one (ds_if (b := decide (q.2 = p.stands.length)) (DT.is (dtg_cmp (op_eqD hr.units) (opEqD rfl rfl) (DE.g (de_var 5)) (DE.g (de_lenT (ds := p.stands.map eWays) (de_ixT (ds := [eSteps p, eStands p]) (de_var 0) de_int rfl) B.len))) ?_) (fun z => DSs.wk2 (dss_one (ds_app 2 (de_var 4) ?_)) ?_) fun z => DSs.wk2 (dss_one (ds_for (fun j => [.dat (ePiece p), .dat (eN n), .own (.lst (fd.map eLooks)), .own (.lst ((ls ++ (kids p q).take j).map eFr)), .dat (eLooks q.1), .dat (eN q.2), .un, .un]) (xs := p.stands.getD q.2 []) (enc := fun a => .t (eArr a)) (di_tup (de_ixT (ds := p.stands.map eWays) (de_ixT (ds := [eSteps p, eStands p]) (de_var 0) de_int rfl) (de_var 5) (atI_nat ?_))) ?_ fun j a ha => ⟨_, _, dg_tup (dgs_cons (dg_name 6) (dgs_cons (dg_name 7) dgs_nil)), DSs.wk2 (dss_one (ds_app 3 (d := eFr (behindM q.1 (stepM p a.1), a.2)) (de_tup (du_cons (de_fn O2 hr (dr_t (de_var 4) (dr_t (de_ixT (ds := [eLooks (stepM p a.1), .none]) (de_ixT (ds := p.steps.map eStep) (de_ixT (ds := [eSteps p, eStands p]) (de_var 0) de_int rfl) (de_var 6) (atI_nat ?_)) de_int rfl) dr_nil)) ⟨n, q.1, stepM p a.1, n3, fq.2, ?_, rfl, rfl⟩) (du_cons (de_var 7) du_nil))) ?_)) ?_⟩)) ?_))
    · rw [List.length_map]; exact eqInts _ _
    · rw [List.length_map]; omega
    · rw [if_pos (of_decide_eq_true z)] at hn
      rw [hn]
      refine .cons (.eq _) (.cons (.eq _) (.cons ?_ (.cons (.eq _) (.cons (.un _) (.cons (.un _) (.cons (.un _) (.cons (.un _) .nil)))))))
      rw [List.map_append]
      exact .eq _
    · have hs : q.2 < p.stands.length := by have := of_decide_eq_false z; have := fq.1; omega
      rw [List.getElem?_map, row_at V.v hs]; rfl
    · rw [List.take_zero, List.append_nil]
      exact .cons (.eq _) (.cons (.eq _) (.cons (.eq _) (.cons (.eq _) (.cons (.eq _) (.cons (.eq _) (.cons (.un _) (.cons (.un _) .nil)))))))
    · have hs : q.2 < p.stands.length := by have := of_decide_eq_false z; have := fq.1; omega
      have lt := (V.v.arr q.2 _ (row_at V.v hs) a (List.mem_of_getElem? ha)).1
      unfold stepM
      rw [List.getElem?_map, List.getD_eq_getElem?_getD, List.getElem?_eq_getElem lt]; rfl
    · have hs : q.2 < p.stands.length := by have := of_decide_eq_false z; have := fq.1; omega
      exact stepV V.v (V.v.arr q.2 _ (row_at V.v hs) a (List.mem_of_getElem? ha)).1
    · rw [if_neg (of_decide_eq_false z)] at hn
      rw [hn] at ln1
      rw [List.length_map, List.length_append, List.length_take]
      rw [List.length_append] at ln1
      omega
    · refine .cons (.eq _) (.cons (.eq _) (.cons (.eq _) (.cons ?_ (.cons (.eq _) (.cons (.eq _) (.cons (.un _) (.cons (.un _) .nil)))))))
      have tk : (kids p q)[j]? = some (behindM q.1 (stepM p a.1), a.2) := by
        unfold kids
        rw [List.getElem?_map, ha]; rfl
      rw [take_succ_of tk, ← List.append_assoc, List.map_append (l₁ := ls ++ (kids p q).take j)]
      exact .eq _
    · rw [if_neg (of_decide_eq_false z)] at hn
      rw [hn]
      have e1 : (kids p q).take (p.stands.getD q.2 []).length = kids p q := by
        have : (kids p q).length = (p.stands.getD q.2 []).length := by unfold kids; rw [List.length_map]
        rw [← this, List.take_length]
      rw [e1]
      exact .cons (.eq _) (.cons (.eq _) (.cons (.eq _) (.cons (.eq _) (.cons (.un _) (.cons (.un _) (.cons (.un _) (.cons (.un _) .nil)))))))
  · intro L hL
    have := (rst_inv V.v (wt p 0)).1.fd L hL
    have l1 := this.1
    have := V.v.n1
    cases L with
    | nil => simp at l1; omega
    | cons l L => exact ⟨_, _, rfl⟩
  · show Out.rl ((canon ltLooks _).map eLooks) = _
    rw [fin]
end
end K54
set_option Elab.async false
set_option linter.all false
set_option autoImplicit false
set_option maxRecDepth 100000
set_option maxHeartbeats 1000000
/-! K54, the data layer, 16: a list of any data, made by a comprehension -/
namespace K54
open PySem PySem.Spec PyProof.Rows L2
/-- as grow; all that is not held back is in the base -/
theorem EnvOk.grow2 {P : Program} {w : World} {K : PySem.W.Frag} {H0 H : Hp} {σ : L2.St} {Γ : List Cell} {H1 : Hp} (ok : EnvOk P w K H0 H σ Γ) (e : Same H H1) : ∃ Hb, Same H0 Hb ∧ EnvOk P w K Hb H1 σ Γ ∧ (∀ a u, H1 a = some u → ¬ ((∃ u, H a = some u ∧ ∀ xs, ¬ Rd H a (.tup xs)) ∧ H0 a = none) → Hb a = some u) ∧ (∀ a u, H a = some u → (∀ xs, ¬ Rd H a (.tup xs)) → H0 a = none → Hb a = none) := by
  classical
  have key : ∀ a u, H0 a = some u → ¬ ((∃ u, H a = some u ∧ ∀ xs, ¬ Rd H a (.tup xs)) ∧ H0 a = none) := fun a u h z => by
    rw [h] at z
    cases z.2
  have ok1 := ok.mono e
  have sub : Same (fun a => if (∃ u, H a = some u ∧ ∀ xs, ¬ Rd H a (.tup xs)) ∧ H0 a = none then none else H1 a) H1 := fun a u h => by
    have h' : (if (∃ u, H a = some u ∧ ∀ xs, ¬ Rd H a (.tup xs)) ∧ H0 a = none then none else H1 a) = some u := h
    split at h'
    · cases h'
    · exact h'
  have s0 : Same H0 (fun a => if (∃ u, H a = some u ∧ ∀ xs, ¬ Rd H a (.tup xs)) ∧ H0 a = none then none else H1 a) := fun a u h => by
    show (if _ then none else H1 a) = some u
    rw [if_neg (key a u h)]
    exact ok1.ex a u h
  refine ⟨fun a => if (∃ u, H a = some u ∧ ∀ xs, ¬ Rd H a (.tup xs)) ∧ H0 a = none then none else H1 a, s0, ⟨sub, ok.len, fun i c x h1 h2 => ?_, ok.apart⟩, fun a u h n => ?_, fun a u h nt n => ?_⟩
  · have r := ok1.at_ i c x h1 h2
    cases c with
    | un => trivial
    | dat d => exact r
    | gd d => obtain ⟨v, e, q⟩ := r; exact ⟨v, e, dpEx s0 q⟩
    | rdl ds => obtain ⟨a, vs, e, q, q2⟩ := r; exact ⟨a, vs, e, s0 _ _ q, q2.ex s0⟩
    | own o =>
      obtain ⟨a, ea, n, q⟩ := r
      refine ⟨a, ea, ?_, q⟩
      show (if _ then none else H1 a) = none
      have own0 : OwnAt σ Γ i a := ⟨by rw [h2, ea], o, h1⟩
      obtain ⟨_, o', _, r'⟩ := ok.ownAt own0
      obtain ⟨u, hu⟩ := r'.some
      rw [if_pos ⟨⟨u, hu, r'.noTup⟩, n⟩]
  · show (if _ then none else H1 a) = some u
    rw [if_neg n]; exact h
  · show (if _ then none else H1 a) = none
    rw [if_pos ⟨⟨u, h, nt⟩, n⟩]
/-- v reads as d in a part of the heap H where nothing of B is -/
def DpOff (K : PySem.W.Frag) (B : Addr → Prop) (H : Hp) (v : V) (d : PyData) : Prop := ∃ Hs, Same Hs H ∧ (∀ a, B a → Hs a = none) ∧ Dp K Hs v d
inductive DpsOff (K : PySem.W.Frag) (B : Addr → Prop) (H : Hp) : List V → List PyData → Prop
  | nil : DpsOff K B H [] []
  | cons {v : V} {vs : List V} {d : PyData} {ds : List PyData} : DpOff K B H v d → DpsOff K B H vs ds → DpsOff K B H (v :: vs) (d :: ds)
theorem DpOff.ex {K : PySem.W.Frag} {B : Addr → Prop} {H H' : Hp} {v : V} {d : PyData} (h : DpOff K B H v d) (e : ∀ a u, ¬ B a → H a = some u → H' a = some u) : DpOff K B H' v d := by
  obtain ⟨Hs, s, n, r⟩ := h
  refine ⟨Hs, fun a u q => e a u (fun z => ?_) (s a u q), n, r⟩
  rw [n a z] at q; cases q
theorem DpsOff.ex {K : PySem.W.Frag} {B : Addr → Prop} {H H' : Hp} : ∀ {vs : List V} {ds : List PyData}, DpsOff K B H vs ds → (∀ a u, ¬ B a → H a = some u → H' a = some u) → DpsOff K B H' vs ds
  | _, _, .nil, _ => .nil
  | _, _, .cons h1 h2, e => .cons (h1.ex e) (DpsOff.ex h2 e)
theorem DpsOff.length {K : PySem.W.Frag} {B : Addr → Prop} {H : Hp} : ∀ {vs : List V} {ds : List PyData}, DpsOff K B H vs ds → vs.length = ds.length
  | _, _, .nil => rfl
  | _, _, .cons _ h2 => by rw [List.length_cons, List.length_cons, DpsOff.length h2]
theorem DpsOff.snoc {K : PySem.W.Frag} {B : Addr → Prop} {H : Hp} : ∀ {vs : List V} {ds : List PyData} {v : V} {d : PyData}, DpsOff K B H vs ds → DpOff K B H v d → DpsOff K B H (vs ++ [v]) (ds ++ [d])
  | _, _, _, _, .nil, h => .cons h .nil
  | _, _, _, _, .cons h1 h2, h => .cons h1 (DpsOff.snoc h2 h)
theorem DpsOff.all {K : PySem.W.Frag} {B : Addr → Prop} {H Hb : Hp} (e : ∀ a u, ¬ B a → H a = some u → Hb a = some u) : ∀ {vs : List V} {ds : List PyData}, DpsOff K B H vs ds → DpAll K Hb vs ds
  | _, _, .nil => .nil
  | _, _, .cons ⟨Hs, s, n, r⟩ h2 => .cons (dpEx (fun a u q => e a u (fun z => (by rw [n a z] at q; cases q)) (s a u q)) r) (DpsOff.all e h2)
section
variable {X : Cx} {Γ : List Cell} {tg iter elt : Expr} {ifs : List Expr} {scope : Scope} {own : List (Str × Nat)} {pos : Pos} {α : Type} {xs : List α} {enc : α → Arg} {p : α → Bool} {f : α → PyData}
def BlkB (X : Cx) (scope : Scope) (Γ : List Cell) (tg elt : Expr) (ifs : List Expr) (vs : List Nat) (enc : α → Arg) (p : α → Bool) (f : α → PyData) (x : α) (B : List Cell) (js : List Nat) : Prop :=
  (∀ j ∈ js, j ∈ vs) ∧ ∀ (s : Shared) (H : Hp) (C : Addr) (cl : List (Str × Addr)) (fp : List Addr), DGt (X.blk s H scope (compEnvC scope cl C X.env) fp) (wipeC Γ vs) tg (enc x) B js ∧
    DTs (X.blk s H scope (compEnvC scope cl C X.env) fp) B ifs (p x) ∧ (p x = true → DB (X.blk s H scope (compEnvC scope cl C X.env) fp) B elt (f x))
structure BIy (X : Cx) (scope : Scope) (Γ : List Cell) (tg elt : Expr) (ifs : List Expr) (vs : List Nat) (enc : α → Arg) (p : α → Bool) (f : α → PyData) where
  x : α
  B : List Cell
  js : List Nat
  ok : BlkB X scope Γ tg elt ifs vs enc p f x B js
theorem lb_parts : 
    (∀ (s : Shared) (H : Hp) (C : Addr) (cl : List (Str × Addr)) (fp : List Addr), PG (X.blk s H scope (compEnvC scope cl C X.env) fp) tg (fun v σ H Q => ∃ q : BIy X scope Γ tg elt ifs (own.map (·.2)) enc p f, gD X.prog X.w X.K (wipeC Γ (own.map (·.2))) (enc q.x) q.B q.js v σ H Q)) ∧
    (∀ (s : Shared) (H : Hp) (C : Addr) (cl : List (Str × Addr)) (fp : List Addr), PTs (X.blk s H scope (compEnvC scope cl C X.env) fp) ifs (fun σ H Q => ∃ q : BIy X scope Γ tg elt ifs (own.map (·.2)) enc p f, tB1 X.prog X.w X.K q.B (p q.x) σ H Q)) ∧
    (∀ (s : Shared) (H : Hp) (C : Addr) (cl : List (Str × Addr)) (fp : List Addr), PE (X.blk s H scope (compEnvC scope cl C X.env) fp) elt (fun σ H Q => ∃ q : BIy X scope Γ tg elt ifs (own.map (·.2)) enc p f, p q.x = true ∧ tBs X.prog X.w X.K q.B (f q.x) σ H Q)) :=
  ⟨fun s H C cl fp => PG.ex fun q => (q.ok.2 s H C cl fp).1, fun s H C cl fp => PTs.ex fun q => (q.ok.2 s H C cl fp).2.1, fun s H C cl fp => PE.ex fun q => peIf fun hp => (q.ok.2 s H C cl fp).2.2 hp⟩
theorem lb_read (hz : xs.length ≤ 100000) (hb : ∀ x ∈ xs, ∃ B js, BlkB X scope Γ tg elt ifs (own.map (·.2)) enc p f x B js) (σ : L2.St) (H : Hp) (Q : VK) (h : tBs X.prog X.w X.K Γ (.list ((xs.filter p).map f)) σ H Q) :
    tLc (tI X.prog X.w X.K Γ (xs.map enc)) (fun v σ H Q => ∃ q : BIy X scope Γ tg elt ifs (own.map (·.2)) enc p f, gD X.prog X.w X.K (wipeC Γ (own.map (·.2))) (enc q.x) q.B q.js v σ H Q)
      (fun σ H Q => ∃ q : BIy X scope Γ tg elt ifs (own.map (·.2)) enc p f, tB1 X.prog X.w X.K q.B (p q.x) σ H Q) (fun σ H Q => ∃ q : BIy X scope Γ tg elt ifs (own.map (·.2)) enc p f, p q.x = true ∧ tBs X.prog X.w X.K q.B (f q.x) σ H Q) (own.map (·.2)) σ H Q := by
  obtain ⟨H0, ok, q⟩ := h
  refine ⟨H0, ok, fun J H1 Hb e1 b1 b6 okb wk D nD => ?_⟩
  -- what is kept off
  refine ⟨fun i m H' => i ≤ xs.length ∧ m = xs.length - i ∧ Same H1 H' ∧ ∃ us, H' D = some (.lst us) ∧ DpsOff X.K (fun a => a = D ∨ ((∃ u, H a = some u ∧ ∀ xs, ¬ Rd H a (.tup xs)) ∧ H0 a = none)) H' us (((xs.take i).filter p).map f), ⟨_, Nat.zero_le _, rfl, sameNew nD, [], upd_same, .nil⟩, ?_⟩
  rintro i m H' ⟨hi, rfl, e', us, hD, rD⟩
  have eb : Same Hb H' := okb.ex.trans e'
  by_cases hlt : i < xs.length
  · have hx : xs[i]? = some xs[i] := List.getElem?_eq_getElem hlt
    generalize xs[i] = x at hx
    obtain ⟨go, yl⟩ := (wk i H' eb).1 (enc x) (by rw [List.getElem?_map, hx]; rfl)
    refine .inr ⟨go, fun H'' => i + 1 ≤ xs.length ∧ Same H1 H'' ∧ ∃ us, H'' D = some (.lst us) ∧ DpsOff X.K (fun a => a = D ∨ ((∃ u, H a = some u ∧ ∀ xs, ¬ Rd H a (.tup xs)) ∧ H0 a = none)) H'' us (((xs.take (i + 1)).filter p).map f), fun H'' ⟨k1, k2, k3⟩ => ⟨_, ?_, k1, rfl, k2, k3⟩, fun v H'' y => ?_⟩
    · omega
    · obtain ⟨e2, Hc, c1, c2, c3, rv⟩ := yl v H'' y
      obtain ⟨B, js, hB⟩ := hb x (List.mem_of_getElem? hx)
      refine ⟨⟨x, B, js, hB⟩, Hc, c2, rv, fun σ' l' o' k' => ⟨wipe_eq (by rw [l', wipe_length]) hB.1 o', ?_⟩⟩
      have okB := k' Hc (Same.refl Hc) (((okb.mono e').rebase e2 c1 c2 c3).wipe _)
      refine ⟨⟨x, B, js, hB⟩, Hc, okB, fun H3 e3 => ?_⟩
      have hD3 := e3 D _ (e2 D _ hD)
      have offD : Hc D = none := by
        cases hc : Hc D with
        | none => rfl
        | some u =>
          have hbD : Hb D = none := by
            cases hb' : Hb D with
            | none => rfl
            | some u' => have := okb.ex D u' hb'; rw [nD] at this; cases this
          have := c3 D u hc hbD
          rw [hD] at this; cases this
      have offO : ∀ a u, H a = some u → (∀ xs, ¬ Rd H a (.tup xs)) → H0 a = none → Hc a = none := fun a u h1 h2 h3 => by
        cases hc : Hc a with
        | none => rfl
        | some u' =>
          have := c3 a u' hc (b6 a u h1 h2 h3)
          rw [e' a u (e1 a u h1)] at this; cases this
      cases hp : p x with
      | true =>
        refine iteT ⟨⟨x, B, js, hB⟩, hp, Hc, okB.mono e3, fun y4 H4 Hd e4 d1 d6 okd ry => ⟨us, e4 D _ hD3, ?_, hlt, ?_, us ++ [y4], upd_same, ?_⟩⟩
        · rw [rD.length, List.length_map]
          refine Nat.lt_of_le_of_lt (Nat.le_trans (List.length_filter_le _ _) (by rw [List.length_take]; exact Nat.min_le_right _ _)) (Nat.lt_of_le_of_lt hz (by decide))
        · intro b z hbz
          rw [upd_ne (ne_of_none hbz nD)]
          exact e4 b z (e3 b z (e2 b z (e' b z hbz)))
        · have dD : Hd D = none := d6 D _ hD3 (lstNoTup hD3) offD
          have dO : ∀ a, ((∃ u, H a = some u ∧ ∀ xs, ¬ Rd H a (.tup xs)) ∧ H0 a = none) → Hd a = none := fun a ⟨⟨u, h1, h2⟩, h3⟩ => by
            have h4 : H3 a = some u := e3 a u (e2 a u (e' a u (e1 a u h1)))
            cases hh : Hd a with
            | none => rfl
            | some u' =>
              have hcn := offO a u h1 h2 h3
              rcases Classical.em (∃ xs, Rd H3 a (.tup xs)) with ⟨xs', hr⟩ | hr
              · exfalso
                refine h2 xs' ?_
                rcases hr with hr | ⟨o, hr⟩
                · rw [h4] at hr
                  exact .inl (by rw [h1]; exact hr)
                · rw [h4] at hr
                  exact .inr ⟨o, by rw [h1]; exact hr⟩
              · have := d6 a u h4 (fun xs q => hr ⟨xs, q⟩) hcn
                rw [this] at hh; cases hh
          have one : DpOff X.K (fun a => a = D ∨ ((∃ u, H a = some u ∧ ∀ xs, ¬ Rd H a (.tup xs)) ∧ H0 a = none)) (upd H4 D (.lst (us ++ [y4]))) y4 (f x) := by
            refine ⟨Hd, fun a u h1 => ?_, fun a ha => ?_, ry⟩
            · rw [upd_ne (ne_of_none h1 dD)]
              exact okd.ex a u h1
            · rcases ha with rfl | ha
              · exact dD
              · exact dO a ha
          rw [take_succ_of hx, List.filter_append, List.map_append, List.filter_cons, if_pos hp]
          refine DpsOff.snoc (rD.ex fun a u na h1 => ?_) one
          rw [upd_ne (fun z => na (.inl z))]
          exact e4 a u (e3 a u (e2 a u h1))
      | false =>
        refine iteF ⟨hlt, (e'.trans e2).trans e3, us, hD3, ?_⟩
        rw [take_succ_of hx, List.filter_append, List.filter_cons, if_neg (by rw [hp]; exact Bool.false_ne_true)]
        show DpsOff _ _ H3 us (((xs.take i).filter p ++ []).map f)
        rw [List.append_nil]
        exact rD.ex fun a u _ h1 => e3 a u (e2 a u h1)
  · have hin : i = xs.length := by omega
    subst hin
    refine .inl ⟨(wk _ H' eb).2 (by rw [List.length_map]), ?_⟩
    rw [List.take_length] at rD
    obtain ⟨Hf, f1, f2, f3, f4⟩ := ok.grow2 (e1.trans e')
    have nDH : H D = none := e1.free nD
    refine q _ H' Hf (e1.trans e') f1 f4 f2 (.lst (.of (f3 D _ hD ?_)) (DpsOff.all (fun a u na h1 => f3 a u h1 fun z => na (.inr z)) rD))
    rintro ⟨⟨u, h1, _⟩, _⟩
    rw [nDH] at h1; cases h1
theorem db_lc (own : List (Str × Nat)) (hi : DI X Γ tg iter (xs.map enc)) (hb : ∀ x ∈ xs, ∃ B js, BlkB X scope Γ tg elt ifs (own.map (·.2)) enc p f x B js) (hz : xs.length ≤ 100000) (hk : blkC X.N X.env.scope scope own = true := by kernel_rfl)
    (hN : X.N.Nodup := by assumption) (hc : X.calm = true := by rfl) (hs : ∀ x, foldedSetIterable iter X.env x = pure x := by intro _; rfl) : DB X Γ (.ListComp elt [⟨tg, iter, ifs, 0⟩] scope pos) (.list ((xs.filter p).map f)) := by
  obtain ⟨h1, h2, h3⟩ := lb_parts (X := X) (Γ := Γ) (tg := tg) (elt := elt) (ifs := ifs) (scope := scope) (own := own) (enc := enc) (p := p) (f := f)
  exact PE.wk (pe_lc hc hN hi (blkOk_by hk) h1 h2 h3 hs) fun σ H Q h => lb_read hz hb σ H Q h
end
end K54
set_option Elab.async false
set_option linter.all false
set_option autoImplicit false
set_option maxRecDepth 100000
set_option maxHeartbeats 2000000
/-! K54: defs of the law, 6: is_row, are_looks, lists, tells -/
namespace K54
open PySem PySem.Spec PyProof.Rows L2
mutual
/-- every sequence is shorter than 64, there is no dict -/
def tiny : PyData → Bool
  | .list ds => decide (ds.length < 64) && tinys ds
  | .tuple ds => decide (ds.length < 64) && tinys ds
  | .none => true
  | .bool _ => true
  | .int _ => true
  | .str x => PyData.strOk x
  | .dict _ => false
def tinys : List PyData → Bool
  | [] => true
  | d :: ds => tiny d && tinys ds
end
theorem tinys_mem : ∀ {ds : List PyData}, tinys ds = true → ∀ d ∈ ds, tiny d = true
  | [], _, _, h => by cases h
  | x :: ds, hs, d, h => by
    simp only [tinys, Bool.and_eq_true] at hs
    rcases List.mem_cons.mp h with e | h
    · rw [e]; exact hs.1
    · exact tinys_mem hs.2 d h
mutual
theorem tiny_slim : ∀ d : PyData, tiny d = true → slim d = true
  | .list ds, h => by
    simp only [tiny, Bool.and_eq_true, decide_eq_true_eq] at h
    rw [slim, tinys_slims ds h.2, decide_eq_true (by omega)]; rfl
  | .tuple ds, h => by
    simp only [tiny, Bool.and_eq_true, decide_eq_true_eq] at h
    rw [slim, tinys_slims ds h.2, decide_eq_true (by omega)]; rfl
  | .none, _ => rfl
  | .bool _, _ => rfl
  | .int _, _ => rfl
  | .str _, _ => rfl
  | .dict _, h => by simp [tiny] at h
theorem tinys_slims : ∀ ds : List PyData, tinys ds = true → slims ds = true
  | [], _ => rfl
  | d :: ds, h => by
    simp only [tinys, Bool.and_eq_true] at h
    rw [slims, tiny_slim d h.1, tinys_slims ds h.2]; rfl
end
mutual
theorem tiny_can : ∀ d : PyData, tiny d = true → d.canLay0 = true
  | .list ds, h => by
    simp only [tiny, Bool.and_eq_true, decide_eq_true_eq] at h
    rw [PyData.canLay0]; exact tinys_can ds h.2
  | .tuple ds, h => by
    simp only [tiny, Bool.and_eq_true, decide_eq_true_eq] at h
    rw [PyData.canLay0]; exact tinys_can ds h.2
  | .none, _ => by simp only [PyData.canLay0]
  | .bool _, _ => by simp only [PyData.canLay0]
  | .int _, _ => by simp only [PyData.canLay0]
  | .str _, h => by simpa [PyData.canLay0, tiny] using h
  | .dict _, h => by simp [tiny] at h
theorem tinys_can : ∀ ds : List PyData, tinys ds = true → PyData.canLayAll0 ds = true
  | [], _ => by simp only [PyData.canLayAll0]
  | d :: ds, h => by
    simp only [tinys, Bool.and_eq_true] at h
    rw [PyData.canLayAll0, tiny_can d h.1, tinys_can ds h.2]; rfl
end
theorem tinys_filter (p : PyData → Bool) : ∀ ds : List PyData, tinys ds = true → tinys (ds.filter p) = true
  | [], _ => rfl
  | d :: ds, h => by
    simp only [tinys, Bool.and_eq_true] at h
    have ih := tinys_filter p ds h.2
    rw [List.filter_cons]
    split
    · rw [tinys, h.1, ih]; rfl
    · exact ih
theorem depth_filter (p : PyData → Bool) : ∀ ds : List PyData, PyData.depthAll (ds.filter p) ≤ PyData.depthAll ds
  | [] => Nat.le_refl _
  | d :: ds => by
    have ih := depth_filter p ds
    rw [List.filter_cons]
    split
    · simp only [PyData.depthAll]; omega
    · simp only [PyData.depthAll]; omega
def isRowM (x : PyData) : Bool := match x with
  | .tuple ds => ds.all isNum
  | _ => false
theorem eqv_gnil (ds : List PyData) : PyData.eqv (.list ds) (.list []) = ds.isEmpty := by cases ds <;> simp [PyData.eqv, PyData.eqvAll]
theorem tiny_shaped {ds : List PyData} (h : tinys ds = true) (hd : PyData.depthAll ds ≤ 63) : SeqAt.shaped (.list ds) = true := by
  unfold SeqAt.shaped
  rw [PyData.canLay0, tinys_can ds h, PyData.depth, decide_eq_true (by omega)]; rfl
theorem rowInts {x : PyData} (h : isRowM x = true) : ∃ is : List Int, x = .tuple (is.map .int) := by
  cases x with
  | tuple ds =>
    have h' : ds.all isNum = true := h
    have key : ∀ ds : List PyData, ds.all isNum = true → ∃ is : List Int, ds = is.map .int := by
      intro ds
      induction ds with
      | nil => exact fun _ => ⟨[], rfl⟩
      | cons d ds ih =>
        intro h
        rw [List.all_cons, Bool.and_eq_true] at h
        obtain ⟨i, rfl⟩ := numInt h.1
        obtain ⟨is, rfl⟩ := ih h.2
        exact ⟨i :: is, rfl⟩
    obtain ⟨is, rfl⟩ := key ds h'
    exact ⟨is, rfl⟩
  | _ => cases h
/-- what the law asks of a lot, against what the program asks -/
def badI (is : List Int) (n : Nat) : Bool := decide (is = []) || (decide (is ≠ canon ltI is) || (decide (is.getD 0 0 < 0) || decide ((n : Int) ≤ is.getD (is.length - 1) 0)))
theorem ltI_iff {a b : Int} : ltI a b = true ↔ a < b := by simp [ltI]
theorem ascI : ∀ is : List Int, (is.Pairwise fun a b => ltI a b = true) ↔ ∀ k, k < is.length - 1 → is.getD k 0 < is.getD (k + 1) 0
  | [] => by simp
  | [x] => by simp
  | x :: y :: is => by
    have ih := ascI (y :: is)
    constructor
    · intro h k hk
      obtain ⟨h1, h2⟩ := List.pairwise_cons.mp h
      cases k with
      | zero => simpa using ltI_iff.mp (h1 y List.mem_cons_self)
      | succ k =>
        have := ih.mp h2 k (by simp only [List.length_cons] at hk ⊢; omega)
        simpa using this
    · intro h
      have h2 := ih.mpr fun k hk => by
        have z := h (k + 1) (by simp only [List.length_cons] at hk ⊢; omega)
        simpa using z
      have h0 : x < y := by simpa using h 0 (by simp)
      refine List.pairwise_cons.mpr ⟨fun z hz => ltI_iff.mpr ?_, h2⟩
      rcases List.mem_cons.mp hz with e | e
      · rw [e]; exact h0
      · have := ltI_iff.mp ((List.pairwise_cons.mp h2).1 z e); omega
theorem asc_canon {is : List Int} : is = canon ltI is ↔ is.Pairwise fun a b => ltI a b = true :=
  ⟨fun h => by rw [h]; exact canon_sorted lin_I is, fun h => canon_is lin_I h fun _ => Iff.rfl⟩
theorem asc_bounds {is : List Int} (h : is.Pairwise fun a b => ltI a b = true) {x : Int} (hx : x ∈ is) : is.getD 0 0 ≤ x ∧ x ≤ is.getD (is.length - 1) 0 := by
  obtain ⟨i, hi, rfl⟩ := List.getElem_of_mem hx
  have pw := List.pairwise_iff_getElem.mp h
  rw [List.getD_eq_getElem?_getD, List.getD_eq_getElem?_getD, List.getElem?_eq_getElem (by omega), List.getElem?_eq_getElem (by omega)]
  simp only [Option.getD_some]
  constructor
  · by_cases e : i = 0
    · subst e; exact Int.le_refl _
    · have := ltI_iff.mp (pw 0 i (by omega) hi (by omega)); omega
  · by_cases e : i = is.length - 1
    · subst e; exact Int.le_refl _
    · have := ltI_iff.mp (pw i (is.length - 1) hi (by omega) (by omega)); omega
theorem badI_eq (is : List Int) (n : Nat) : badI is n = !isLotM (.tuple (is.map .int)) n := by
  have e2 : isLotM (.tuple (is.map .int)) n = (decide (is.map PyData.int ≠ []) && ((is.map PyData.int).all (fun y => isNum y && inR y n) && (List.range ((is.map PyData.int).length - 1)).all fun k => ltD ((is.map PyData.int).getD k .none) ((is.map PyData.int).getD (k + 1) .none))) := rfl
  have e3 : (List.range ((is.map PyData.int).length - 1)).all (fun k => ltD ((is.map PyData.int).getD k .none) ((is.map PyData.int).getD (k + 1) .none)) = decide (is.Pairwise fun a b => ltI a b = true) := by
    rw [Bool.eq_iff_iff, decide_eq_true_iff, List.all_eq_true, ascI, List.length_map]
    have key : ∀ k, k < is.length - 1 → (ltD ((is.map PyData.int).getD k .none) ((is.map PyData.int).getD (k + 1) .none) = true ↔ is.getD k 0 < is.getD (k + 1) 0) := fun k hk => by
      have a1 : k < is.length := by omega
      have a2 : k + 1 < is.length := by omega
      rw [List.getD_eq_getElem?_getD, List.getD_eq_getElem?_getD, List.getD_eq_getElem?_getD, List.getD_eq_getElem?_getD, List.getElem?_map, List.getElem?_map, List.getElem?_eq_getElem a1, List.getElem?_eq_getElem a2]
      show decide (is[k] < is[k + 1]) = true ↔ is[k] < is[k + 1]
      exact decide_eq_true_iff
    exact ⟨fun h k hk => (key k hk).mp (h k (List.mem_range.mpr hk)), fun h k hk => (key k (List.mem_range.mp hk)).mpr (h k (List.mem_range.mp hk))⟩
  have e4 : (is.map PyData.int).all (fun y => isNum y && inR y n) = is.all fun i => decide (0 ≤ i) && decide (i < n) := by
    rw [List.all_map]; rfl
  have e6 : decide (is.map PyData.int ≠ []) = !decide (is = []) := by
    cases is <;> simp
  have e7 : decide (is ≠ canon ltI is) = !decide (is.Pairwise fun a b => ltI a b = true) := by
    rw [Bool.eq_iff_iff, decide_eq_true_iff, Bool.not_eq_true', decide_eq_false_iff_not, ne_eq, asc_canon]
  rw [e2, e3, e4, e6]
  unfold badI
  rw [e7]
  by_cases h1 : is = []
  · rw [decide_eq_true h1]; rfl
  · rw [decide_eq_false h1]
    by_cases h2 : is.Pairwise fun a b => ltI a b = true
    · have ne : 0 < is.length := List.length_pos_iff.mpr h1
      have m0 : is.getD 0 0 ∈ is := by
        rw [List.getD_eq_getElem?_getD, List.getElem?_eq_getElem ne]; exact List.getElem_mem _
      have m1 : is.getD (is.length - 1) 0 ∈ is := by
        rw [List.getD_eq_getElem?_getD, List.getElem?_eq_getElem (by omega)]; exact List.getElem_mem _
      have e5 : (is.all fun i => decide (0 ≤ i) && decide (i < n)) = !(decide (is.getD 0 0 < 0) || decide ((n : Int) ≤ is.getD (is.length - 1) 0)) := by
        rw [Bool.eq_iff_iff, List.all_eq_true, Bool.not_eq_true', Bool.or_eq_false_iff, decide_eq_false_iff_not, decide_eq_false_iff_not]
        constructor
        · intro h
          have z0 := h _ m0
          have z1 := h _ m1
          simp only [Bool.and_eq_true, decide_eq_true_eq] at z0 z1
          omega
        · intro h x hx
          have := asc_bounds h2 hx
          simp only [Bool.and_eq_true, decide_eq_true_eq]
          omega
      rw [e5, decide_eq_true h2]
      cases decide (is.getD 0 0 < 0) <;> cases decide ((n : Int) ≤ is.getD (is.length - 1) 0) <;> rfl
    · rw [decide_eq_false h2, Bool.and_false]; rfl
theorem DB.is {X : Cx} {Γ : List Cell} {e : Expr} {d d' : PyData} (h : DB X Γ e d) (q : d = d') : DB X Γ e d' := q ▸ h
section
variable {P : Program} {w : World} {K : PySem.W.Frag} {mg : Str → Option Value} {base : Heap} {k : Nat}
theorem scS47 : FnScope ["_law_thing", "_law_own"] ["_law_thing"] (defScope (top 47)) := ⟨rfl, rfl, rfl, by decide +kernel, rfl, by decide +kernel, by decide +kernel⟩
def rIsRow (as : List Arg) (d : PyData) : Prop := ∃ x, tiny x = true ∧ x.depth ≤ 60 ∧ as = [.g x] ∧ d = .bool (isRowM x)
theorem ok_lisRow (B : Blt mg) (D : DefAt K mg "_law_is_row" 47 ["_law_thing"]) (O : Ok P w K mg base "_law_is_whole" k ["_law_thing"] (spE K rNum)) : Ok P w K mg base "_law_is_row" (k + 1) ["_law_thing"] (spE K rIsRow) := by
  refine okE' D scS47 (fun as d h => by obtain ⟨x, _, _, rfl, _⟩ := h; rfl) fun nd f cdv A outer s H E hr as d h => ?_
  obtain ⟨x, h1, h2, rfl, rfl⟩ := h
  cases hx : isTp x with
  | false =>
    have e : isRowM x = false := by cases x <;> first | rfl | cases hx
    rw [e]
    exact dss_one (ds_ret (DE.is (de_and (k := false) (l := false) (DE.is (de_isi "tuple" (dg_var 0) (kitTup x) B.isinstance B.tuple) (by rw [hx])) fun z => nomatch z) rfl))
  | true =>
    obtain ⟨ds, rfl⟩ : ∃ ds, x = .tuple ds := by cases x <;> first | exact ⟨_, rfl⟩ | cases hx
    simp only [tiny, Bool.and_eq_true, decide_eq_true_eq] at h1
    simp only [PyData.depth] at h2
    refine DSs.is (dss_one (ds_ret (de_and (k := true) (l := isRowM (.tuple ds)) (DE.is (de_isi "tuple" (dg_var 0) (kitTup _) B.isinstance B.tuple) rfl) fun _ => de_one (DE.is (dg_cmp (op_eqD hr.units) (opEqD (tiny_shaped (tinys_filter (fun y => !isNum y) ds h1.2) ?_) rfl) (DB.g (DB.is (db_lc [("_law_own", 1)] (xs := ds) (enc := .g) (p := fun y => !isNum y) (f := id) (di_gen (db_var 0) (.tup ds)) (fun y hy => ⟨_, _, by decide, fun s H C cl fp => ⟨dg_name 1, dts_one (dt_not (dt_val (de_fn O hr (dr_g (dg_var 1) dr_nil) ⟨y, rfl, rfl⟩))), fun _ => db_var 1⟩⟩) (by omega)) (by rw [List.map_id]))) (DN.g (dn_lst du_nil))) ?_)))) ?_
    · have := depth_filter (fun y => !isNum y) ds; omega
    · rw [eqv_gnil]
      congr 1
      show _ = ds.all isNum
      rw [Bool.eq_iff_iff, List.isEmpty_iff, List.filter_eq_nil_iff, List.all_eq_true]
      simp
    · rfl
end
end K54
set_option Elab.async false
set_option linter.all false
set_option autoImplicit false
set_option maxRecDepth 100000
set_option maxHeartbeats 2000000
/-! K54: defs of the law, 7: are_looks, tells -/
namespace K54
open PySem PySem.Spec PyProof.Rows L2
def condL : Expr := match (defBody (top 62)).getD 1 (.Pass ⟨0, 0, 0, 0⟩) with
  | .For _ _ (.If c _ _ _ :: _) _ _ => c
  | _ => .Name "x" ⟨0, 0, 0, 0⟩
section
variable {P : Program} {w : World} {K : PySem.W.Frag} {mg : Str → Option Value} {base : Heap} {k : Nat}
theorem eqv_Ints (is js : List Int) : PyData.eqv (.list (is.map .int)) (.list (js.map .int)) = decide (is = js) := by
  have h : EqvIs PyData.int := fun x y => by
    rw [Bool.eq_iff_iff]
    simp [PyData.eqv]
  exact eqv_lmap h is js
theorem eqv_tnil (is : List Int) : PyData.eqv (.tuple (is.map .int)) (.tuple []) = decide (is = []) := by cases is <;> simp [PyData.eqv, PyData.eqvAll]
theorem nice_Ints (is : List Int) : SeqAt.shaped (.list (is.map .int)) = true := (nice_lmap nice_int).shaped (k := 1) (by decide)
theorem nice_IntsT (is : List Int) : SeqAt.shaped (.tuple (is.map .int)) = true := (nice_tmap nice_int).shaped (k := 1) (by decide)
theorem tonly_Ints (is : List Int) : tonly (.tuple (is.map .int)) = true := by rw [tonly, tonlys_map fun x _ => rfl]
theorem depth_tup {ds : List PyData} {y : PyData} {m : Nat} (h : (PyData.tuple ds).depth ≤ m + 1) (hy : y ∈ ds) : y.depth ≤ m := by
  simp only [PyData.depth] at h
  exact depth_mem (by omega) y hy
theorem scS62 : FnScope ["_law_thing", "_law_n", "_law_own"] ["_law_thing", "_law_n"] (defScope (top 62)) := ⟨rfl, rfl, rfl, by decide +kernel, rfl, by decide +kernel, by decide +kernel⟩
def rAreL (as : List Arg) (d : PyData) : Prop := ∃ x n, tiny x = true ∧ x.depth ≤ 50 ∧ as = [.g x, .t (eN n)] ∧ d = .bool (isLooksM x n)
theorem cond_ok (B : Blt mg) (O : Ok P w K mg base "_law_is_row" k ["_law_thing"] (spE K rIsRow)) {f : Addr} {cdv : Value} {A : Around} {outer : List Env} {s : Shared} {H : Hp} {E : XK}
    (hr : Room k (BX P w K mg base ["_law_thing", "_law_n", "_law_own"] "_law_are_looks" (top 62) f cdv A outer s H E).A) {x y : PyData} {n : Nat} (hy : tiny y = true) (hd : y.depth ≤ 60) :
    DT (BX P w K mg base ["_law_thing", "_law_n", "_law_own"] "_law_are_looks" (top 62) f cdv A outer s H E) [.gd x, .dat (eN n), .gd y] condL (!isLotM y n) := by
  cases hq : isRowM y with
  | false =>
    have e : isLotM y n = false := by
      cases he : isLotM y n with
      | false => rfl
      | true =>
        obtain ⟨l, rfl, _⟩ := isLot_v he
        have : isRowM (eLot l) = true := by
          show (l.map eN).all isNum = true
          rw [List.all_map, List.all_eq_true]
          exact fun _ _ => rfl
        rw [this] at hq; cases hq
    rw [e]
    exact PW.pt (dw_or (k := true) (l := true) (DT.is (dt_not (dt_val (de_fn O hr (dr_g (dg_var 2) dr_nil) ⟨y, hy, hd, rfl, rfl⟩))) (by rw [hq]; rfl)) fun z => nomatch z)
  | true =>
    obtain ⟨is, rfl⟩ := rowInts hq
    have len : is.length < 64 := by
      simp only [tiny, Bool.and_eq_true, decide_eq_true_eq, List.length_map] at hy
      exact hy.1
    have own : DE (BX P w K mg base ["_law_thing", "_law_n", "_law_own"] "_law_are_looks" (top 62) f cdv A outer s H E) [.gd x, .dat (eN n), .gd (.tuple (is.map .int))] (.Name "_law_own" ⟨0, 0, 0, 0⟩) (.tuple (is.map .int)) := DG.t (dg_var 2) (tonly_Ints is)
    rw [← badI_eq]
    by_cases h0 : is = []
    · have e : badI is n = (false || (true || true)) := by
        unfold badI
        rw [decide_eq_true h0]; rfl
      rw [e]
      exact PW.pt (dw_or (k := false) (DT.is (dt_not (dt_val (de_fn O hr (dr_g (dg_var 2) dr_nil) ⟨_, hy, hd, rfl, rfl⟩))) (by rw [hq]; rfl)) fun _ => dw_or (k := true) (l := true) (DT.is (dtg_cmp (k := PyData.eqv (.tuple (is.map .int)) (.tuple [])) (op_eqD hr.units) (opEqD (nice_IntsT is) rfl) (dg_var 2) (DE.g (de_tup du_nil))) (by rw [eqv_tnil, decide_eq_true h0])) fun z => nomatch z)
    · have ne : 0 < is.length := List.length_pos_iff.mpr h0
      have g0 : (is.map PyData.int)[0]? = some (.int (is.getD 0 0)) := by
        rw [List.getElem?_map, List.getD_eq_getElem?_getD, List.getElem?_eq_getElem ne]; rfl
      have g1 : (is.map PyData.int)[(is.map PyData.int).length - 1]? = some (.int (is.getD (is.length - 1) 0)) := by
        rw [List.length_map, List.getElem?_map, List.getD_eq_getElem?_getD, List.getElem?_eq_getElem (by omega)]; rfl
      have ne2 : is.map PyData.int ≠ [] := fun z => h0 (List.map_eq_nil_iff.mp z)
      have e : badI is n = (false || (decide (is = []) || (decide (is ≠ canon ltI is) || (decide (is.getD 0 0 < 0) || decide ((n : Int) ≤ is.getD (is.length - 1) 0))))) := rfl
      rw [e]
      exact PW.pt (dw_or (k := false) (DT.is (dt_not (dt_val (de_fn O hr (dr_g (dg_var 2) dr_nil) ⟨_, hy, hd, rfl, rfl⟩))) (by rw [hq]; rfl)) fun _ => dw_or (DT.is (dtg_cmp (k := PyData.eqv (.tuple (is.map .int)) (.tuple [])) (op_eqD hr.units) (opEqD (nice_IntsT is) rfl) (dg_var 2) (DE.g (de_tup du_nil))) (eqv_tnil is)) fun _ => dw_or (DT.is (dtg_cmp (k := !PyData.eqv (.list (is.map .int)) (.list ((canon ltI is).map .int))) (op_neD hr.units) (opNeD (nice_Ints is) (nice_Ints _)) (DN.g (dn_lstT (ds := is.map .int) (DG.t (dg_var 2) (tonly_Ints is)) B.list)) (DN.g (dn_sortInts (ns := is) (DE.q (DG.t (dg_var 2) (tonly_Ints is))) len B.sorted B.set))) (by rw [eqv_Ints]; simp)) fun _ => dw_or (dt_cmp op_lt opB0 (de_ixT (ds := is.map .int) (DG.t (dg_var 2) (tonly_Ints is)) de_int (atI_nat (i := 0) g0)) de_int) fun _ => dw_or1 (dt_cmp op_ge opB0 (de_ixT (ds := is.map .int) (DG.t (dg_var 2) (tonly_Ints is)) de_m1 (atI_last g1 ne2)) (de_var 1)))
theorem ok_lareL (B : Blt mg) (D : DefAt K mg "_law_are_looks" 62 ["_law_thing", "_law_n"]) (O : Ok P w K mg base "_law_is_row" k ["_law_thing"] (spE K rIsRow)) : Ok P w K mg base "_law_are_looks" (k + 1) ["_law_thing", "_law_n"] (spE K rAreL) := by
  refine okE' D scS62 (fun as d h => by obtain ⟨_, _, _, _, rfl, _⟩ := h; rfl) fun nd f cdv A outer s H E hr as d h => ?_
  obtain ⟨x, n, h1, h2, rfl, rfl⟩ := h
  cases hx : isTp x with
  | false =>
    have e : isLooksM x n = false := by cases x <;> first | rfl | cases hx
    rw [e]
    exact dss_if (b := true) (PW.pt (dw_or (k := true) (l := true) (DT.is (dt_not (dt_val (de_isi "tuple" (dg_var 0) (kitTup x) B.isinstance B.tuple))) (by rw [hx]; rfl)) fun z => nomatch z)) (fun _ => dss_one (ds_ret de_bl)) fun z => nomatch z
  | true =>
    obtain ⟨ds, rfl⟩ : ∃ ds, x = .tuple ds := by cases x <;> first | exact ⟨_, rfl⟩ | cases hx
    have t1 := h1
    simp only [tiny, Bool.and_eq_true, decide_eq_true_eq] at t1
    have e : isLooksM (.tuple ds) n = (decide (ds.length = n) && ds.all fun y => isLotM y n) := rfl
    have len : DT (BX P w K mg base ["_law_thing", "_law_n", "_law_own"] "_law_are_looks" (top 62) f cdv A outer s H E) (cellsOf ["_law_thing", "_law_n", "_law_own"] [.g (.tuple ds), .t (eN n)]) ((match (defBody (top 62)).getD 0 (.Pass ⟨0, 0, 0, 0⟩) with | .If c _ _ _ => c | _ => .Name "x" ⟨0, 0, 0, 0⟩)) (decide (ds.length ≠ n)) :=
      DT.is (PW.pt (dw_or (k := false) (DT.is (dt_not (dt_val (de_isi "tuple" (dg_var 0) (kitTup _) B.isinstance B.tuple))) rfl) fun _ => dw_or1 (dtg_cmp (k := !PyData.eqv (.int ((ds.length : Nat) : Int)) (eN n)) (op_neD hr.units) (opNeD rfl rfl) (de_lenG (dg_var 0) (.tup ds) B.len).g (DE.g (de_var 1))))) (by rw [show PyData.eqv (.int ((ds.length : Nat) : Int)) (eN n) = decide (ds.length = n) from eqInts _ _]; simp)
    by_cases hn : ds.length = n
    · have cond : ∀ y ∈ ds, DT (BX P w K mg base ["_law_thing", "_law_n", "_law_own"] "_law_are_looks" (top 62) f cdv A outer s H E) [.gd (.tuple ds), .dat (eN n), .gd y] condL (!isLotM y n) := fun y hy => cond_ok B O hr (tinys_mem t1.2 y hy) (by have := depth_tup (m := 49) h2 hy; omega)
      refine dss_if (b := false) (DT.is len (by simp [hn])) (fun z => nomatch z) fun _ => ?_
      have G0 : ELe (cellsOf ["_law_thing", "_law_n", "_law_own"] [.g (.tuple ds), .t (eN n)]) [.gd (.tuple ds), .dat (eN n), .un] := .cons (.eq _) (.cons (.eq _) (.cons (.un _) .nil))
      cases ha : ds.all fun y => isLotM y n with
      | true =>
        rw [e, ha, decide_eq_true hn]
        exact dss_cons (ds_for (fun _ => [.gd (.tuple ds), .dat (eN n), .un]) (xs := ds) (enc := .g) (di_gen (db_var 0) (.tup ds)) G0 fun i y hi => ⟨_, _, dg_name 2, DSs.wk2 (dss_one (ds_if (b := false) (DT.is (cond y (List.mem_of_getElem? hi)) (by rw [List.all_eq_true.mp ha y (List.mem_of_getElem? hi)]; rfl)) (fun z => nomatch z) fun _ => dss_nil)) (.cons (.eq _) (.cons (.eq _) (.cons (.un _) .nil)))⟩) (dss_one (ds_ret de_bl))
      | false =>
        rw [e, ha, Bool.and_false]
        obtain ⟨y0, hf⟩ : ∃ y0, ds.find? (fun y => !isLotM y n) = some y0 := by
          cases hf : ds.find? (fun y => !isLotM y n) with
          | some y0 => exact ⟨y0, rfl⟩
          | none =>
            have := List.find?_eq_none.mp hf
            have z : (ds.all fun y => isLotM y n) = true := List.all_eq_true.mpr fun y hy => by simpa using this y hy
            rw [z] at ha; cases ha
        obtain ⟨j0, g0, b0, bb⟩ := find_ix hf
        exact dss_ret (ds_forR (o := .rt (.bool false)) (fun _ => [.gd (.tuple ds), .dat (eN n), .un]) j0 (List.getElem?_eq_some_iff.mp g0).1 (fun _ z => nomatch z) (xs := ds) (enc := .g) (di_gen (db_var 0) (.tup ds)) G0
          (fun i y hi hy => ⟨_, _, dg_name 2, DSs.wk2 (dss_one (ds_if (b := false) (DT.is (cond y (List.mem_of_getElem? hy)) (bb i y hi hy)) (fun z => nomatch z) fun _ => dss_nil)) (.cons (.eq _) (.cons (.eq _) (.cons (.un _) .nil)))⟩)
          fun y hy => ⟨_, _, dg_name 2, dss_one (ds_if (b := true) (DT.is (cond y (List.mem_of_getElem? hy)) (by rw [Option.some.inj (hy.symm.trans g0)]; exact b0)) (fun _ => dss_one (ds_ret de_bl)) fun z => nomatch z)⟩)
    · rw [e, decide_eq_false hn]
      exact dss_if (b := true) (DT.is len (by simp [hn])) (fun _ => dss_one (ds_ret de_bl)) fun z => nomatch z
end
end K54
set_option Elab.async false
set_option linter.all false
set_option autoImplicit false
set_option maxRecDepth 100000
set_option maxHeartbeats 2000000
/-! K54: defs of the law, 8: tells, few -/
namespace K54
open PySem PySem.Spec PyProof.Rows L2
def lawSur (Ls Ms : List Looks) (n : Nat) (M : Looks) : Bool := lawKeeps (Ls.map fun L => behindM L M) n != lawKeeps (Ms.map fun L => behindM L M) n
def fewM (p : Piece) (n m : Nat) : Piece := if (rowsM p n).length ≤ m then p else ⟨(rowsM p n).take m, [(List.range m).map fun k => (k, 1)]⟩
section
variable {P : Program} {w : World} {K : PySem.W.Frag} {mg : Str → Option Value} {base : Heap} {k : Nat}
theorem scS63 : FnScope ["_law_rows", "_law_more", "_law_thing", "_law_n"] ["_law_rows", "_law_more", "_law_thing", "_law_n"] (defScope (top 63)) := ⟨rfl, rfl, rfl, by decide +kernel, rfl, by decide +kernel, by decide +kernel⟩
def rTells (as : List Arg) (d : PyData) : Prop := ∃ (Ls Ms : List Looks) (x : PyData) (n : Nat), n ≤ 3 ∧ Ls.length < 64 ∧ (∀ L ∈ Ls, VLooks n L) ∧ Ms.length < 64 ∧ (∀ L ∈ Ms, VLooks n L) ∧ tiny x = true ∧ x.depth ≤ 50 ∧ as = [.l (Ls.map eLooks), .l (Ms.map eLooks), .g x, .t (eN n)] ∧ ((isLooksM x n = false ∧ d = .bool false) ∨ ∃ M, x = eLooks M ∧ VLooks n M ∧ d = .bool (lawSur Ls Ms n M))
theorem ok_ltells (D : DefAt K mg "_law_tells" 63 ["_law_rows", "_law_more", "_law_thing", "_law_n"]) (O1 : Ok P w K mg base "_law_are_looks" k ["_law_thing", "_law_n"] (spE K rAreL)) (O2 : Ok P w K mg base "_law_keeps" k ["_law_some_looks", "_law_then", "_law_n"] (spE K rLKeeps)) : Ok P w K mg base "_law_tells" (k + 1) ["_law_rows", "_law_more", "_law_thing", "_law_n"] (spE K rTells) := by
  refine okE' D scS63 (fun as d h => by obtain ⟨_, _, _, _, _, _, _, _, _, _, _, rfl, _⟩ := h; rfl) fun nd f cdv A outer s H E hr as d h => ?_
  obtain ⟨Ls, Ms, x, n, n3, l1, v1, l2, v2, h1, h2, rfl, h⟩ := h
  rcases h with ⟨hx, rfl⟩ | ⟨M, rfl, vM, rfl⟩
  · exact dss_one (ds_ret (DE.is (de_and (k := false) (l := false) (DE.is (de_fn O1 hr (dr_g (dg_var 2) (dr_t (de_var 3) dr_nil)) ⟨x, n, h1, h2, rfl, rfl⟩) (by rw [hx])) fun z => nomatch z) rfl))
  · refine dss_one (ds_ret (DE.is (de_and (k := true) (l := lawSur Ls Ms n M) (DE.is (de_fn O1 hr (dr_g (dg_var 2) (dr_t (de_var 3) dr_nil)) ⟨_, n, h1, h2, rfl, rfl⟩) (by rw [v_isLooks vM])) fun _ => de_one (DE.is (dg_cmp (op_neD hr.units) (opNeD rfl rfl) (de_fn O2 hr (dr_l (dl_var 0) (dr_t (DG.t (dg_var 2) (tonly_Looks M)) (dr_t (de_var 3) dr_nil))) ⟨Ls, M, n, n3, l1, v1, vM, rfl, rfl⟩).g (de_fn O2 hr (dr_l (dl_var 1) (dr_t (DG.t (dg_var 2) (tonly_Looks M)) (dr_t (de_var 3) dr_nil))) ⟨Ms, M, n, n3, l2, v2, vM, rfl, rfl⟩).g) ?_)) rfl))
    rw [eqv_B]
    unfold lawSur
    cases lawKeeps (Ls.map fun L => behindM L M) n <;> cases lawKeeps (Ms.map fun L => behindM L M) n <;> rfl
theorem scS60 : FnScope ["_law_piece_so", "_law_most_so", "_law_rows_so", "_law_k"] ["_law_piece_so", "_law_most_so"] (defScope (top 60)) := ⟨rfl, rfl, rfl, by decide +kernel, rfl, by decide +kernel, by decide +kernel⟩
def rFew (as : List Arg) (d : PyData) : Prop := ∃ p n m, LP n p ∧ m ≤ 100 ∧ as = [.t (ePiece p), .t (eN m)] ∧ d = ePiece (fewM p n m)
theorem ok_lfew (B : Blt mg) (D : DefAt K mg "_law_few" 60 ["_law_piece_so", "_law_most_so"]) (O1 : Ok P w K mg base "_law_row_looks" k ["_law_piece_so"] (spN K rRow)) (O2 : Ok P w K mg base "_law_free" k ["_law_steps_so"] (spE K rFree)) : Ok P w K mg base "_law_few" (k + 1) ["_law_piece_so", "_law_most_so"] (spE K rFew) := by
  refine okE' D scS60 (fun as d h => by obtain ⟨_, _, _, _, _, rfl, _⟩ := h; rfl) fun nd f cdv A outer s H E hr as d h => ?_
  obtain ⟨p, n, m, V, m1, rfl, rfl⟩ := h
  refine dss_cons (ds_setR 2 (dn_fn O1 hr (dr_t (de_var 0) dr_nil) ⟨p, n, V, rfl, rfl⟩)) (dss_if (b := decide ((rowsM p n).length ≤ m)) (DT.is (dt_cmp (k := decide (((rowsM p n).map eLooks).length ≤ (m : Int))) op_le opB0 (de_lenL (dl_var 2) B.len) (de_var 1)) ?_) (fun z => DSs.is (dss_one (ds_ret (de_var 0))) ?_) fun z => DSs.is (dss_one (ds_ret (d := ePiece ⟨(rowsM p n).take m, [(List.range m).map fun k => (k, 1)]⟩) (de_tup (du_cons (de_fn O2 hr (dr_l (DN.l (DN.is (dn_slTo m (dl_var 2) (de_var 1)) ?_)) dr_nil) ⟨(rowsM p n).take m, ?_, rfl, rfl⟩) (du_cons (de_tup (du_cons (DE.is (de_tupL (DN.l (dn_lcA [("_law_k", 3)] (xs := List.range m) (enc := fun i => .t (.int (i : Nat))) (f := fun i => eArr (i, 1)) (di_range (j := m) (de_var 1) B.range) (fun x hx => ⟨_, _, by decide, fun s H C cl fp => ⟨dg_name 3, de_tup (du_cons (de_var 3) (du_cons de_int du_nil))⟩⟩) ?_)) B.tuple) ?_) du_nil)) du_nil))))) ?_)
  · rw [List.length_map]; simp
  · unfold fewM
    rw [if_pos (of_decide_eq_true z)]
  · rw [List.map_take]
  · rw [List.length_take]; omega
  · rw [List.length_range]; omega
  · show PyData.tuple _ = eWays ((List.range m).map fun k => (k, 1))
    unfold eWays
    rw [List.map_map]; rfl
  · unfold fewM
    rw [if_neg (of_decide_eq_false z)]
end
end K54
set_option Elab.async false
set_option linter.all false
set_option autoImplicit false
set_option maxRecDepth 100000
set_option maxHeartbeats 2000000
/-! K54: defs of the law, 9: lists: any data handed back -/
namespace K54
open PySem PySem.Spec PyProof.Rows L2
/-- one argument, read in a base; what is handed back is read in a base that grew by what is new -/
def spB (K : PySem.W.Frag) (R : PyData → PyData → Prop) : Sp := fun vs H Q _ => ∃ v0 x d Hc, vs = [v0] ∧ R x d ∧ Same Hc H ∧ Dp K Hc v0 x ∧ ∀ v H' Hb, Same H H' → Same Hc Hb → Same Hb H' → (∀ a u, H a = some u → (∀ xs, ¬ Rd H a (.tup xs)) → Hc a = none → Hb a = none) → Dp K Hb v d → Q v H'
theorem env_one {P : Program} {w : World} {K : PySem.W.Frag} {Hc H : Hp} {n : Str} {N : List Str} {v : V} {d : PyData} (e : Same Hc H) (h : Dp K Hc v d) : EnvOk P w K Hc H (L2.start (n :: N) [v]) (cellsOf (n :: N) [.g d]) := by
  refine ⟨e, by simp [L2.start, cellsOf], fun i c x h1 h2 => ?_, fun i j a hi _ => ?_⟩
  · cases i with
    | zero =>
      have e1 : c = .gd d := by simpa [cellsOf, Arg.cell] using h1.symm
      have e2 : x = some v := by simpa [L2.start] using h2.symm
      subst e1 e2
      exact ⟨v, rfl, h⟩
    | succ i =>
      have e1 : c = .un := by
        have z : (List.replicate (N.length) Cell.un)[i]? = some c := by simpa [cellsOf] using h1
        rw [List.getElem?_replicate] at z
        split at z
        · exact (Option.some.inj z).symm
        · cases z
      subst e1
      trivial
  · exfalso
    obtain ⟨_, o, hc⟩ := hi
    cases i with
    | zero => simp [cellsOf, Arg.cell] at hc
    | succ i =>
      have z : (List.replicate (N.length) Cell.un)[i]? = some (.own o) := by simpa [cellsOf] using hc
      rw [List.getElem?_replicate] at z
      split at z <;> cases z
/-- a base that grew once more keeps the owned apart -/
theorem EnvOk.grown {P : Program} {w : World} {K : PySem.W.Frag} {H0 Hb H H' : Hp} {σ : L2.St} {Γ : List Cell} (ok : EnvOk P w K H0 H σ Γ) (e : Same H H') (b1 : Same H0 Hb) (b2 : Same Hb H') (n : ∀ a u, H a = some u → (∀ xs, ¬ Rd H a (.tup xs)) → H0 a = none → Hb a = none) : EnvOk P w K Hb H' σ Γ := by
  have ok' := ok.mono e
  refine ⟨b2, ok.len, fun i c x h1 h2 => ?_, ok.apart⟩
  have r := ok'.at_ i c x h1 h2
  cases c with
  | un => trivial
  | dat d => exact r
  | gd d => obtain ⟨v, e, q⟩ := r; exact ⟨v, e, dpEx b1 q⟩
  | rdl ds => obtain ⟨a, vs, e, q, q2⟩ := r; exact ⟨a, vs, e, b1 _ _ q, q2.ex b1⟩
  | own o =>
    obtain ⟨a, ea, na, q⟩ := r
    obtain ⟨_, o', _, q0⟩ := ok.ownAt (i := i) (a := a) ⟨by rw [h2, ea], o, h1⟩
    obtain ⟨u0, hu0⟩ := q0.some
    exact ⟨a, ea, n a u0 hu0 q0.noTup na, q⟩
section
variable {X : Cx} {Γ : List Cell} {a b c e : Expr} {d x : PyData} {p pos : Pos} {n : Str} {k : Nat} {ps : List Str}
/-- fresh twice -/
theorem freshTwice {H H1 H0 Hb Hd : Hp} (e1 : Same H H1) (n1 : ∀ a u, H a = some u → (∀ xs, ¬ Rd H a (.tup xs)) → H0 a = none → Hb a = none) (n2 : ∀ a u, H1 a = some u → (∀ xs, ¬ Rd H1 a (.tup xs)) → Hb a = none → Hd a = none) : ∀ a u, H a = some u → (∀ xs, ¬ Rd H a (.tup xs)) → H0 a = none → Hd a = none := fun a u h nt n => by
  have h1 := e1 a u h
  refine n2 a u h1 (fun xs q => nt xs ?_) (n1 a u h nt n)
  rcases q with q | ⟨o, q⟩
  · rw [h1] at q; exact .inl (by rw [h]; exact q)
  · rw [h1] at q; exact .inr ⟨o, by rw [h]; exact q⟩
def OkB (P : Program) (w : World) (K : PySem.W.Frag) (mg : Str → Option Value) (base : Heap) (x : Str) (k : Nat) (ps : List Str) (R : PyData → PyData → Prop) : Prop := ∃ f fd, FnOk P w K mg base CX0 k f fd ps (spB K R) ∧ mg x = some (.ref f) ∧ PySem.W.keepIn K (.ref f) = true ∧ Binds K fd ps []
theorem db_fn {R : PyData → PyData → Prop} (O : OkB X.prog X.w X.K X.mg X.base n k ps R) (hr : Room k X.A) (ha : DB X Γ e x) (hR : R x d)
    (hg : Gl X n := by rfl) (hdb : (n == ("__debug__" : Str)) = false := by decide) (he : starEach [e] X.env = (false, eval e X.env) :: starEach [] X.env := by rfl) (hpl : (backTo pos (starEach [] X.env)).any (·.1) = false := by rfl) : DB X Γ (.Call (.Name n p) [e] [] pos) d := by
  obtain ⟨f, fd, F, h1, h2, h3⟩ := O
  refine PE.wk (pe_call F hr hg h1 h2 h3 .nil pass0 (pa_cons ha pa_nil he) hdb he hpl) fun σ H Q ⟨H0, ok, q⟩ => ⟨H0, ok, fun v H1 Hb e1 b1 n1 ok1 r1 => ?_⟩
  refine ⟨v, x, d, Hb, rfl, hR, ok1.ex, r1, fun v2 H2 Hd e2 b2 b3 n2 r2 => ?_⟩
  exact q v2 H2 Hd (e1.trans e2) (b1.trans b2) (freshTwice e1 n1 n2) (ok1.grown e2 b2 b3 n2) r2
theorem db_if {k : Bool} (h : DT X Γ c k) (h1 : k = true → DB X Γ a d) (h2 : k = false → DB X Γ b d) : DB X Γ (.IfExp c a b pos) d :=
  PE.wk (pe_ifExp h (peIf h1) (peIf h2)) fun σ H Q ⟨H0, ok, q⟩ => ⟨H0, ok, fun H1 e1 => by
    have up : ∀ Hb : Hp, (∀ a u, H1 a = some u → (∀ xs, ¬ Rd H1 a (.tup xs)) → H0 a = none → Hb a = none) → ∀ a u, H a = some u → (∀ xs, ¬ Rd H a (.tup xs)) → H0 a = none → Hb a = none := fun Hb n2 => freshTwice e1 (fun a u _ _ n => n) n2
    cases k with
    | true => exact ⟨rfl, H0, ok.mono e1, fun v H2 Hb e2 b1 n2 ok2 r2 => q v H2 Hb (e1.trans e2) b1 (up Hb n2) ok2 r2⟩
    | false => exact ⟨rfl, H0, ok.mono e1, fun v H2 Hb e2 b1 n2 ok2 r2 => q v H2 Hb (e1.trans e2) b1 (up Hb n2) ok2 r2⟩⟩
end
def tRB (X : Cx) (Γ : List Cell) (d : PyData) : TS := fun D σ H => tBs X.prog X.w X.K Γ d σ H D.rt
theorem pb_ret {X : Cx} {Γ : List Cell} {e : Expr} {d : PyData} {pos : Pos} (h : DB X Γ e d) : PSs X [.Return (some e) pos] (tRB X Γ d) := pss_one (PS.wk (ps_ret h) fun D σ H q => q)
theorem PSs.rb {X : Cx} {Γ : List Cell} {sts : List Stmt} {d d' : PyData} (h : PSs X sts (tRB X Γ d)) (e : d = d') : PSs X sts (tRB X Γ d') := e ▸ h
/-! ### lists -/
mutual
def listed : PyData → PyData
  | .list ds => .list (listeds ds)
  | .tuple ds => .list (listeds ds)
  | .none => .none
  | .bool b => .bool b
  | .int i => .int i
  | .str x => .str x
  | .dict kvs => .dict kvs
def listeds : List PyData → List PyData
  | [] => []
  | d :: ds => listed d :: listeds ds
end
theorem listeds_map : ∀ ds : List PyData, listeds ds = ds.map listed
  | [] => rfl
  | d :: ds => by rw [listeds, listeds_map ds]; rfl
section
variable {P : Program} {w : World} {K : PySem.W.Frag} {mg : Str → Option Value} {base : Heap} {k : Nat}
theorem scS40 : FnScope ["_law_matter", "_law_own"] ["_law_matter"] (defScope (top 40)) := ⟨rfl, rfl, rfl, by decide +kernel, rfl, by decide +kernel, by decide +kernel⟩
def rListed (m : Nat) (x d : PyData) : Prop := slim x = true ∧ x.depth ≤ m ∧ d = listed x
theorem okB' {x : Str} {i : Nat} {n : Str} {N : List Str} {R : PyData → PyData → Prop} (D : DefAt K mg x i [n]) (S : FnScope (n :: N) [n] (defScope (top i)))
    (hb : (n :: N).Nodup → ∀ (f : Addr) (cdv : Value) (A : Around) (outer : List Env) (s : Shared) (H : Hp) (E : XK), Room k (BX P w K mg base (n :: N) x (top i) f cdv A outer s H E).A → ∀ a d, R a d → PSs (BX P w K mg base (n :: N) x (top i) f cdv A outer s H E) (defBody (top i)) (tRB (BX P w K mg base (n :: N) x (top i) f cdv A outer s H E) (cellsOf (n :: N) [.g a]) d)) : OkB P w K mg base x (k + 1) [n] R := by
  obtain ⟨f, fd, F, h1, h2⟩ := D
  refine ⟨f, fd, F.ok S (fun vs H Q E h => ?_) (fun cdv A outer s H vs Q E hr h => ?_), h1, F.kp, h2⟩
  · obtain ⟨v0, _, _, _, rfl, _⟩ := h; rfl
  · obtain ⟨v0, a, d, Hc, rfl, hR, e, r, q⟩ := h
    exact ⟨_, hb S.nd f cdv A outer s H E hr a d hR, Hc, env_one e r, fun v H' Hb e1 b1 n1 ok1 r1 => q v H' Hb e1 b1 ok1.ex n1 r1⟩
theorem ok_llists (B : Blt mg) (D : DefAt K mg "_law_lists" 40 ["_law_matter"]) : ∀ m : Nat, OkB P w K mg base "_law_lists" (k + 1 + m) ["_law_matter"] (rListed m)
  | 0 => by
    refine okB' D scS40 fun nd f cdv A outer s H E hr x d h => ?_
    obtain ⟨h1, h2, rfl⟩ := h
    have nl : (isLs x || isTp x) = false := by cases x <;> first | rfl | (simp [PyData.depth] at h2)
    have e : listed x = x := by cases x <;> first | rfl | (simp [PyData.depth] at h2)
    rw [e]
    exact pb_ret (db_if (k := false) (DT.is (dt_val (de_isi2 "list" "tuple" (dg_var 0) (kitLst x) (kitTup x) B.isinstance B.list B.tuple)) nl) (fun z => nomatch z) fun _ => db_var 0)
  | m + 1 => by
    have O := ok_llists B D m
    refine okB' D scS40 fun nd f cdv A outer s H E hr x d h => ?_
    obtain ⟨h1, h2, rfl⟩ := h
    have go : ∀ ds, IsSq x ds → ds.length ≤ 1000 → slims ds = true → PyData.depthAll ds ≤ m → (isLs x || isTp x) = true → PSs (BX P w K mg base ["_law_matter", "_law_own"] "_law_lists" (top 40) f cdv A outer s H E) (defBody (top 40)) (tRB (BX P w K mg base ["_law_matter", "_law_own"] "_law_lists" (top 40) f cdv A outer s H E) (cellsOf ["_law_matter", "_law_own"] [.g x]) (.list (ds.map listed))) := fun ds hq hl hs hd hb =>
      pb_ret (db_if (k := true) (DT.is (dt_val (de_isi2 "list" "tuple" (dg_var 0) (kitLst x) (kitTup x) B.isinstance B.list B.tuple)) hb) (fun _ => DB.is (db_lc [("_law_own", 1)] (xs := ds) (enc := .g) (p := fun _ => true) (f := listed) (di_gen (db_var 0) hq) (fun y hy => ⟨_, _, by decide, fun s H C cl fp => ⟨dg_name 1, dts_nil, fun _ => db_fn O hr (db_var 1) ⟨slims_mem hs y hy, depth_mem hd y hy, rfl⟩⟩⟩) (by omega)) (by rw [fAll])) fun z => nomatch z)
    cases x with
    | list ds =>
      simp only [slim, Bool.and_eq_true, decide_eq_true_eq] at h1
      simp only [PyData.depth] at h2
      exact PSs.rb (go ds (.lst ds) h1.1 h1.2 (by omega) rfl) (by rw [listed, listeds_map])
    | tuple ds =>
      simp only [slim, Bool.and_eq_true, decide_eq_true_eq] at h1
      simp only [PyData.depth] at h2
      exact PSs.rb (go ds (.tup ds) h1.1 h1.2 (by omega) rfl) (by rw [listed, listeds_map])
    | dict kvs => simp [slim] at h1
    | _ => exact PSs.rb (pb_ret (db_if (k := false) (DT.is (dt_val (de_isi2 "list" "tuple" (dg_var 0) (kitLst _) (kitTup _) B.isinstance B.list B.tuple)) rfl) (fun z => nomatch z) fun _ => db_var 0)) (by rw [listed])
end
end K54
set_option Elab.async false
set_option linter.all false
set_option autoImplicit false
set_option maxRecDepth 100000
set_option maxHeartbeats 2000000
/-! K54: defs of the law, 10: told -/
namespace K54
open PySem PySem.Spec PyProof.Rows L2
structure ErrFull (K : PySem.W.Frag) (mg : Str → Option Value) (n : Str) (C : Addr) : Prop extends ErrAt K mg n C where
  exm : PySem.W.exmOne K (.ref C) (.ref C) = some true
  cc : ExcC K C
  ve : PySem.W.kitOne K (.ref C) (.type "ValueError") = some true
  mv : mg "ValueError" = none
section
variable {P : Program} {w : World} {K : PySem.W.Frag} {mg : Str → Option Value} {base : Heap} {k : Nat} {C : Addr}
theorem scS61 : FnScope ["_law_one", "_law_two", "_law_found", "_law_rang", "error"] ["_law_one", "_law_two"] (defScope (top 61)) := ⟨rfl, rfl, rfl, by decide +kernel, rfl, by decide +kernel, by decide +kernel⟩
def tryL : Stmt := (defBody (top 61)).getD 1 (.Pass ⟨0, 0, 0, 0⟩)
/-- an own error in the suite: its class and dict are known -/
def tSuite (K : PySem.W.Frag) (C : Addr) : Addr → Value → Option Addr → TS := fun a cls d => fun D σ H => (cls = .ref C ∧ d = none) ∧ tAsg (tLst (tCons (tC (.str "cannot")) (tCons (tCB (rIsE K C a) (tCons (tVar 4) (tCons (tC (.ty "ValueError")) tNil))) tNil))) (gName 3) D σ H
theorem ps_told (B : Blt mg) (T : ErrFull K mg "CanNot" C) (O : OkS P w K mg base "surrounding" k ["one", "other"] C rSur) {f : Addr} {cdv : Value} {A : Around} {outer : List Env} {s : Shared} {H : Hp} {E : XK} (nd : (["_law_one", "_law_two", "_law_found", "_law_rang", "error"] : List Str).Nodup)
    (hr : Room k (BX P w K mg base ["_law_one", "_law_two", "_law_found", "_law_rang", "error"] "_law_told" (top 61) f cdv A outer s H E).A) (Γ : List Cell) (x y : PyData) (h0 : Γ[0]? = some (.gd x)) (h1 : Γ[1]? = some (.gd y)) :
    PS (BX P w K mg base ["_law_one", "_law_two", "_law_found", "_law_rang", "error"] "_law_told" (top 61) f cdv A outer s H E) tryL (fun D σ H' =>
      tAsg (tCallS (spS K C rSur) (WE (wAs K (.ref C) 4 (tSuite K C) (fun _ _ _ _ => False) D)) (tRs P w K Γ [.g x, .g y])) (gName 2) D σ H') := by
  obtain ⟨fa, fd, F, g1, g2, g3⟩ := O
  exact ps_try_as (i := 4) (tb := fun W => tAsg (tCallS (spS K C rSur) (WE W) (tRs P w K Γ [.g x, .g y])) (gName 2)) (ts := tSuite K C) (Wout := fun _ _ _ _ => False) rfl rfl nd rfl rfl ⟨rfl, by decide, .inl T.g⟩ takes0
    (fun W pn xe tk _ => pss_one (ps_set (i := 2) nd rfl (Or.inl rfl) (by exact (pe_callS F hr rfl g1 g2 g3 (fun σ => passAt tk σ) (by exact (dr_g (dg_var 0 h0) (dr_g (dg_var 1 h1) dr_nil)))))))
    (fun a oe cls d pn hz hf => pssIf fun hcd => pss_one (ps_set (i := 3) nd rfl (Or.inl rfl) (by exact (pe_lst (pa_cons pe_str (pa_cons (pe_callB (call_isE T.cc (by rw [← hcd.1, ← hcd.2]; exact hz) hf) rfl B.isinstance (by decide +kernel) (pa_cons (pe_var (i := 4) rfl (Or.inl rfl)) (pa_cons (pe_ty rfl T.mv (by decide +kernel)) pa_nil))) pa_nil))))))
theorem env_unset {P : Program} {w : World} {K : PySem.W.Frag} {H0 H : Hp} {σ : L2.St} {Γ : List Cell} (ok : EnvOk P w K H0 H σ Γ) (i : Nat) (x : Option V) : EnvOk P w K H0 H (σ.set i x) (Γ.set i .un) := ok.drop i x
theorem ds_toldY (B : Blt mg) (T : ErrFull K mg "CanNot" C) (O : OkS P w K mg base "surrounding" k ["one", "other"] C rSur) {f : Addr} {cdv : Value} {A : Around} {outer : List Env} {s : Shared} {H : Hp} {E : XK} (nd : (["_law_one", "_law_two", "_law_found", "_law_rang", "error"] : List Str).Nodup)
    (hr : Room k (BX P w K mg base ["_law_one", "_law_two", "_law_found", "_law_rang", "error"] "_law_told" (top 61) f cdv A outer s H E).A) {x y d : PyData} (h : rSur [.g x, .g y] (some d)) : DS (BX P w K mg base ["_law_one", "_law_two", "_law_found", "_law_rang", "error"] "_law_told" (top 61) f cdv A outer s H E) [.gd x, .gd y, .dat .none, .dat .none, .un] tryL (.nx [.gd x, .gd y, .dat d, .dat .none, .un]) :=
  PS.wk (ps_told B T O nd hr [.gd x, .gd y, .dat .none, .dat .none, .un] x y rfl rfl) fun D σ H' ⟨H0, ok, q⟩ => ⟨H0, ok, fun vs H1 e1 r1 => ⟨_, some d, r1, h, fun d' hd v H2 e2 rv => by
    cases hd
    exact q H0 _ H2 (Same.refl H0) ((ok.mono (e1.trans e2)).putD (i := 2) rv), fun z => nomatch z⟩⟩
theorem ds_toldN (B : Blt mg) (T : ErrFull K mg "CanNot" C) (O : OkS P w K mg base "surrounding" k ["one", "other"] C rSur) {f : Addr} {cdv : Value} {A : Around} {outer : List Env} {s : Shared} {H : Hp} {E : XK} (nd : (["_law_one", "_law_two", "_law_found", "_law_rang", "error"] : List Str).Nodup)
    (hr : Room k (BX P w K mg base ["_law_one", "_law_two", "_law_found", "_law_rang", "error"] "_law_told" (top 61) f cdv A outer s H E).A) {x y : PyData} (h : rSur [.g x, .g y] none) : DS (BX P w K mg base ["_law_one", "_law_two", "_law_found", "_law_rang", "error"] "_law_told" (top 61) f cdv A outer s H E) [.gd x, .gd y, .dat .none, .dat .none, .un] tryL (.nx [.gd x, .gd y, .dat .none, .own (.lst [.str "cannot", .bool true]), .un]) :=
  PS.wk (ps_told B T O nd hr [.gd x, .gd y, .dat .none, .dat .none, .un] x y rfl rfl) fun D σ H' ⟨H0, ok, q⟩ => ⟨H0, ok, fun vs H1 e1 r1 => ⟨_, none, r1, h, (fun d' hd => (nomatch hd)), fun _ H2 e2 => ⟨true, T.exm, fun _ a na => ⟨⟨rfl, rfl⟩, by
    have ok2 := ok.mono (e1.trans e2)
    have hl : (4 : Nat) < σ.length := by rw [ok.len]; show 4 < 5; decide
    refine ⟨.ref a, List.getElem?_set_self hl, .ty "ValueError", .type "ValueError", true, rfl, fun u h => h, T.ve, (by show 2 ≤ sizeLine; decide), fun p hp => ?_⟩
    have ok3 := ((ok2.drop 4 (some (.ref a))).putO (i := 3) (H' := upd H2 p (.lst [.str "cannot", .bl true])) (o := .lst [.str "cannot", .bool true]) (sameNew hp) hp ⟨_, upd_same, .cons (.str _) (.cons (.bl _) .nil)⟩).drop 4 none
    exact q H0 _ _ (Same.refl H0) ok3⟩, fun z => nomatch z⟩⟩⟩
def rToldY (as : List Arg) (d : PyData) : Prop := ∃ x p n y q m L, GP n p x ∧ GP m q y ∧ answerM p q n m = some L ∧ as = [.g x, .g y] ∧ d = eLooks L
def rToldN (as : List Arg) (ds : List PyData) : Prop := ∃ x p n y q m, GP n p x ∧ GP m q y ∧ answerM p q n m = none ∧ as = [.g x, .g y] ∧ ds = [.str "cannot", .bool true]
/-- return a if rang is None else rang, rang an owned list -/
theorem ds_retIfO {X : Cx} {Γ : List Cell} {c e : Expr} {n : Str} {pn pos posr : Pos} {ds : List PyData} {ta : TE} (i : Nat) (hc : DT X Γ c false) (he : PE X e ta) (ho : Γ[i]? = some (.own (.lst ds)) := by rfl) (hN : X.N[i]? = some n := by rfl) (hv : Vis X.env.scope n := by first | exact Or.inl rfl | exact Or.inr (Or.inl rfl) | exact Or.inr (Or.inr rfl)) (hd : (n == ("__debug__" : Str)) = false := by decide) (hcd : (n == ("__classdict__" : Str)) = false := by decide) : DS X Γ (.Return (some (.IfExp c e (.Name n pn) pos)) posr) (.rl ds) :=
  PS.wk (ps_ret (pe_ifExp hc he (pe_var hN hv hd hcd))) fun D σ H ⟨H0, ok, q⟩ => ⟨H0, ok, fun H1 e1 => by
    have ok1 := ok.mono e1
    obtain ⟨a, e, nn, vs, s, r⟩ := ok1.own ho
    exact ⟨.ref a, e, q a vs H1 nn ok1.ex s r⟩⟩
theorem ok_toldY (B : Blt mg) (D : DefAt K mg "_law_told" 61 ["_law_one", "_law_two"]) (T : ErrFull K mg "CanNot" C) (O : OkS P w K mg base "surrounding" k ["one", "other"] C rSur) : Ok P w K mg base "_law_told" (k + 1) ["_law_one", "_law_two"] (spE K rToldY) := by
  refine okE' D scS61 (fun as d h => by obtain ⟨_, _, _, _, _, _, _, _, _, _, rfl, _⟩ := h; rfl) fun nd f cdv A outer s H E hr as d h => ?_
  obtain ⟨x, p, n, y, q, m, L, G1, G2, ha, rfl, rfl⟩ := h
  exact dss_cons (ds_asg (d := .tuple [.none, .none]) (de_tup (du_cons de_non (du_cons de_non du_nil))) (dg_tup (dgs_cons (dg_name 2) (dgs_cons (dg_name 3) dgs_nil)))) (dss_cons (ds_toldY B T O nd hr ⟨x, p, n, y, q, m, G1, G2, rfl, by rw [ha]; rfl⟩) (dss_one (ds_ret (de_if (k := true) (DT.is (dt_isN (DE.g (de_var 3))) rfl) (fun _ => de_var 2) fun z => nomatch z))))
theorem ok_toldN (B : Blt mg) (D : DefAt K mg "_law_told" 61 ["_law_one", "_law_two"]) (T : ErrFull K mg "CanNot" C) (O : OkS P w K mg base "surrounding" k ["one", "other"] C rSur) : Ok P w K mg base "_law_told" (k + 1) ["_law_one", "_law_two"] (spN K rToldN) := by
  refine okN' D scS61 (fun as d h => by obtain ⟨_, _, _, _, _, _, _, _, _, rfl, _⟩ := h; rfl) fun nd f cdv A outer s H E hr as d h => ?_
  obtain ⟨x, p, n, y, q, m, G1, G2, ha, rfl, rfl⟩ := h
  exact dss_cons (ds_asg (d := .tuple [.none, .none]) (de_tup (du_cons de_non (du_cons de_non du_nil))) (dg_tup (dgs_cons (dg_name 2) (dgs_cons (dg_name 3) dgs_nil)))) (dss_cons (ds_toldN B T O nd hr ⟨x, p, n, y, q, m, G1, G2, rfl, by rw [ha]; rfl⟩) (dss_one (ds_retIfO 3 (DT.is (dt_isN (DL.g (do_var 3))) rfl) (pe_var (i := 2) rfl (Or.inl rfl)))))
end
end K54
set_option Elab.async false
set_option linter.all false
set_option autoImplicit false
set_option maxRecDepth 100000
set_option maxHeartbeats 2000000
/-! K54: defs of the law, 11: same, asked of equal data -/
namespace K54
open PySem PySem.Spec PyProof.Rows L2
theorem walksZpL {K : PySem.W.Frag} {Hb : Hp} {a b : Addr} {vs us : List V} {ds es : List PyData} (s : SqL K Hb a vs) (r : TDs K Hb vs ds) (s2 : SqL K Hb b us) (r2 : TDs K Hb us es) : WalksT K (Itz K a b) (zipD ds es) Hb := by
  have hl : (zipD ds es).length = min ds.length es.length := by simp [zipD]
  refine walksPair rfl (fun i H e hi => ?_) (fun i H e hi => ⟨vs, us, sqLSame e s, sqLSame e s2, ?_⟩) fun i H x H' e hi y => ?_
  · rw [hl, ← r.length, ← r2.length] at hi
    have h1 : i < vs.length := by omega
    have h2 : i < us.length := by omega
    exact ⟨vs, us, vs[i], us[i], sqLSame e s, sqLSame e s2, List.getElem?_eq_getElem h1, List.getElem?_eq_getElem h2⟩
  · rw [hl] at hi
    have := r.length
    have := r2.length
    omega
  · obtain ⟨T, x, z, h1, h2, h3, h4, h5⟩ := y
    refine ⟨T, x, z, h1, h2, h3, fun d hd => ?_⟩
    unfold zipD at hd
    rw [List.getElem?_map] at hd
    obtain ⟨⟨u, v⟩, hq, rfl⟩ := Option.map_eq_some_iff.mp hd
    rw [List.getElem?_zip_eq_some] at hq
    obtain ⟨xv, hx, rx⟩ := (r.ex e).get hq.1
    obtain ⟨zv, hz, rz⟩ := (r2.ex e).get hq.2
    have ex : x = xv := Option.some.inj ((h4 vs (sqLSame e s)).symm.trans hx)
    have ez : z = zv := Option.some.inj ((h5 us (sqLSame e s2)).symm.trans hz)
    exact ⟨u, v, rfl, by rw [ex]; exact rx, by rw [ez]; exact rz⟩
section
variable {X : Cx} {Γ : List Cell} {p p1 p2 pos tpos : Pos} {elts : List Expr} {kk : Nat} {α β : Type} {xs : List α} {ys : List β} {enc : α → PyData} {enc2 : β → PyData}
theorem di_zpV (i j : Nat) {n m : Str} (hm : X.mg "zip" = none) (hc : Γ[i]? = some (.rdl (xs.map enc)) := by rfl) (hc2 : Γ[j]? = some (.rdl (ys.map enc2)) := by rfl) (hN : X.N[i]? = some n := by rfl) (hN2 : X.N[j]? = some m := by rfl) (hv : Vis X.env.scope n := by first | exact Or.inl rfl | exact Or.inr (Or.inl rfl) | exact Or.inr (Or.inr rfl)) (hv2 : Vis X.env.scope m := by first | exact Or.inl rfl | exact Or.inr (Or.inl rfl) | exact Or.inr (Or.inr rfl)) (hd : (n == ("__debug__" : Str)) = false := by decide) (hcd : (n == ("__classdict__" : Str)) = false := by decide) (hd2 : (m == ("__debug__" : Str)) = false := by decide) (hcd2 : (m == ("__classdict__" : Str)) = false := by decide)
    (hg : Gl X "zip" := by rfl) (hs : starEach [.Name n p1, .Name m p2] X.env = (false, eval (.Name n p1) X.env) :: starEach [.Name m p2] X.env := by rfl) (hs2 : starEach [.Name m p2] X.env = (false, eval (.Name m p2) X.env) :: starEach [] X.env := by rfl) (hpl : (backTo pos (starEach [.Name m p2] X.env)).any (·.1) = false := by rfl) :
    DI X Γ (.Tuple elts kk tpos) (.Call (.Name "zip" p) [.Name n p1, .Name m p2] [] pos) ((xs.zip ys).map fun p => .t (.tuple [enc p.1, enc2 p.2])) :=
  PI.wk (RZ.pi_zipA hg hm (pa_cons (pe_var hN hv hd hcd) (pa_cons (pe_var hN2 hv2 hd2 hcd2) pa_nil hs2) hs) hs hpl) fun σ H R ⟨H0, ok, q⟩ => by
    obtain ⟨a, vs, e, s, r⟩ := ok.rdl hc
    obtain ⟨b, us, e2, s2, r2⟩ := ok.rdl hc2
    exact ⟨.ref a, e, .ref b, e2, a, b, vs, us, rfl, .inl ⟨.of (ok.ex _ _ s), .of (ok.ex _ _ s2), q _ H H0 (Same.refl H) (Same.refl H0) (fun _ _ _ _ n => n) ok (WalksT.w (zipD_map ▸ walksZpL (.of s) r (.of s2) r2))⟩⟩
end
end K54
set_option Elab.async false
set_option linter.all false
set_option autoImplicit false
set_option maxRecDepth 100000
set_option maxHeartbeats 2000000
/-! K54: defs of the law, 12: same, asked of equal data -/
namespace K54
open PySem PySem.Spec PyProof.Rows L2
mutual
def fit : PyData → Bool
  | .tuple ds => decide (ds.length ≤ 1000) && fits ds
  | .bool _ => true
  | .int _ => true
  | .str x => PyData.strOk x
  | .none => true
  | .list _ => false
  | .dict _ => false
def fits : List PyData → Bool
  | [] => true
  | d :: ds => fit d && fits ds
end
theorem fits_mem : ∀ {ds : List PyData}, fits ds = true → ∀ d ∈ ds, fit d = true
  | [], _, _, h => by cases h
  | x :: ds, hs, d, h => by
    simp only [fits, Bool.and_eq_true] at hs
    rcases List.mem_cons.mp h with e | h
    · rw [e]; exact hs.1
    · exact fits_mem hs.2 d h
section
variable {P : Program} {w : World} {K : PySem.W.Frag} {mg : Str → Option Value} {base : Heap} {k : Nat}
theorem scS39 : FnScope ["_law_got", "_law_goal", "_law_mine_so", "_law_own"] ["_law_got", "_law_goal"] (defScope (top 39)) := ⟨rfl, rfl, rfl, by decide +kernel, rfl, by decide +kernel, by decide +kernel⟩
def rSame (m : Nat) (as : List Arg) (d : PyData) : Prop := d = .bool true ∧ ((∃ x, fit x = true ∧ x.depth ≤ m ∧ as = [.t x, .t x]) ∨ ∃ ds, fits ds = true ∧ PyData.depthAll ds + 1 ≤ m ∧ ds.length ≤ 1000 ∧ as = [.l ds, .l ds])
theorem zip_self {α : Type} : ∀ (xs : List α), ∀ p ∈ xs.zip xs, p.1 = p.2 ∧ p.1 ∈ xs := fun xs p hp => by
  obtain ⟨i, hi, rfl⟩ := List.getElem_of_mem hp
  rw [List.getElem_zip]
  exact ⟨rfl, List.getElem_mem _⟩
theorem eqv_Str (x : Str) : PyData.eqv (.str x) (.str x) = true := by simp [PyData.eqv]
theorem eqv_Int (x : Int) : PyData.eqv (.int x) (.int x) = true := by simp [PyData.eqv]
theorem same_leaf (B : Blt mg) {f : Addr} {cdv : Value} {A : Around} {outer : List Env} {s : Shared} {H : Hp} {E : XK} (hr : Room k (BX P w K mg base ["_law_got", "_law_goal", "_law_mine_so", "_law_own"] "_law_same" (top 39) f cdv A outer s H E).A) {x : PyData} (hx : fit x = true) (ht : isTp x = false) :
    DSs (BX P w K mg base ["_law_got", "_law_goal", "_law_mine_so", "_law_own"] "_law_same" (top 39) f cdv A outer s H E) (cellsOf ["_law_got", "_law_goal", "_law_mine_so", "_law_own"] [.t x, .t x]) (defBody (top 39)) (.rt (.bool true)) := by
  have nl : (isLs x || isTp x) = false := by cases x <;> first | rfl | (simp [fit] at hx; done) | cases ht
  have sh : SeqAt.shaped x = true := by
    cases x with
    | str y => 
      have : PyData.strOk y = true := by simpa [fit] using hx
      unfold SeqAt.shaped
      rw [PyData.canLay0, this, PyData.depth]; rfl
    | tuple ds => cases ht
    | list ds => simp [fit] at hx
    | dict ds => simp [fit] at hx
    | _ => rfl
  have eq : PyData.eqv x x = true := by
    cases x with
    | tuple ds => cases ht
    | list ds => simp [fit] at hx
    | dict ds => simp [fit] at hx
    | _ => simp [PyData.eqv]
  refine dss_if (b := false) (DT.is (dt_val (de_isi2 "list" "tuple" (DE.g (de_var 1)) (kitLst x) (kitTup x) B.isinstance B.list B.tuple)) nl) (fun z => nomatch z) fun _ => ?_
  refine dss_if (b := isNn x || (isBl x || isSr x)) (PW.pt (dw_or (dt_isN (DE.g (de_var 1))) fun _ => dw_or1 (dt_val (de_isi2 "bool" "str" (DE.g (de_var 1)) (kitBool x) (kitStr x) B.isinstance B.bool B.str)))) (fun _ => DSs.is (dss_one (ds_ret (de_and (k := true) (l := true) (DE.is (dg_cmp (op_eqD hr.units) (opEqD sh sh) (DE.g (de_var 0)) (DE.g (de_var 1))) (by rw [eq])) fun _ => de_and (k := true) (l := true) (DE.is (dg_cmp (op_eqD hr.units) (opEqD rfl rfl) (DE.g (de_isi "bool" (DE.g (de_var 0)) (kitBool x) B.isinstance B.bool)) (DE.g (de_isi "bool" (DE.g (de_var 1)) (kitBool x) B.isinstance B.bool))) (by rw [eqv_B]; simp)) fun _ => de_one (DE.is (dg_cmp (op_eqD hr.units) (opEqD rfl rfl) (DE.g (de_isNg (DE.g (de_var 0)))) (DE.g (de_isNg (DE.g (de_var 1))))) (by rw [eqv_B]; simp))))) rfl) fun z => ?_
  obtain ⟨i, rfl⟩ : ∃ i, x = .int i := by
    cases x with
    | int i => exact ⟨i, rfl⟩
    | none => cases z
    | bool b => cases z
    | str y => cases z
    | tuple ds => cases ht
    | list ds => simp [fit] at hx
    | dict ds => simp [fit] at hx
  exact DSs.is (dss_one (ds_ret (de_and (k := true) (l := true) (DE.is (de_isi "int" (DE.g (de_var 0)) (kitInt (.int i)) B.isinstance B.int) rfl) fun _ => de_and (k := true) (l := true) (DE.is (de_not (de_isi "bool" (DE.g (de_var 0)) (kitBool (.int i)) B.isinstance B.bool)) rfl) fun _ => de_one (DE.is (dg_cmp (op_eqD hr.units) (opEqD sh sh) (DE.g (de_var 0)) (DE.g (de_var 1))) (by rw [eq]))))) rfl
theorem ok_lsame (B : Blt mg) (D : DefAt K mg "_law_same" 39 ["_law_got", "_law_goal"]) : ∀ m : Nat, Ok P w K mg base "_law_same" (k + 1 + m) ["_law_got", "_law_goal"] (spE K (rSame m)) := by
  intro m
  induction m with
  | zero =>
    refine okE' D scS39 (fun as d h => by obtain ⟨_, ⟨_, _, _, rfl⟩ | ⟨_, _, _, _, rfl⟩⟩ := h <;> rfl) fun nd f cdv A outer s H E hr as d h => ?_
    obtain ⟨rfl, ⟨x, h1, h2, rfl⟩ | ⟨ds, h1, h2, h3, rfl⟩⟩ := h
    · exact same_leaf B hr h1 (by cases x <;> first | rfl | (simp [PyData.depth] at h2))
    · omega
  | succ m ih =>
    refine okE' D scS39 (fun as d h => by obtain ⟨_, ⟨_, _, _, rfl⟩ | ⟨_, _, _, _, rfl⟩⟩ := h <;> rfl) fun nd f cdv A outer s H E hr as d h => ?_
    obtain ⟨rfl, ⟨x, h1, h2, rfl⟩ | ⟨ds, h1, h2, h3, rfl⟩⟩ := h
    · cases ht : isTp x with
      | false => exact same_leaf B hr h1 ht
      | true =>
        obtain ⟨ds, rfl⟩ : ∃ ds, x = .tuple ds := by cases x <;> first | exact ⟨_, rfl⟩ | cases ht
        simp only [fit, Bool.and_eq_true, decide_eq_true_eq] at h1
        simp only [PyData.depth] at h2
        have h3 := h1.1
        have h1 := h1.2
        refine DSs.is (dss_if (b := true) (DT.is (dt_val (de_isi2 "list" "tuple" (DE.g (de_var 1)) (kitLst (.tuple ds)) (kitTup (.tuple ds)) B.isinstance B.list B.tuple)) rfl) (fun _ => dss_if (b := false) (DT.is (PW.pt (dw_or (k := false) (l := false) (dtg_cmp (k := !PyData.eqv (.bool false) (.bool false)) (op_neD hr.units) (opNeD rfl rfl) (DE.g (DE.is (de_isi "list" (DE.g (de_var 0)) (kitLst (.tuple ds)) B.isinstance B.list) rfl)) (DE.g (DE.is (de_isi "list" (DE.g (de_var 1)) (kitLst (.tuple ds)) B.isinstance B.list) rfl))) fun _ => dw_or1 (dtg_cmp (k := !PyData.eqv (.bool true) (.bool true)) (op_neD hr.units) (opNeD rfl rfl) (DE.g (DE.is (de_isi "tuple" (DE.g (de_var 0)) (kitTup (.tuple ds)) B.isinstance B.tuple) rfl)) (DE.g (DE.is (de_isi "tuple" (DE.g (de_var 1)) (kitTup (.tuple ds)) B.isinstance B.tuple) rfl))))) rfl) (fun z => nomatch z) fun _ => dss_one (ds_ret (de_and (k := true) (l := true) (DE.is (dg_cmp (op_eqD hr.units) (opEqD rfl rfl) (DE.g (de_lenT (de_var 0) B.len)) (DE.g (de_lenT (de_var 1) B.len))) ?_) fun _ => de_one (DE.is (de_all (bs := (ds.zip ds).map fun _ => true) (DN.l (DN.is (dn_lcA [("_law_mine_so", 2), ("_law_own", 3)] (xs := ds.zip ds) (enc := fun p => .t (.tuple [p.1, p.2])) (f := fun _ => .bool true) (di_zpT (xs := ds) (ys := ds) (enc := id) (enc2 := id) (de_var 0 (hc := ?_)) (de_var 1 (hc := ?_)) B.zip) (fun q hq => ⟨_, _, by decide, fun s H C cl fp => ⟨dg_tup (dgs_cons (dg_name 2) (dgs_cons (dg_name 3) dgs_nil)), de_fn ih hr (dr_t (de_var 2) (dr_t (de_var 3) dr_nil)) ⟨rfl, .inl ⟨q.1, fits_mem h1 _ (zip_self ds q hq).2, ?_, ?_⟩⟩⟩⟩) ?_) ?_)) B.all) ?_)))) fun z => nomatch z) rfl
        · show PyData.bool (PyData.eqv (.int _) (.int _)) = _
          rw [eqv_Int]
        · show some _ = some _
          rw [List.map_id]; rfl
        · show some _ = some _
          rw [List.map_id]; rfl
        · have := depth_mem (m := m) (by omega) q.1 (zip_self ds q hq).2
          exact this
        · rw [(zip_self ds q hq).1]
        · rw [List.length_zip]; omega
        · rw [List.map_map]; rfl
        · rw [List.all_map]
          show PyData.bool (List.all _ fun _ => true) = _
          simp
    · refine DSs.is (dss_if (b := true) (DT.is (dt_val (de_isi2 "list" "tuple" (DL.g (dl_var 1)) (kitLst (.list ds)) (kitTup (.list ds)) B.isinstance B.list B.tuple)) rfl) (fun _ => dss_if (b := false) (DT.is (PW.pt (dw_or (k := false) (l := false) (dtg_cmp (k := !PyData.eqv (.bool true) (.bool true)) (op_neD hr.units) (opNeD rfl rfl) (DE.g (DE.is (de_isi "list" (DL.g (dl_var 0)) (kitLst (.list ds)) B.isinstance B.list) rfl)) (DE.g (DE.is (de_isi "list" (DL.g (dl_var 1)) (kitLst (.list ds)) B.isinstance B.list) rfl))) fun _ => dw_or1 (dtg_cmp (k := !PyData.eqv (.bool false) (.bool false)) (op_neD hr.units) (opNeD rfl rfl) (DE.g (DE.is (de_isi "tuple" (DL.g (dl_var 0)) (kitTup (.list ds)) B.isinstance B.tuple) rfl)) (DE.g (DE.is (de_isi "tuple" (DL.g (dl_var 1)) (kitTup (.list ds)) B.isinstance B.tuple) rfl))))) rfl) (fun z => nomatch z) fun _ => dss_one (ds_ret (de_and (k := true) (l := true) (DE.is (dg_cmp (op_eqD hr.units) (opEqD rfl rfl) (DE.g (de_lenL (dl_var 0) B.len)) (DE.g (de_lenL (dl_var 1) B.len))) ?_) fun _ => de_one (DE.is (de_all (bs := (ds.zip ds).map fun _ => true) (DN.l (DN.is (dn_lcA [("_law_mine_so", 2), ("_law_own", 3)] (xs := ds.zip ds) (enc := fun p => .t (.tuple [p.1, p.2])) (f := fun _ => .bool true) (di_zpV 0 1 (xs := ds) (ys := ds) (enc := id) (enc2 := id) B.zip (hc := ?_) (hc2 := ?_)) (fun q hq => ⟨_, _, by decide, fun s H C cl fp => ⟨dg_tup (dgs_cons (dg_name 2) (dgs_cons (dg_name 3) dgs_nil)), de_fn ih hr (dr_t (de_var 2) (dr_t (de_var 3) dr_nil)) ⟨rfl, .inl ⟨q.1, fits_mem h1 _ (zip_self ds q hq).2, ?_, ?_⟩⟩⟩⟩) ?_) ?_)) B.all) ?_)))) fun z => nomatch z) rfl
      · show PyData.bool (PyData.eqv (.int _) (.int _)) = _
        rw [eqv_Int]
      · show some _ = some _
        rw [List.map_id]; rfl
      · show some _ = some _
        rw [List.map_id]; rfl
      · have := depth_mem (m := m) (by omega) q.1 (zip_self ds q hq).2
        exact this
      · rw [(zip_self ds q hq).1]
      · rw [List.length_zip]; omega
      · rw [List.map_map]; rfl
      · rw [List.all_map]
        show PyData.bool (List.all _ fun _ => true) = _
        simp
end
end K54
set_option Elab.async false
set_option linter.all false
set_option autoImplicit false
set_option maxRecDepth 100000
set_option maxHeartbeats 2000000
/-! K54: the urn, 1: what is written is the urn alone; values that are told by a predicate -/
namespace K54
open PySem PySem.Spec PyProof.Rows L2
def UrnAt (H : Hp) (a : Addr) (c : Nat) : Prop := ∃ x y z : Int, H a = some (.lst [.int x, .int y, .int z]) ∧ 0 ≤ z ∧ z ≤ c
/-- all but the place a -/
def bU (H : Hp) (a : Addr) : Hp := fun b => if b = a then none else H b
theorem bU_same {H : Hp} {a : Addr} : Same (bU H a) H := fun b u h => by
  unfold bU at h
  split at h
  · cases h
  · exact h
theorem bU_none {H : Hp} {a : Addr} : bU H a a = none := by unfold bU; rw [if_pos rfl]
theorem bU_at {H : Hp} {a b : Addr} (n : b ≠ a) : bU H a b = H b := by unfold bU; rw [if_neg n]
theorem bU_tup {H : Hp} {a : Addr} {xs : List V} (h : H a = some (.lst xs)) : TupEx H (bU H a) := fun b ys q => by
  have n : b ≠ a := fun e => by
    subst e
    exact lstNoTup h ys q
  rcases q with q | ⟨u, q⟩
  · exact .inl (by rw [bU_at n]; exact q)
  · exact .inr ⟨u, by rw [bU_at n]; exact q⟩
/-- all but a stands -/
def Fu (a : Addr) (H H' : Hp) : Prop := ∀ b u, b ≠ a → H b = some u → H' b = some u
theorem Fu.trans {a : Addr} {H H1 H2 : Hp} (h1 : Fu a H H1) (h2 : Fu a H1 H2) : Fu a H H2 := fun b u n h => h2 b u n (h1 b u n h)
theorem Fu.of {a : Addr} {H H1 : Hp} (h : Same H H1) : Fu a H H1 := fun b u _ q => h b u q
theorem Fu.tup {a : Addr} {H H' : Hp} {xs : List V} (h : H a = some (.lst xs)) (f : Fu a H H') : TupEx H H' := fun b ys q => by
  have n : b ≠ a := fun e => by
    subst e
    exact lstNoTup h ys q
  rcases q with q | ⟨u, q⟩
  · exact .inl (f b _ n q)
  · exact .inr ⟨u, f b _ n q⟩
abbrev uG (a : Addr) (c : Nat) (Γt : List Cell) : List Cell := .own (.urn a c) :: Γt
theorem EnvOk.urnAt {P : Program} {w : World} {K : PySem.W.Frag} {H0 H : Hp} {σ : L2.St} {Γt : List Cell} {a : Addr} {c : Nat} (ok : EnvOk P w K H0 H σ (uG a c Γt)) : UrnAt H a c ∧ H0 a = none ∧ σ[0]? = some (some (.ref a)) := by
  obtain ⟨b, e, n, q, rfl⟩ := ok.own (i := 0) rfl
  exact ⟨q, n, e⟩
/-- the urn was written -/
theorem EnvOk.drawn {P : Program} {w : World} {K : PySem.W.Frag} {H0 H H' : Hp} {σ : L2.St} {Γt : List Cell} {a : Addr} {c c' : Nat} (ok : EnvOk P w K H0 H σ (uG a c Γt)) (f : Fu a H H') (h : UrnAt H' a c') : EnvOk P w K H0 H' σ (uG a c' Γt) := by
  obtain ⟨⟨x, y, z, hu, _⟩, n, e⟩ := ok.urnAt
  have t : TupEx H H' := Fu.tup hu f
  refine ⟨fun b u q => f b u (ne_of_none q n) (ok.ex b u q), by rw [ok.len]; rfl, fun i cl v h1 h2 => ?_, fun i j b hi hj => ?_⟩
  · cases i with
    | zero =>
      cases h1
      rw [e] at h2
      cases h2
      exact ⟨a, rfl, n, h, rfl⟩
    | succ i =>
      refine (ok.at_ (i + 1) cl v h1 h2).stay (fun b o x1 x2 u hu => ?_) t
      refine f b u (fun q => ?_) hu
      subst q x2
      have := ok.apart 0 (i + 1) b ⟨e, _, rfl⟩ ⟨by rw [h2, x1], o, h1⟩
      cases this
  · have back : ∀ i, OwnAt σ (uG a c' Γt) i b → OwnAt σ (uG a c Γt) i b := fun i hi => by
      obtain ⟨i1, o, i2⟩ := hi
      cases i with
      | zero => exact ⟨i1, _, rfl⟩
      | succ i => exact ⟨i1, o, i2⟩
    exact ok.apart i j b (back i hi) (back j hj)
def tU (P : Program) (w : World) (K : PySem.W.Frag) (Γt : List Cell) (a : Addr) (c c' : Nat) (Pr : PyData → Prop) : TE := fun σ H Q => ∃ H0, EnvOk P w K H0 H σ (uG a c Γt) ∧ ∀ v H' d, Fu a H H' → EnvOk P w K H0 H' σ (uG a c' Γt) → Pr d → TD K H' v d → Q v H'
/-- e draws; its value is tuple data of which Pr holds -/
abbrev EU (X : Cx) (Γt : List Cell) (a : Addr) (c c' : Nat) (e : Expr) (Pr : PyData → Prop) : Prop := PE X e (tU X.prog X.w X.K Γt a c c' Pr)
/-- a def that draws -/
def spU (K : PySem.W.Frag) (δ : Nat) (R : List PyData → (PyData → Prop) → Prop) : Sp := fun vs H Q _ => ∃ a ws ds Pr c, vs = .ref a :: ws ∧ TDs K H ws ds ∧ R ds Pr ∧ c + δ ≤ 2 ^ 60 ∧ UrnAt H a c ∧ ∀ v H' d, Fu a H H' → UrnAt H' a (c + δ) → Pr d → TD K H' v d → Q v H'
def OkU (P : Program) (w : World) (K : PySem.W.Frag) (mg : Str → Option Value) (base : Heap) (x : Str) (k : Nat) (ps : List Str) (δ : Nat) (R : List PyData → (PyData → Prop) → Prop) : Prop := ∃ f fd, FnOk P w K mg base CX0 k f fd ps (spU K δ R) ∧ mg x = some (.ref f) ∧ PySem.W.keepIn K (.ref f) = true ∧ Binds K fd ps []
section
variable {X : Cx} {Γt : List Cell} {a : Addr} {c c1 c2 c' : Nat} {e : Expr} {es : List Expr} {d : PyData} {Pr Pr' : PyData → Prop} {p pos pn : Pos} {n nu : Str} {k δ : Nat} {ps : List Str} {ds : List PyData}
theorem DE.eu (h : DE X (uG a c Γt) e d) : EU X Γt a c c e (fun z => z = d) := PE.wk h fun σ H Q ⟨H0, ok, q⟩ => ⟨H0, ok, fun v H1 e1 r1 => q v H1 d (.of e1) (ok.mono e1) rfl r1⟩
theorem EU.to (h : EU X Γt a c c1 e Pr) (i : ∀ d, Pr d → Pr' d) : EU X Γt a c c1 e Pr' := PE.wk h fun σ H Q ⟨H0, ok, q⟩ => ⟨H0, ok, fun v H1 d f ok1 hd r1 => q v H1 d f ok1 (i d hd) r1⟩
theorem eleUrn (hc : c1 ≤ c2) : ELe (uG a c1 Γt) (uG a c2 Γt) := .cons (.urn hc) (ELe.refl Γt)
theorem EU.up (h : EU X Γt a c c1 e Pr) (hc : c1 ≤ c2) : EU X Γt a c c2 e Pr := PE.wk h fun σ H Q ⟨H0, ok, q⟩ => ⟨H0, ok, fun v H1 d f ok1 hd r1 => q v H1 d f (ok1.wk (eleUrn hc)) hd r1⟩
/-- a def is called with the urn -/
theorem du_fn {R : List PyData → (PyData → Prop) → Prop} (O : OkU X.prog X.w X.K X.mg X.base n k ps δ R) (hr : Room k X.A) (ha : DAr X (uG a c Γt) es (ds.map .t)) (hR : R ds Pr) (hc : c + δ ≤ 2 ^ 60)
    (hN : X.N[0]? = some nu := by rfl) (hv : Vis X.env.scope nu := by first | exact Or.inl rfl | exact Or.inr (Or.inl rfl) | exact Or.inr (Or.inr rfl)) (hd : (nu == ("__debug__" : Str)) = false := by decide) (hcd : (nu == ("__classdict__" : Str)) = false := by decide)
    (hg : Gl X n := by rfl) (hdb : (n == ("__debug__" : Str)) = false := by decide) (he : starEach (.Name nu pn :: es) X.env = (false, eval (.Name nu pn) X.env) :: starEach es X.env := by rfl) (hpl : (backTo pos (starEach es X.env)).any (·.1) = false := by rfl) : EU X Γt a c (c + δ) (.Call (.Name n p) (.Name nu pn :: es) [] pos) Pr := by
  obtain ⟨f, fd, F, h1, h2, h3⟩ := O
  refine PE.wk (pe_call F hr hg h1 h2 h3 .nil pass0 (pa_cons (pe_var hN hv hd hcd) ha he) hdb he hpl) fun σ H Q ⟨H0, ok, q⟩ => ?_
  obtain ⟨hu, nn, es0⟩ := ok.urnAt
  refine ⟨.ref a, es0, H0, ok, fun vs H1 e1 r1 => ?_⟩
  have ok1 := ok.mono e1
  have tds : ∀ {vs : List V} {ds : List PyData}, ArgsOk X.K H1 vs (ds.map .t) → TDs X.K H1 vs ds := by
    intro vs ds
    induction ds generalizing vs with
    | nil => intro h; cases h; exact .nil
    | cons d ds ih =>
      intro h
      cases h with
      | cons a1 a2 => exact .cons a1 (ih a2)
  refine ⟨a, vs, ds, Pr, c, by rw [List.append_nil], tds r1, hR, hc, ok1.urnAt.1, fun v H2 d f2 hu2 hd2 r2 => ?_⟩
  exact q v H2 d ((Fu.of e1).trans f2) (ok1.drawn f2 hu2) hd2 r2
end
end K54
set_option Elab.async false
set_option linter.all false
set_option autoImplicit false
set_option maxRecDepth 100000
set_option maxHeartbeats 2000000
/-! K54: the urn, 2: statements; defs that draw -/
namespace K54
open PySem PySem.Spec PyProof.Rows L2
/-- what is handed back where the urn was drawn from: tuple data of which Pr holds -/
def tUr (X : Cx) (Γ : List Cell) (a : Addr) (c' : Nat) (Pr : PyData → Prop) : TS := fun D σ H => ∃ H0, EnvOk X.prog X.w X.K H0 H σ Γ ∧ ∀ v H' d, Same H0 H' → UrnAt H' a c' → Pr d → TD X.K H' v d → D.rt v H'
/-- the slots hereafter are one of N -/
def tCh (X : Cx) (Γ : List Cell) (N : List Cell → Prop) : TS := fun D σ H => ∃ H0, EnvOk X.prog X.w X.K H0 H σ Γ ∧ ∀ Γ' Hb σ' H', N Γ' → Same H0 Hb → EnvOk X.prog X.w X.K Hb H' σ' Γ' → D.nx σ' H'
abbrev UR (X : Cx) (Γ : List Cell) (sts : List Stmt) (a : Addr) (c' : Nat) (Pr : PyData → Prop) : Prop := PSs X sts (tUr X Γ a c' Pr)
abbrev CH (X : Cx) (Γ : List Cell) (sts : List Stmt) (N : List Cell → Prop) : Prop := PSs X sts (tCh X Γ N)
section
variable {X : Cx} {Γ Γ1 Γt : List Cell} {N N' : List Cell → Prop} {a : Addr} {c c1 c' : Nat} {Pr Pr' : PyData → Prop} {st : Stmt} {rest th el : List Stmt} {e t : Expr} {pos : Pos} {d : PyData}
theorem ur_cons (h1 : DS X Γ st (.nx Γ1)) (h2 : UR X Γ1 rest a c' Pr) : UR X Γ (st :: rest) a c' Pr := PSs.wk (pss_cons h1 h2) fun D σ H ⟨H0, ok, q⟩ => ⟨H0, ok, fun Hb σ' H' e ok' => ⟨Hb, ok', fun v H2 d e2 hu hd r => q v H2 d (e.trans e2) hu hd r⟩⟩
theorem ur_ch (h1 : PS X st (tCh X Γ N)) (h2 : ∀ Γ', N Γ' → UR X Γ' rest a c' Pr) : UR X Γ (st :: rest) a c' Pr := by
  have hE : PSs X rest (fun D σ H => ∃ z : { Γ' // N Γ' }, tUr X z.1 a c' Pr D σ H) := PSs.ex fun z => h2 z.1 z.2
  exact PSs.wk (pss_cons h1 hE) fun D σ H ⟨H0, ok, q⟩ => ⟨H0, ok, fun Γ' Hb σ' H' hn e ok' => ⟨⟨Γ', hn⟩, Hb, ok', fun v H2 d e2 hu hd r => q v H2 d (e.trans e2) hu hd r⟩⟩
theorem ur_ret (h : EU X Γt a c c' e Pr) : UR X (uG a c Γt) [.Return (some e) pos] a c' Pr := pss_one (PS.wk (ps_ret h) fun D σ H ⟨H0, ok, q⟩ => ⟨H0, ok, fun v H1 d f ok1 hd r => q v H1 d ok1.ex ok1.urnAt.1 hd r⟩)
theorem UR.to (h : UR X Γ rest a c' Pr) (i : ∀ d, Pr d → Pr' d) : UR X Γ rest a c' Pr' := PSs.wk h fun D σ H ⟨H0, ok, q⟩ => ⟨H0, ok, fun v H1 d e hu hd r => q v H1 d e hu (i d hd) r⟩
theorem UR.up (h : UR X Γ rest a c1 Pr) (hc : c1 ≤ c') : UR X Γ rest a c' Pr := PSs.wk h fun D σ H ⟨H0, ok, q⟩ => ⟨H0, ok, fun v H1 d e ⟨x, y, z, h1, h2, h3⟩ hd r => q v H1 d e ⟨x, y, z, h1, h2, by omega⟩ hd r⟩
theorem UR.wk1 (h : UR X Γ1 rest a c' Pr) (l : ELe Γ Γ1) : UR X Γ rest a c' Pr := PSs.wk h fun D σ H ⟨H0, ok, q⟩ => ⟨H0, ok.wk l, q⟩
/-- choices, in a row -/
theorem ch_nil (h : N Γ) : CH X Γ [] N := PSs.wk pss_nil fun D σ H ⟨H0, ok, q⟩ => q Γ H0 σ H h (Same.refl H0) ok
theorem ch_cons (h1 : PS X st (tCh X Γ N)) (h2 : ∀ Γ', N Γ' → CH X Γ' rest N') : CH X Γ (st :: rest) N' := by
  have hE : PSs X rest (fun D σ H => ∃ z : { Γ' // N Γ' }, tCh X z.1 N' D σ H) := PSs.ex fun z => h2 z.1 z.2
  exact PSs.wk (pss_cons h1 hE) fun D σ H ⟨H0, ok, q⟩ => ⟨H0, ok, fun Γ' Hb σ' H' hn e ok' => ⟨⟨Γ', hn⟩, Hb, ok', fun Γ2 Hc σ2 H2 hn2 e2 ok2 => q Γ2 Hc σ2 H2 hn2 (e.trans e2) ok2⟩⟩
theorem ch_det (h1 : DS X Γ st (.nx Γ1)) : PS X st (tCh X Γ fun z => z = Γ1) := PS.wk h1 fun D σ H ⟨H0, ok, q⟩ => ⟨H0, ok, fun Hb σ' H' e ok' => q Γ1 Hb σ' H' rfl e ok'⟩
theorem ch_to (h : PS X st (tCh X Γ N)) (i : ∀ z, N z → ∃ z', N' z' ∧ ELe z z') : PS X st (tCh X Γ N') := PS.wk h fun D σ H ⟨H0, ok, q⟩ => ⟨H0, ok, fun Γ' Hb σ' H' hn e ok' => by
  obtain ⟨z', h1, h2⟩ := i Γ' hn
  exact q z' Hb σ' H' h1 e (ok'.wk h2)⟩
theorem chs_to (h : CH X Γ rest N) (i : ∀ z, N z → ∃ z', N' z' ∧ ELe z z') : CH X Γ rest N' := PSs.wk h fun D σ H ⟨H0, ok, q⟩ => ⟨H0, ok, fun Γ' Hb σ' H' hn e ok' => by
  obtain ⟨z', h1, h2⟩ := i Γ' hn
  exact q z' Hb σ' H' h1 e (ok'.wk h2)⟩
theorem ch_if {b : Bool} (hc : DT X Γ t b) (h1 : b = true → CH X Γ th N) (h2 : b = false → CH X Γ el N) : PS X (.If t th el pos) (tCh X Γ N) :=
  PS.wk (ps_if hc (pssIf h1) (pssIf h2)) fun D σ H ⟨H0, ok, q⟩ => ⟨H0, ok, fun H1 e1 => by
    cases b with
    | true => exact iteT ⟨rfl, H0, ok.mono e1, q⟩
    | false => exact iteF ⟨rfl, H0, ok.mono e1, q⟩⟩
/-- x = e, e draws -/
theorem ch_set (i : Nat) {n : Str} {pn : Pos} (h : EU X Γt a c c' e Pr) (hi : X.N[i + 1]? = some n := by rfl) (hN : X.N.Nodup := by assumption) (hx : Loc X.env.scope n := by first | exact .inl rfl | exact .inr rfl) (hs : swapsWith e (some (.Name n pn)) pos.line X.env = pure false := by rfl) (hf : X.fn n = true ∨ X.env.scope.names.lookup n = some .local := by first | exact .inl rfl | exact .inr rfl) :
    PS X (.Assign [.Name n pn] e pos) (tCh X (uG a c Γt) fun z => ∃ d, Pr d ∧ z = uG a c' (Γt.set i (.dat d))) :=
  PS.wk (ps_set hN hi hx h hs hf) fun D σ H ⟨H0, ok, q⟩ => ⟨H0, ok, fun v H1 d f ok1 hd r1 => q _ H0 _ H1 ⟨d, hd, rfl⟩ (Same.refl H0) (ok1.putD (i := i + 1) r1)⟩
end
end K54
set_option Elab.async false
set_option linter.all false
set_option autoImplicit false
set_option maxRecDepth 100000
set_option maxHeartbeats 2000000
/-! K54: the urn, 3: take -/
namespace K54
open PySem PySem.Spec PyProof.Rows L2
section
variable {P : Program} {w : World} {K : PySem.W.Frag} {mg : Str → Option Value} {base : Heap} {k : Nat}
theorem scS36 : FnScope ["_law_urn", "_law_low_so", "_law_drawn", "_law_once", "_law_far", "_law_twice"] ["_law_urn", "_law_low_so"] (defScope (top 36)) := ⟨rfl, rfl, rfl, by decide +kernel, rfl, by decide +kernel, by decide +kernel⟩
def rTake (ds : List PyData) (Pr : PyData → Prop) : Prop := ∃ low : Nat, 0 < low ∧ low < 2 ^ 20 ∧ ds = [eN low] ∧ Pr = fun d => ∃ j : Nat, j < low ∧ d = eN j
theorem ok_take (B : Blt mg) (D : DefAt K mg "_law_take" 36 ["_law_urn", "_law_low_so"]) : OkU P w K mg base "_law_take" (k + 1) ["_law_urn", "_law_low_so"] 1 rTake := by
  obtain ⟨f, fd, F, h1, h2⟩ := D
  refine ⟨f, fd, F.ok scS36 (fun vs H Q E h => ?_) (fun cdv A outer s H vs Q E hr h => ?_), h1, F.kp, h2⟩
  · obtain ⟨a, ws, ds, Pr, c, rfl, r, ⟨low, _, _, rfl, _⟩, _⟩ := h
    have := r.length
    rw [List.length_cons, this]; rfl
  · have nd := scS36.nd
    have ix : ∀ {i : Int} {j : Nat} {p p2 p3 : Pos}, PE (BX P w K mg base ["_law_urn", "_law_low_so", "_law_drawn", "_law_once", "_law_far", "_law_twice"] "_law_take" (top 36) f cdv A outer s H E) (.Subscript (.Name "_law_urn" p) (.Constant (.int i) j p2) p3) (tOp (rIxL K) (tVar 0) (tC (.int i))) := fun {i j p p2 p3} => pe_ix ix_list (pe_var (i := 0) rfl (Or.inl rfl)) pe_int (fun _ _ => rfl)
    have vr : ∀ (i : Nat) {n : Str} {p : Pos}, (BX P w K mg base ["_law_urn", "_law_low_so", "_law_drawn", "_law_once", "_law_far", "_law_twice"] "_law_take" (top 36) f cdv A outer s H E).N[i]? = some n → Vis (BX P w K mg base ["_law_urn", "_law_low_so", "_law_drawn", "_law_once", "_law_far", "_law_twice"] "_law_take" (top 36) f cdv A outer s H E).env.scope n → (n == ("__debug__" : Str)) = false → (n == ("__classdict__" : Str)) = false → PE (BX P w K mg base ["_law_urn", "_law_low_so", "_law_drawn", "_law_once", "_law_far", "_law_twice"] "_law_take" (top 36) f cdv A outer s H E) (.Name n p) (tVar i) := fun i {n p} h1 h2 h3 h4 => pe_var h1 h2 h3 h4
    refine ⟨_, pss_cons (ps_if (pt_cmpR op_gt ix pe_int (nomark _)) (pss_cons (ps_set (i := 2) nd rfl (Or.inl rfl) (pe_op op_mod (pe_callTy call_int1 rfl B.int (by decide +kernel) (pa_cons ix pa_nil)) (vr 1 rfl (Or.inl rfl) (by decide) (by decide)))) (pss_cons (ps_asg (pe_op op_fdiv ix (vr 1 rfl (Or.inl rfl) (by decide) (by decide))) (pg_sub (vr 0 rfl (Or.inl rfl) (by decide) (by decide)) pe_int set_list)) (pss_one (ps_ret (vr 2 rfl (Or.inl rfl) (by decide) (by decide)))))) pss_nil)
      (pss_cons (ps_asg (pe_op op_add ix pe_int) (pg_sub (vr 0 rfl (Or.inl rfl) (by decide) (by decide)) pe_int set_list))
      (pss_cons (ps_set (i := 3) nd rfl (Or.inl rfl) (pe_op op_mod (pe_callTy call_int1 rfl B.int (by decide +kernel) (pa_cons (pe_op op_mul (pe_op op_add ix (pe_op op_mul pe_int ix)) (pe_op op_add pe_int ix)) pa_nil)) pe_int))
      (pss_cons (ps_set (i := 4) nd rfl (Or.inl rfl) (pe_op op_add (pe_op op_mod (pe_callTy call_int1 rfl B.int (by decide +kernel) (pa_cons (vr 3 rfl (Or.inl rfl) (by decide) (by decide)) pa_nil)) pe_int) pe_int))
      (pss_cons (ps_set (i := 5) nd rfl (Or.inl rfl) (pe_op op_mod (pe_callTy call_int1 rfl B.int (by decide +kernel) (pa_cons (pe_op op_mul (pe_op op_add (pe_op op_add (vr 3 rfl (Or.inl rfl) (by decide) (by decide)) ix) (pe_op op_fdiv ix pe_int)) (vr 4 rfl (Or.inl rfl) (by decide) (by decide))) pa_nil)) pe_int))
      (pss_one (ps_ret (pe_op op_mod (pe_callTy call_int1 rfl B.int (by decide +kernel) (pa_cons (pe_op op_fdiv (pe_op op_mod (pe_callTy call_int1 rfl B.int (by decide +kernel) (pa_cons (pe_op op_add (pe_op op_mul (vr 5 rfl (Or.inl rfl) (by decide) (by decide)) pe_int) (vr 3 rfl (Or.inl rfl) (by decide) (by decide))) pa_nil)) pe_int) pe_int) pa_nil)) (vr 1 rfl (Or.inl rfl) (by decide) (by decide))))))))), ?_⟩
    obtain ⟨a, ws, ds, Pr, c, rfl, r, ⟨low, l1, l2, rfl, rfl⟩, hc, ⟨x, y, z, hu, z0, z1⟩, q⟩ := h
    cases r with
    | cons r1 r2 =>
      cases r2
      cases r1
      have hS : SqL K H a [V.int x, V.int y, V.int z] := .of hu
      have low0 : (0 : Int) < (low : Int) := by omega
      refine ⟨.ref a, rfl, a, _, 0, _, rfl, rfl, hS, rfl, x, 0, rfl, rfl, _, rfl, ?_⟩
      by_cases hx : (0 : Int) < x
      · rw [decide_eq_true hx]
        refine ⟨.ref a, rfl, a, _, 0, _, rfl, rfl, hS, rfl, .inl ⟨x, rfl, .int (low : Int), rfl, x, (low : Int), rfl, rfl, low0, ?_⟩⟩
        refine ⟨.ref a, rfl, a, _, 0, _, rfl, rfl, hS, rfl, .int (low : Int), rfl, x, (low : Int), rfl, rfl, ⟨low0, by omega⟩, ?_⟩
        refine ⟨.ref a, rfl, a, _, 0, 0, rfl, rfl, hu, rfl, ?_⟩
        refine ⟨.int (x % low), rfl, ?_⟩
        refine q _ _ _ (fun b u n hb => by rw [upd_ne n]; exact hb) ⟨x / low, y, z, upd_same, z0, by omega⟩ ⟨(x % (low : Int)).toNat, ?_, rfl⟩ ?_
        · have := Int.emod_lt_of_pos x low0
          have := Int.emod_nonneg x (by omega : (low : Int) ≠ 0)
          omega
        · have := Int.emod_nonneg x (by omega : (low : Int) ≠ 0)
          have e : eN (x % (low : Int)).toNat = .int (x % low) := by
            show PyData.int _ = _
            congr 1
            omega
          rw [e]
          exact .int _
      · rw [decide_eq_false hx]
        refine ⟨.ref a, rfl, a, _, 2, _, rfl, rfl, hS, rfl, z, 1, rfl, rfl, .ref a, rfl, a, _, 2, 2, rfl, rfl, hu, rfl, ?_⟩
        have hS1 : SqL K (upd H a (.lst [V.int x, V.int y, V.int (z + 1)])) a [V.int x, V.int y, V.int (z + 1)] := .of upd_same
        have zb : (z + 1 : Int) < 2 ^ 64 := by omega
        refine ⟨.ref a, rfl, a, _, 1, _, rfl, rfl, hS1, rfl, .ref a, rfl, a, _, 2, _, rfl, rfl, hS1, rfl, 48271, z + 1, rfl, rfl, .inl (by decide), y, _, rfl, rfl, .ref a, rfl, a, _, 2, _, rfl, rfl, hS1, rfl, 39373, z + 1, rfl, rfl, _, _, rfl, rfl, .inr ⟨by omega, by omega⟩, .inl ⟨_, rfl, _, _, rfl, rfl, (by show (0 : Int) < 2147483647; decide), ?_⟩⟩
        dsimp only
        generalize (y + 48271 * (z + 1)) * (39373 + (z + 1)) % 2147483647 = o
        have f0 := Int.emod_nonneg o (by decide : (40009 : Int) ≠ 0)
        have f1 := Int.emod_lt_of_pos o (by decide : (0 : Int) < 40009)
        refine ⟨.int o, rfl, .inl ⟨o, rfl, o, 40009, rfl, rfl, (by show (0 : Int) < 40009; decide), _, 7, rfl, rfl, ?_⟩⟩
        dsimp only
        generalize o % 40009 = g at f0 f1
        refine ⟨.int o, rfl, .ref a, rfl, a, _, 2, _, rfl, rfl, hS1, rfl, o, z + 1, rfl, rfl, .ref a, rfl, a, _, 1, _, rfl, rfl, hS1, rfl, y, 1000003, rfl, rfl, ⟨(by show (0 : Int) < 1000003; decide), (by show (1000003 : Int) < 1073741824; decide)⟩, _, _, rfl, rfl, .int (g + 7), rfl, _, _, rfl, rfl, .inr ⟨by omega, by omega⟩, .inl ⟨_, rfl, _, _, rfl, rfl, (by show (0 : Int) < 2147483629; decide), ?_⟩⟩
        dsimp only
        generalize (o + (z + 1) + y / 1000003) * (g + 7) % 2147483629 = t
        refine ⟨.int t, rfl, t, 48271, rfl, rfl, .inr ⟨by decide, by decide⟩, .int o, rfl, _, _, rfl, rfl, .inl ⟨_, rfl, _, 2147483587, rfl, rfl, (by show (0 : Int) < 2147483587; decide), _, 64, rfl, rfl, ⟨(by show (0 : Int) < 64; decide), (by show (64 : Int) < 1073741824; decide)⟩, .inl ⟨_, rfl, .int (low : Int), rfl, _, (low : Int), rfl, rfl, low0, ?_⟩⟩⟩
        dsimp only
        generalize (t * 48271 + o) % 2147483587 / 64 = v
        refine q _ _ _ (fun b u n hb => by rw [upd_ne n]; exact hb) ⟨x, y, z + 1, upd_same, by omega, by omega⟩ ⟨(v % (low : Int)).toNat, ?_, rfl⟩ ?_
        · have := Int.emod_lt_of_pos v low0
          have := Int.emod_nonneg v (by omega : (low : Int) ≠ 0)
          omega
        · have := Int.emod_nonneg v (by omega : (low : Int) ≠ 0)
          have e : eN (v % (low : Int)).toNat = .int (v % low) := by
            show PyData.int _ = _
            congr 1
            omega
          rw [e]
          exact .int _
end
end K54
set_option Elab.async false
set_option linter.all false
set_option autoImplicit false
set_option maxRecDepth 100000
set_option maxHeartbeats 2000000
/-! K54: the urn, 4: expressions that draw -/
namespace K54
open PySem PySem.Spec PyProof.Rows L2
def tUt (P : Program) (w : World) (K : PySem.W.Frag) (Γt : List Cell) (a : Addr) (c c' : Nat) : TT := fun σ H Q => ∃ H0, EnvOk P w K H0 H σ (uG a c Γt) ∧ ∀ b H', Fu a H H' → EnvOk P w K H0 H' σ (uG a c' Γt) → Q b H'
section
variable {X : Cx} {Γt : List Cell} {a : Addr} {c c1 c2 c' : Nat} {e e1 e2 : Expr} {es : List Expr} {P1 P2 Pr : PyData → Prop} {pos : Pos} {kk : Nat}
theorem EnvOk.tupF {P : Program} {w : World} {K : PySem.W.Frag} {H0 H H' : Hp} {σ : L2.St} (ok : EnvOk P w K H0 H σ (uG a c Γt)) (f : Fu a H H') : TupEx H H' := by
  obtain ⟨⟨x, y, z, hu, _⟩, _⟩ := ok.urnAt
  exact Fu.tup hu f
theorem eu_op {op : Operator} {r : R2} (ho : OpR X (binaryOp op) r) (ha : EU X Γt a c c1 e1 P1) (hb : EU X Γt a c1 c2 e2 P2) (hr : ∀ x y, P1 x → P2 y → ∃ z, Pr z ∧ OpT X.K r x y z) : EU X Γt a c c2 (.BinOp e1 op e2 pos) Pr :=
  PE.wk (pe_op ho ha hb) fun σ H Q ⟨H0, ok, q⟩ => ⟨H0, ok, fun v H1 d f1 ok1 hd r1 => ⟨H0, ok1, fun u H2 d2 f2 ok2 hd2 r2 => by
    obtain ⟨z, hz, o⟩ := hr d d2 hd hd2
    exact o v u H2 Q (r1.at (ok1.tupF f2)) r2 fun v' H3 e3 r3 => q v' H3 z ((f1.trans f2).trans (.of e3)) (ok2.mono e3) hz r3⟩⟩
def tUs (P : Program) (w : World) (K : PySem.W.Frag) (Γt : List Cell) (a : Addr) (c c' : Nat) (PP : List PyData → Prop) : TA := fun σ H Q => ∃ H0, EnvOk P w K H0 H σ (uG a c Γt) ∧ ∀ vs H' ds, Fu a H H' → EnvOk P w K H0 H' σ (uG a c' Γt) → PP ds → TDs K H' vs ds → Q vs H'
abbrev EUs (X : Cx) (Γt : List Cell) (a : Addr) (c c' : Nat) (es : List Expr) (PP : List PyData → Prop) : Prop := PA X es (tUs X.prog X.w X.K Γt a c c' PP)
variable {PP PQ : List PyData → Prop}
theorem eus_nil : EUs X Γt a c c [] (fun ds => ds = []) := PA.wk pa_nil fun σ H Q ⟨H0, ok, q⟩ => q [] H [] (.of (Same.refl H)) ok rfl .nil
theorem eus_cons (h : EU X Γt a c c1 e Pr) (hr : EUs X Γt a c1 c2 es PP) (hs : starEach (e :: es) X.env = (false, eval e X.env) :: starEach es X.env := by rfl) : EUs X Γt a c c2 (e :: es) (fun ds => ∃ d ds', Pr d ∧ PP ds' ∧ ds = d :: ds') :=
  PA.wk (pa_cons h hr hs) fun σ H Q ⟨H0, ok, q⟩ => ⟨H0, ok, fun v H1 d f1 ok1 hd r1 => ⟨H0, ok1, fun vs H2 ds f2 ok2 hds r2 => q (v :: vs) H2 (d :: ds) (f1.trans f2) ok2 ⟨d, ds, hd, hds, rfl⟩ (.cons (r1.at (ok1.tupF f2)) r2)⟩⟩
theorem eu_tup (h : EUs X Γt a c c' es PP) (hz : ∀ ds, PP ds → ds.length ≤ 1000) : EU X Γt a c c' (.Tuple es kk pos) (fun d => ∃ ds, PP ds ∧ d = .tuple ds) :=
  PE.wk (pe_tup h) fun σ H Q ⟨H0, ok, q⟩ => ⟨H0, ok, fun vs H1 ds f1 ok1 hds r1 => ⟨by rw [r1.length]; exact Nat.le_trans (hz ds hds) (by decide), fun p hp => q _ _ _ (f1.trans (.of (sameNew hp))) (ok1.mono (sameNew hp)) ⟨ds, hds, rfl⟩ (.tup (.of upd_same) (r1.ex (sameNew hp)))⟩⟩
variable {t : Expr}
theorem eu_if {k : Bool} (hc : DT X (uG a c Γt) t k) (h1 : k = true → EU X Γt a c c' e1 Pr) (h2 : k = false → EU X Γt a c c' e2 Pr) : EU X Γt a c c' (.IfExp t e1 e2 pos) Pr :=
  PE.wk (pe_ifExp hc (peIf h1) (peIf h2)) fun σ H Q ⟨H0, ok, q⟩ => ⟨H0, ok, fun H1 e1 => by
    cases k with
    | true => exact ⟨rfl, H0, ok.mono e1, fun v H2 d f ok2 hd r => q v H2 d ((Fu.of e1).trans f) ok2 hd r⟩
    | false => exact ⟨rfl, H0, ok.mono e1, fun v H2 d f ok2 hd r => q v H2 d ((Fu.of e1).trans f) ok2 hd r⟩⟩
/-- a test that draws; its outcome is not told -/
theorem ut_cmp {op : CmpOp} {r : R2} (ho : OpR X (compareOp op) r) (ha : EU X Γt a c c1 e1 P1) (hb : EU X Γt a c1 c2 e2 P2) (hr : ∀ x y, P1 x → P2 y → ∃ z : Bool, OpT X.K r x y (.bool z)) (hm : behindInMarks op e2 = false := by first | exact nomark _ | rfl) : PT X (.Compare e1 [op] [e2] pos) (tUt X.prog X.w X.K Γt a c c2) :=
  PT.wk (pt_cmpR ho ha hb hm) fun σ H Q ⟨H0, ok, q⟩ => ⟨H0, ok, fun v H1 d f1 ok1 hd r1 => ⟨H0, ok1, fun u H2 d2 f2 ok2 hd2 r2 => by
    obtain ⟨z, o⟩ := hr d d2 hd hd2
    refine o v u H2 _ (r1.at (ok1.tupF f2)) r2 fun v' H3 e3 r3 => ?_
    cases r3
    exact ⟨z, rfl, q z H3 ((f1.trans f2).trans (.of e3)) (ok2.mono e3)⟩⟩⟩
end
end K54
set_option Elab.async false
set_option linter.all false
set_option autoImplicit false
set_option maxRecDepth 100000
set_option maxHeartbeats 2000000
/-! K54: the urn, 5: a for whose turns draw -/
namespace K54
open PySem PySem.Spec PyProof.Rows L2
section
variable {X : Cx} {Γ : List Cell} {tg iter : Expr} {body : List Stmt} {pos : Pos} {α : Type} {xs : List α} {enc : α → Arg}
structure CIx (X : Cx) (N : Nat → List Cell → Prop) (tg : Expr) (body : List Stmt) (enc : α → Arg) where
  i : Nat
  x : α
  G : List Cell
  B : List Cell
  js : List Nat
  ok : DGt X G tg (enc x) B js ∧ CH X B body (N (i + 1))
theorem ch_for (N : Nat → List Cell → Prop) (hi : DI X Γ tg iter (xs.map enc)) (h0 : N 0 Γ) (hb : ∀ i x G, xs[i]? = some x → N i G → ∃ B js, DGt X G tg (enc x) B js ∧ CH X B body (N (i + 1)))
    (hp : PassesOwn (model X.prog X.w) X.A X.env X.xe := by exact PassesOwn.never) (hc : X.calm = true := by rfl) (hs : ∀ x, foldedSetIterable iter X.env x = pure x := by intro _; rfl) : PS X (.For tg iter body [] pos) (tCh X Γ (N xs.length)) := by
  refine PS.wk (ps_for hp hc hi (PG.ex (t := fun q : CIx X N tg body enc => gD X.prog X.w X.K q.G (enc q.x) q.B q.js) fun q => q.ok.1)
    (PSs.ex (t := fun q : CIx X N tg body enc => tCh X q.B (N (q.i + 1))) fun q => q.ok.2) hs) fun D σ H ⟨H0, ok, q⟩ => ?_
  refine ⟨H0, ok, fun J H1 Hb e1 b1 b6 okb wk => ⟨fun i m σ' H' => i ≤ xs.length ∧ m = xs.length - i ∧ ∃ Hc G, Same Hb Hc ∧ N i G ∧ EnvOk X.prog X.w X.K Hc H' σ' G, ⟨_, Nat.zero_le _, rfl, Hb, Γ, Same.refl Hb, h0, okb⟩, ?_⟩⟩
  rintro i m σ' H' ⟨hl, rfl, Hc, G, ec, hn, ok'⟩
  have eb : Same Hb H' := ec.trans ok'.ex
  by_cases hlt : i < xs.length
  · have hx : xs[i]? = some xs[i] := List.getElem?_eq_getElem hlt
    generalize xs[i] = x at hx
    obtain ⟨go, yl⟩ := (wk i H' eb).1 (enc x) (by rw [List.getElem?_map, hx]; rfl)
    refine .inr ⟨go, fun σ2 H2 => i + 1 ≤ xs.length ∧ ∃ Hc G, Same Hb Hc ∧ N (i + 1) G ∧ EnvOk X.prog X.w X.K Hc H2 σ2 G, fun σ2 H2 ⟨k1, k2⟩ => ⟨xs.length - (i + 1), by omega, k1, rfl, k2⟩, fun v H2 y => ?_⟩
    obtain ⟨e2, Hi, c1, c2, c3, rv⟩ := yl v H2 y
    obtain ⟨He, d1, d2, ok2, d3⟩ := ok'.union e2 ec c1 c2 c3
    obtain ⟨B, js, hB⟩ := hb i x G hx hn
    exact ⟨⟨i, x, G, B, js, hB⟩, Hi, c2, rv, fun σ3 _ o3 k => ⟨⟨i, x, G, B, js, hB⟩, He, k He d2 ok2, fun G' Hd σ4 H4 hn4 e4 ok4 => ⟨hlt, Hd, G', (ec.trans d1).trans e4, hn4, ok4⟩⟩⟩
  · have hin : i = xs.length := by omega
    subst hin
    exact .inl ⟨(wk _ H' eb).2 (by rw [List.length_map]), q G Hc σ' H' hn (b1.trans ec) ok'⟩
end
end K54
set_option Elab.async false
set_option linter.all false
set_option autoImplicit false
set_option maxRecDepth 100000
set_option maxHeartbeats 2000000
/-! K54: the urn, 6: a comprehension whose turns draw; the start of a def that draws -/
namespace K54
open PySem PySem.Spec PyProof.Rows L2
/-- a new list, made by drawing -/
def tUn (P : Program) (w : World) (K : PySem.W.Frag) (Γt : List Cell) (a : Addr) (c c' : Nat) (PP : List PyData → Prop) : TE := fun σ H Q => ∃ H0, EnvOk P w K H0 H σ (uG a c Γt) ∧ ∀ p us H' ds, H p = none → Fu a H H' → EnvOk P w K H0 H' σ (uG a c' Γt) → PP ds → H' p = some (.lst us) → TDs K H' us ds → Q (.ref p) H'
abbrev EN (X : Cx) (Γt : List Cell) (a : Addr) (c c' : Nat) (e : Expr) (PP : List PyData → Prop) : Prop := PE X e (tUn X.prog X.w X.K Γt a c c' PP)
/-- a test that draws; may: it may be false -/
def tUm (P : Program) (w : World) (K : PySem.W.Frag) (Γt : List Cell) (a : Addr) (c c' : Nat) (may : Bool) : TT := fun σ H Q => ∃ H0, EnvOk P w K H0 H σ (uG a c Γt) ∧ ∀ b H', (b = true ∨ may = true) → Fu a H H' → EnvOk P w K H0 H' σ (uG a c' Γt) → Q b H'
/-- what is drawn, in a row: of each an item, or (may) none -/
inductive Drew {α : Type} (may : Bool) (Pr : α → PyData → Prop) : List α → List PyData → Prop
  | nil : Drew may Pr [] []
  | take {xs : List α} {ds : List PyData} {x : α} {d : PyData} : Drew may Pr xs ds → Pr x d → Drew may Pr (xs ++ [x]) (ds ++ [d])
  | skip {xs : List α} {ds : List PyData} {x : α} : Drew may Pr xs ds → may = true → Drew may Pr (xs ++ [x]) ds
theorem Drew.le {α : Type} {may : Bool} {Pr : α → PyData → Prop} {xs : List α} {ds : List PyData} (h : Drew may Pr xs ds) : ds.length ≤ xs.length := by
  induction h with
  | nil => exact Nat.le_refl _
  | take _ _ ih => simp; omega
  | skip _ _ ih => simp; omega
theorem Drew.len {α : Type} {Pr : α → PyData → Prop} {xs : List α} {ds : List PyData} (h : Drew false Pr xs ds) : ds.length = xs.length := by
  induction h with
  | nil => rfl
  | take _ _ ih => simp; omega
  | skip _ z ih => cases z
theorem Drew.mem {α : Type} {may : Bool} {Pr : α → PyData → Prop} {xs : List α} {ds : List PyData} (h : Drew may Pr xs ds) : ∀ d ∈ ds, ∃ x ∈ xs, Pr x d := by
  induction h with
  | nil => intro d hd; cases hd
  | @take xs ds x d _ hp ih =>
    intro d' hd
    rcases List.mem_append.mp hd with hd | hd
    · obtain ⟨y, hy, hq⟩ := ih d' hd
      exact ⟨y, List.mem_append_left _ hy, hq⟩
    · rw [List.mem_singleton.mp hd]
      exact ⟨x, by simp, hp⟩
  | @skip xs ds x _ _ ih =>
    intro d' hd
    obtain ⟨y, hy, hq⟩ := ih d' hd
    exact ⟨y, List.mem_append_left _ hy, hq⟩
section
variable {X : Cx} {Γt : List Cell} {tg iter elt : Expr} {ifs : List Expr} {scope : Scope} {own : List (Str × Nat)} {pos : Pos} {α : Type} {xs : List α} {enc : α → Arg} {a : Addr} {c δ : Nat} {may : Bool} {Pr : α → PyData → Prop}
/-- a turn: the target, the tests, the item -/
structure BlkU (X : Cx) (scope : Scope) (Γt : List Cell) (tg elt : Expr) (ifs : List Expr) (vs : List Nat) (enc : α → Arg) (a : Addr) (c c1 c' : Nat) (may : Bool) (Pr : α → PyData → Prop) (x : α) (B : List Cell) (js : List Nat) : Prop where
  sub : ∀ j ∈ js, j ∈ vs
  cle : c1 ≤ c'
  tgt : ∀ (s : Shared) (H : Hp) (C : Addr) (cl : List (Str × Addr)) (fp : List Addr), DGt (X.blk s H scope (compEnvC scope cl C X.env) fp) (wipeC (uG a c Γt) vs) tg (enc x) (uG a c B) js
  tst : ∀ (s : Shared) (H : Hp) (C : Addr) (cl : List (Str × Addr)) (fp : List Addr), PTs (X.blk s H scope (compEnvC scope cl C X.env) fp) ifs (tUm X.prog X.w X.K B a c c1 may)
  itm : ∀ (s : Shared) (H : Hp) (C : Addr) (cl : List (Str × Addr)) (fp : List Addr), EU (X.blk s H scope (compEnvC scope cl C X.env) fp) B a c1 c' elt (Pr x)
structure BIu (X : Cx) (scope : Scope) (Γt : List Cell) (tg elt : Expr) (ifs : List Expr) (vs : List Nat) (enc : α → Arg) (a : Addr) (may : Bool) (Pr : α → PyData → Prop) where
  c : Nat
  c1 : Nat
  c' : Nat
  x : α
  B : List Cell
  js : List Nat
  ok : BlkU X scope Γt tg elt ifs vs enc a c c1 c' may Pr x B js
theorem lu_parts :
    (∀ (s : Shared) (H : Hp) (C : Addr) (cl : List (Str × Addr)) (fp : List Addr), PG (X.blk s H scope (compEnvC scope cl C X.env) fp) tg (fun v σ H Q => ∃ q : BIu X scope Γt tg elt ifs (own.map (·.2)) enc a may Pr, gD X.prog X.w X.K (wipeC (uG a q.c Γt) (own.map (·.2))) (enc q.x) (uG a q.c q.B) q.js v σ H Q)) ∧
    (∀ (s : Shared) (H : Hp) (C : Addr) (cl : List (Str × Addr)) (fp : List Addr), PTs (X.blk s H scope (compEnvC scope cl C X.env) fp) ifs (fun σ H Q => ∃ q : BIu X scope Γt tg elt ifs (own.map (·.2)) enc a may Pr, tUm X.prog X.w X.K q.B a q.c q.c1 may σ H Q)) ∧
    (∀ (s : Shared) (H : Hp) (C : Addr) (cl : List (Str × Addr)) (fp : List Addr), PE (X.blk s H scope (compEnvC scope cl C X.env) fp) elt (fun σ H Q => ∃ q : BIu X scope Γt tg elt ifs (own.map (·.2)) enc a may Pr, tU X.prog X.w X.K q.B a q.c1 q.c' (Pr q.x) σ H Q)) :=
  ⟨fun s H C cl fp => PG.ex fun q => q.ok.tgt s H C cl fp, fun s H C cl fp => PTs.ex fun q => q.ok.tst s H C cl fp, fun s H C cl fp => PE.ex fun q => q.ok.itm s H C cl fp⟩
theorem lu_read (hz : xs.length ≤ 100000) (hb : ∀ i x, xs[i]? = some x → ∃ c1 B js, BlkU X scope Γt tg elt ifs (own.map (·.2)) enc a (c + i * δ) c1 (c + (i + 1) * δ) may Pr x B js) (σ : L2.St) (H : Hp) (Q : VK) (h : tUn X.prog X.w X.K Γt a c (c + xs.length * δ) (Drew may Pr xs) σ H Q) :
    tLc (tI X.prog X.w X.K (uG a c Γt) (xs.map enc)) (fun v σ H Q => ∃ q : BIu X scope Γt tg elt ifs (own.map (·.2)) enc a may Pr, gD X.prog X.w X.K (wipeC (uG a q.c Γt) (own.map (·.2))) (enc q.x) (uG a q.c q.B) q.js v σ H Q)
      (fun σ H Q => ∃ q : BIu X scope Γt tg elt ifs (own.map (·.2)) enc a may Pr, tUm X.prog X.w X.K q.B a q.c q.c1 may σ H Q) (fun σ H Q => ∃ q : BIu X scope Γt tg elt ifs (own.map (·.2)) enc a may Pr, tU X.prog X.w X.K q.B a q.c1 q.c' (Pr q.x) σ H Q) (own.map (·.2)) σ H Q := by
  obtain ⟨H0, ok, q⟩ := h
  refine ⟨H0, ok, fun J H1 Hb e1 b1 b6 okb wk D nD => ?_⟩
  have hu1 : ∃ u, H1 a = some u := by
    obtain ⟨⟨x, y, z, hu, _⟩, _⟩ := okb.urnAt
    exact ⟨_, hu⟩
  have nDa : D ≠ a := fun e => by
    obtain ⟨u, hu⟩ := hu1
    rw [← e, nD] at hu; cases hu
  refine ⟨fun i m H' => i ≤ xs.length ∧ m = xs.length - i ∧ Fu a H1 H' ∧ EnvOk X.prog X.w X.K Hb H' σ (uG a (c + i * δ) Γt) ∧ ∃ us ds, H' D = some (.lst us) ∧ TDs X.K H' us ds ∧ Drew may Pr (xs.take i) ds, ⟨_, Nat.zero_le _, rfl, .of (sameNew nD), by rw [Nat.zero_mul]; exact okb.mono (sameNew nD), [], [], upd_same, .nil, .nil⟩, ?_⟩
  rintro i m H' ⟨hi, rfl, f', ok', us, ds, hD, rD, dr⟩
  have eb : Same Hb H' := ok'.ex
  by_cases hlt : i < xs.length
  · have hx : xs[i]? = some xs[i] := List.getElem?_eq_getElem hlt
    generalize xs[i] = x at hx
    obtain ⟨go, yl⟩ := (wk i H' eb).1 (enc x) (by rw [List.getElem?_map, hx]; rfl)
    refine .inr ⟨go, fun H'' => i + 1 ≤ xs.length ∧ Fu a H1 H'' ∧ EnvOk X.prog X.w X.K Hb H'' σ (uG a (c + (i + 1) * δ) Γt) ∧ ∃ us ds, H'' D = some (.lst us) ∧ TDs X.K H'' us ds ∧ Drew may Pr (xs.take (i + 1)) ds, fun H'' ⟨k1, k2⟩ => ⟨_, ?_, k1, rfl, k2⟩, fun v H'' y => ?_⟩
    · omega
    · obtain ⟨e2, Hc, c1, c2, c3, rv⟩ := yl v H'' y
      obtain ⟨cc, B, js, hB⟩ := hb i x hx
      refine ⟨⟨_, cc, _, x, B, js, hB⟩, Hc, c2, rv, fun σ' l' o' k' => ⟨wipe_eq (by rw [l', wipe_length]) hB.sub o', ?_⟩⟩
      have okB := k' Hc (Same.refl Hc) ((ok'.rebase e2 c1 c2 c3).wipe _)
      refine ⟨⟨_, cc, _, x, B, js, hB⟩, Hc, okB, fun b H3 hbm f3 ok3 => ?_⟩
      have hD2 := e2 D _ hD
      have hD3 := f3 D _ nDa hD2
      have t3 : TupEx H'' H3 := okB.tupF f3
      have ok2 := ok'.mono e2
      have okH3 := ok2.drawn f3 ok3.urnAt.1
      cases b with
      | true =>
        refine iteT ⟨⟨_, cc, _, x, B, js, hB⟩, Hc, ok3, fun y4 H4 d4 f4 ok4 hd4 ry => ?_⟩
        have hD4 := f4 D _ nDa hD3
        have okH4 := okH3.drawn f4 ok4.urnAt.1
        refine ⟨us, hD4, ?_, hlt, ?_, ?_, us ++ [y4], ds ++ [d4], upd_same, ?_, ?_⟩
        · rw [rD.length]
          refine Nat.lt_of_le_of_lt dr.le (Nat.lt_of_le_of_lt ?_ (by decide : 100000 < sizeLine))
          rw [List.length_take]
          omega
        · intro b z hb' hbz
          have q4 := f4 b z hb' (f3 b z hb' (e2 b z (f' b z hb' hbz)))
          have nb : b ≠ D := ne_of_none hbz nD
          rw [upd_ne nb]
          exact q4
        · have nDb : Hb D = none := by
            cases hh : Hb D with
            | none => rfl
            | some u => rw [okb.ex D u hh] at nD; cases nD
          obtain ⟨ux, uy, uz, hu4, hz4⟩ := okH4.urnAt.1
          have f5 : Fu a H4 (upd H4 D (.lst (us ++ [y4]))) ∨ True := .inr trivial
          -- the list is nobody's slot
          refine ⟨fun b u h => ?_, okH4.len, fun i cl x' h1 h2 => ?_, okH4.apart⟩
          · rw [upd_ne (ne_of_none h nDb)]
            exact okH4.ex b u h
          · have t : TupEx H4 (upd H4 D (.lst (us ++ [y4]))) := TupEx.write (lstNoTup hD4)
            refine (okH4.at_ i cl x' h1 h2).stay (fun b o x1 x2 u hu => ?_) t
            subst x2
            have hb1 : OwnAt σ (uG a (c + (i + 1) * δ) Γt) i b ∨ True := .inr trivial
            by_cases hbD : b = D
            · exfalso
              subst hbD
              -- D would be owned in H1 already
              have own1 : ∃ o', (uG a c Γt)[i]? = some (.own o') := by
                cases i with
                | zero => exact ⟨_, rfl⟩
                | succ i => exact ⟨o, h1⟩
              obtain ⟨o', ho'⟩ := own1
              exact okb.fresh nD i ⟨by rw [h2, x1], o', ho'⟩
            · rw [upd_ne hbD]; exact hu
        · have t : TupEx H4 (upd H4 D (.lst (us ++ [y4]))) := TupEx.write (lstNoTup hD4)
          exact ((((rD.ex e2).at t3).at (ok3.tupF f4)).at t).append (.cons (ry.at t) .nil)
        · rw [take_succ_of hx]
          exact .take dr hd4
      | false =>
        refine iteF ⟨hlt, fun b z hb' hbz => f3 b z hb' (e2 b z (f' b z hb' hbz)), okH3.wk (eleUrn hB.cle), us, ds, hD3, (rD.ex e2).at t3, ?_⟩
        rw [take_succ_of hx]
        rcases hbm with hbm | hbm
        · cases hbm
        · exact .skip dr hbm
  · have hin : i = xs.length := by omega
    subst hin
    refine .inl ⟨(wk _ H' eb).2 (by rw [List.length_map]), ?_⟩
    rw [List.take_length] at dr
    have okf := (ok.mono e1).drawn f' ok'.urnAt.1
    exact q D us H' ds (e1.free nD) ((Fu.of e1).trans f') okf dr hD rD
theorem en_lc (own : List (Str × Nat)) (may : Bool) (δ : Nat) (hi : DI X (uG a c Γt) tg iter (xs.map enc)) (hb : ∀ i x, xs[i]? = some x → ∃ c1 B js, BlkU X scope Γt tg elt ifs (own.map (·.2)) enc a (c + i * δ) c1 (c + (i + 1) * δ) may Pr x B js) (hz : xs.length ≤ 100000) (hk : blkC X.N X.env.scope scope own = true := by kernel_rfl)
    (hN : X.N.Nodup := by assumption) (hc : X.calm = true := by rfl) (hs : ∀ x, foldedSetIterable iter X.env x = pure x := by intro _; rfl) : EN X Γt a c (c + xs.length * δ) (.ListComp elt [⟨tg, iter, ifs, 0⟩] scope pos) (Drew may Pr xs) := by
  obtain ⟨h1, h2, h3⟩ := lu_parts (X := X) (Γt := Γt) (tg := tg) (elt := elt) (ifs := ifs) (scope := scope) (own := own) (enc := enc) (a := a) (may := may) (Pr := Pr)
  exact PE.wk (pe_lc hc hN hi (blkOk_by hk) h1 h2 h3 hs) fun σ H Q h => lu_read hz hb σ H Q h
/-- x = [.. for ..] whose turns draw: a list to be read -/
theorem ch_lcR (own : List (Str × Nat)) (j : Nat) (may : Bool) (δ : Nat) {n : Str} {pn cpos : Pos} (hi : DI X (uG a c Γt) tg iter (xs.map enc)) (hb : ∀ i x, xs[i]? = some x → ∃ c1 B js, BlkU X scope Γt tg elt ifs (own.map (·.2)) enc a (c + i * δ) c1 (c + (i + 1) * δ) may Pr x B js) (hz : xs.length ≤ 100000) (hk : blkC X.N X.env.scope scope own = true := by kernel_rfl)
    (hj : X.N[j + 1]? = some n := by rfl) (hl : X.env.scope.names.lookup n = some .local := by rfl) (hsw : swapsWith (.ListComp elt [⟨tg, iter, ifs, 0⟩] scope cpos) (some (.Name n pn)) pos.line X.env = pure true := by exact sw_true rfl rfl rfl (by decide +kernel))
    (hN : X.N.Nodup := by assumption) (hc : X.calm = true := by rfl) (hs : ∀ x, foldedSetIterable iter X.env x = pure x := by intro _; rfl) : PS X (.Assign [.Name n pn] (.ListComp elt [⟨tg, iter, ifs, 0⟩] scope cpos) pos) (tCh X (uG a c Γt) fun z => ∃ ds, Drew may Pr xs ds ∧ z = uG a (c + xs.length * δ) (Γt.set j (.rdl ds))) := by
  obtain ⟨h1, h2, h3⟩ := lu_parts (X := X) (Γt := Γt) (tg := tg) (elt := elt) (ifs := ifs) (scope := scope) (own := own) (enc := enc) (a := a) (may := may) (Pr := Pr)
  refine PS.wk (ps_setLc hc hN hj hl hsw hi (blkOk_by hk) h1 h2 h3 hs) fun D σ H ⟨H0, ok, q⟩ => ?_
  refine lu_read hz hb σ H (fun v H' => D.nx (σ.set (j + 1) (some v)) H') ⟨H0, ok, fun p us H' ds np f ok' hd hp r => ?_⟩
  obtain ⟨Hb, b1, b2, b3, b4, b5⟩ := ok'.max
  refine q (uG a (c + xs.length * δ) (Γt.set j (.rdl ds))) Hb _ H' ⟨ds, hd, rfl⟩ b1 (b3.putR (i := j + 1) (b4 p _ hp fun i hi => ?_) (r.at b5))
  refine ok.fresh np i ?_
  obtain ⟨i1, o, i2⟩ := hi
  cases i with
  | zero => exact ⟨i1, _, rfl⟩
  | succ i => exact ⟨i1, o, i2⟩
end
section
variable {X : Cx} {Γt : List Cell} {a : Addr} {c c1 c2 c' : Nat} {e : Expr} {es : List Expr} {d : PyData} {Pr Pr' : PyData → Prop} {PP PQ : List PyData → Prop} {p pos pn : Pos} {n nu : Str} {k δ : Nat} {ps : List Str} {ds : List PyData}
theorem EN.to (h : EN X Γt a c c1 e PP) (i : ∀ d, PP d → PQ d) : EN X Γt a c c1 e PQ := PE.wk h fun σ H Q ⟨H0, ok, q⟩ => ⟨H0, ok, fun p us H' ds np f ok1 hd hp r1 => q p us H' ds np f ok1 (i ds hd) hp r1⟩
theorem EN.up (h : EN X Γt a c c1 e PP) (hc : c1 ≤ c2) : EN X Γt a c c2 e PP := PE.wk h fun σ H Q ⟨H0, ok, q⟩ => ⟨H0, ok, fun p us H' ds np f ok1 hd hp r1 => q p us H' ds np f (ok1.wk (eleUrn hc)) hd hp r1⟩
/-- tuple(a list made by drawing) -/
theorem eu_tupL (h : EN X Γt a c c' e PP) (hm : X.mg "tuple" = none) (hg : Gl X "tuple" := by rfl) (hs : starEach [e] X.env = (false, eval e X.env) :: starEach [] X.env := by rfl) (hpl : (backTo pos (starEach [] X.env)).any (·.1) = false := by rfl) : EU X Γt a c c' (.Call (.Name "tuple" p) [e] [] pos) (fun d => ∃ ds, PP ds ∧ d = .tuple ds) :=
  PE.wk (pe_callTy call_tuple_of hg hm (by decide +kernel) (pa_cons h pa_nil hs) (by decide) (by decide) hs hpl) fun σ H Q ⟨H0, ok, q⟩ => ⟨H0, ok, fun p us H1 ds np f ok1 hd hp r1 =>
    ⟨p, us, rfl, .inl ⟨.of hp, fun l hl => q _ _ _ (f.trans (.of (sameNew hl))) (ok1.mono (sameNew hl)) ⟨ds, hd, rfl⟩ (.tup (.of upd_same) (r1.ex (sameNew hl)))⟩⟩⟩
/-- all(..) of what is all True -/
theorem eu_all (h : EN X Γt a c c' e PP) (hb : ∀ ds, PP ds → ∃ bs : List Bool, ds = bs.map .bool ∧ Pr (.bool (bs.all id))) (hm : X.mg "all" = none) (hc : X.calm = true := by rfl) (hg : Gl X "all" := by rfl) (hs : starEach [e] X.env = (false, eval e X.env) :: starEach [] X.env := by rfl) (hpl : (backTo pos (starEach [] X.env)).any (·.1) = false := by rfl) : EU X Γt a c c' (.Call (.Name "all" p) [e] [] pos) Pr :=
  PE.wk (pe_callB (cr_all hc) hg hm (by decide +kernel) (pa_cons h pa_nil hs) (by decide) (by decide) hs hpl) fun σ H Q ⟨H0, ok, q⟩ => ⟨H0, ok, fun p us H1 ds np f ok1 hd hp r1 => by
    obtain ⟨bs, rfl, hpr⟩ := hb ds hd
    rw [r1.bools] at hp
    exact ⟨p, bs, rfl, .of hp, q _ H1 _ f ok1 hpr (.bl _)⟩⟩
/-- no tests -/
theorem um_nil {may : Bool} : PTs X [] (tUm X.prog X.w X.K Γt a c c may) := PTs.wk pts_nil fun σ H Q ⟨H0, ok, q⟩ => q true H (.inl rfl) (.of (Same.refl H)) ok
theorem um_one {t : Expr} (h : PT X t (tUt X.prog X.w X.K Γt a c c')) : PTs X [t] (tUm X.prog X.w X.K Γt a c c' true) := PTs.wk (pts_one h) fun σ H Q ⟨H0, ok, q⟩ => ⟨H0, ok, fun b H' f ok' => q b H' (.inr rfl) f ok'⟩
end
/-! ### a def that draws, from its start -/
theorem argsT {K : PySem.W.Frag} {H : Hp} : ∀ {vs : List V} {ds : List PyData}, TDs K H vs ds → ArgsOk K H vs (ds.map .t)
  | _, [], h => by cases h; exact .nil
  | _, _ :: _, h => by
    cases h with
    | cons h1 h2 => exact .cons h1 (argsT h2)
theorem ArgsOk.same {K : PySem.W.Frag} {H H' : Hp} (e : Same H H') : ∀ {vs : List V} {as : List Arg}, ArgsOk K H vs as → ArgsOk K H' vs as
  | _, _, .nil => .nil
  | _, _, .cons h r => .cons (h.ex e) (ArgsOk.same e r)
/-- the slots at the start: the urn, the arguments (read in a base without the urn) -/
theorem env_startU {P : Program} {w : World} {K : PySem.W.Frag} {Hb H : Hp} {N : List Str} {x : Str} {vs : List V} {as : List Arg} {a : Addr} {c : Nat} (h : ArgsOk K Hb vs as) (e : Same Hb H) (n : Hb a = none) (u : UrnAt H a c) : EnvOk P w K Hb H (L2.start (x :: N) (.ref a :: vs)) (uG a c (cellsOf N as)) := by
  have ok0 : EnvOk P w K Hb H (L2.start N vs) (cellsOf N as) := (env_start (P := P) (w := w) (N := N) h).mono e
  have es : L2.start (x :: N) (.ref a :: vs) = some (.ref a) :: L2.start N vs := by
    have hx : (x :: N).length - (V.ref a :: vs).length = N.length - vs.length := by simp
    unfold L2.start
    rw [hx]; rfl
  rw [es]
  refine ⟨e, by simp [ok0.len], fun i cl x' h1 h2 => ?_, fun i j b hi hj => ?_⟩
  · cases i with
    | zero =>
      cases h1
      cases h2
      exact ⟨a, rfl, n, u, rfl⟩
    | succ i => exact ok0.at_ i cl x' h1 h2
  · have no : ∀ i, ¬ OwnAt (some (V.ref a) :: L2.start N vs) (uG a c (cellsOf N as)) (i + 1) b := fun i ⟨_, o, hc⟩ => by
      have hc' : (cellsOf N as)[i]? = some (.own o) := hc
      unfold cellsOf at hc'
      by_cases hi : i < as.length
      · rw [List.getElem?_append_left (by simpa using hi), List.getElem?_map] at hc'
        obtain ⟨z, _, ec⟩ := Option.map_eq_some_iff.mp hc'
        cases z <;> cases ec
      · rw [List.getElem?_append_right (by simp; omega), List.getElem?_replicate] at hc'
        split at hc' <;> cases hc'
    cases i with
    | zero =>
      cases j with
      | zero => rfl
      | succ j => exact absurd hj (no j)
    | succ i => exact absurd hi (no i)
section
variable {P : Program} {w : World} {K : PySem.W.Frag} {mg : Str → Option Value} {base : Heap} {x : Str} {i k δ : Nat} {N ps : List Str} {nu : Str}
theorem okU' {R : List PyData → (PyData → Prop) → Prop} (D : DefAt K mg x i ps) (S : FnScope (nu :: N) ps (defScope (top i))) (hl : ∀ ds Pr, R ds Pr → ds.length + 1 = ps.length)
    (hb : (nu :: N).Nodup → ∀ (f : Addr) (cdv : Value) (A : Around) (outer : List Env) (s : Shared) (H : Hp) (E : XK), Room k (BX P w K mg base (nu :: N) x (top i) f cdv A outer s H E).A → ∀ (a : Addr) (c : Nat) ds Pr, R ds Pr → c + δ ≤ 2 ^ 60 → UR (BX P w K mg base (nu :: N) x (top i) f cdv A outer s H E) (uG a c (cellsOf N (ds.map .t))) (defBody (top i)) a (c + δ) Pr) : OkU P w K mg base x (k + 1) ps δ R := by
  obtain ⟨f, fd, F, h1, h2⟩ := D
  refine ⟨f, fd, F.ok S (fun vs H Q E h => ?_) (fun cdv A outer s H vs Q E hr h => ?_), h1, F.kp, h2⟩
  · obtain ⟨a, ws, ds, Pr, c, rfl, r, hR, _⟩ := h
    rw [List.length_cons, r.length, hl ds Pr hR]
  · obtain ⟨a, ws, ds, Pr, c, rfl, r, hR, hc, hu, q⟩ := h
    refine ⟨_, hb S.nd f cdv A outer s H E hr a c ds Pr hR hc, bU H a, env_startU ((argsT ?_)) bU_same bU_none hu, fun v H' d e1 hu' hd r' => q v H' d (fun b u n hb => e1 b u (by rw [bU_at n]; exact hb)) hu' hd r'⟩
    obtain ⟨x', y', z', hu', _⟩ := hu
    exact r.at (bU_tup hu')
end
end K54
set_option Elab.async false
set_option linter.all false
set_option autoImplicit false
set_option maxRecDepth 100000
set_option maxHeartbeats 2000000
/-! K54: the urn, 7: statements that draw; data of any kind, drawn -/
namespace K54
open PySem PySem.Spec PyProof.Rows L2
theorem OwnAt.urnUp {σ : L2.St} {Γt : List Cell} {a b : Addr} {c c' : Nat} {i : Nat} (h : OwnAt σ (uG a c Γt) i b) : OwnAt σ (uG a c' Γt) i b := by
  obtain ⟨i1, o, i2⟩ := h
  cases i with
  | zero => exact ⟨i1, _, rfl⟩
  | succ i => exact ⟨i1, o, i2⟩
section
variable {X : Cx} {Γ Γ1 Γt : List Cell} {N N' : List Cell → Prop} {a : Addr} {c c1 c2 c' : Nat} {P1 P2 Pr Pr' : PyData → Prop} {PP : List PyData → Prop} {st : Stmt} {rest th el : List Stmt} {e e1 e2 t : Expr} {pos : Pos} {d : PyData} {ds : List PyData}
/-- x = a new list made by drawing: owned -/
theorem ch_setO (i : Nat) {n : Str} {pn : Pos} (h : EN X Γt a c c' e PP) (hi : X.N[i + 1]? = some n := by rfl) (hN : X.N.Nodup := by assumption) (hx : Loc X.env.scope n := by first | exact .inl rfl | exact .inr rfl) (hs : swapsWith e (some (.Name n pn)) pos.line X.env = pure false := by rfl) (hf : X.fn n = true ∨ X.env.scope.names.lookup n = some .local := by first | exact .inl rfl | exact .inr rfl) :
    PS X (.Assign [.Name n pn] e pos) (tCh X (uG a c Γt) fun z => ∃ ds, PP ds ∧ z = uG a c' (Γt.set i (.own (.lst ds)))) :=
  PS.wk (ps_set hN hi hx h hs hf) fun D σ H ⟨H0, ok, q⟩ => ⟨H0, ok, fun p us H1 ds np f ok1 hd hp r1 => q _ H0 _ H1 ⟨ds, hd, rfl⟩ (Same.refl H0) (ok1.put (i := i + 1) ⟨p, rfl, ok.ex.free np, us, hp, r1⟩ fun b o e1 e2 j _ hj => by
    cases e1
    exact ok.fresh np j hj.urnUp)⟩
/-- [e], e draws -/
theorem en_lst1 (h : EU X Γt a c c' e Pr) (hs : starEach [e] X.env = (false, eval e X.env) :: starEach [] X.env := by rfl) : EN X Γt a c c' (.List [e] pos) (fun ds => ∃ d, Pr d ∧ ds = [d]) :=
  PE.wk (pe_lst (eus_cons h eus_nil hs)) fun σ H Q ⟨H0, ok, q⟩ => ⟨H0, ok, fun vs H1 ds f ok1 hds r1 => by
    obtain ⟨d, ds', hd, rfl, rfl⟩ := hds
    refine ⟨by rw [r1.length]; show 1 ≤ sizeLine; decide, fun p hp => q p vs _ [d] ?_ (f.trans (.of (sameNew hp))) (ok1.mono (sameNew hp)) ⟨d, hd, rfl⟩ upd_same (r1.ex (sameNew hp))⟩
    cases hh : H p with
    | none => rfl
    | some u =>
      by_cases e : p = a
      · obtain ⟨⟨x, y, z, hu, _⟩, _⟩ := ok1.urnAt
        rw [e] at hp
        rw [hp] at hu; cases hu
      · rw [f p u e hh] at hp; cases hp⟩
/-- a, b = e1, e2; both draw -/
theorem ch_par (i j : Nat) {n m : Str} {pn pm pt pt2 : Pos} {kt k2 : Nat} (ha : EU X Γt a c c1 e1 P1) (hb : EU X Γt a c1 c2 e2 P2) (hij : i + 1 ≠ j + 1 := by decide) (hi : X.N[i + 1]? = some n := by rfl) (hj : X.N[j + 1]? = some m := by rfl) (hN : X.N.Nodup := by assumption) (hn : X.env.scope.names.lookup n = some .local := by rfl) (hm : X.env.scope.names.lookup m = some .local := by rfl)
    (hw : swappedStores [.Tuple [.Name n pn, .Name m pm] kt pt] (.Tuple [e1, e2] k2 pt2) X.env = pure (some [n, m]) := by rfl) (hs : swapsWithSole [.Tuple [.Name n pn, .Name m pm] kt pt] (.Tuple [e1, e2] k2 pt2) pos.line X.env = pure false := by rfl) (hc : X.calm = true := by rfl)
    (hs1 : starEach [e1, e2] X.env = (false, eval e1 X.env) :: starEach [e2] X.env := by rfl) (hs2 : starEach [e2] X.env = (false, eval e2 X.env) :: starEach [] X.env := by rfl) :
    PS X (.Assign [.Tuple [.Name n pn, .Name m pm] kt pt] (.Tuple [e1, e2] k2 pt2) pos) (tCh X (uG a c Γt) fun z => ∃ x y, P1 x ∧ P2 y ∧ z = uG a c2 ((Γt.set i (.dat x)).set j (.dat y))) :=
  PS.wk (ps_par hc hN hi hj hij hn hm (pa_cons ha (pa_cons hb pa_nil hs2) hs1) hw hs) fun D σ H ⟨H0, ok, q⟩ => ⟨H0, ok, fun u H1 x f1 ok1 hx r1 => ⟨H0, ok1, fun v H2 y f2 ok2 hy r2 => ⟨u, v, rfl, q _ H0 _ H2 ⟨x, y, hx, hy, rfl⟩ (Same.refl H0) ((ok2.putD (i := i + 1) (r1.at (ok1.tupF f2))).putD (i := j + 1) r2)⟩⟩⟩
/-- xs.append(e), e draws -/
theorem ch_app (i : Nat) {n : Str} {pn apos cpos : Pos} (h : EU X Γt a c c' e Pr) (hz : ds.length ≤ 100000) (hc : Γt[i]? = some (.own (.lst ds)) := by rfl) (hN : X.N[i + 1]? = some n := by rfl) (hv : Vis X.env.scope n := by first | exact Or.inl rfl | exact Or.inr (Or.inl rfl) | exact Or.inr (Or.inr rfl)) (hd : (n == ("__debug__" : Str)) = false := by decide) (hcd : (n == ("__classdict__" : Str)) = false := by decide)
    (hbase : attributeBase (.Name n pn) "append" X.env (eval (.Name n pn) X.env) = eval (.Name n pn) X.env := by rfl)
    (hfew : ((backTo cpos (starEach [e] X.env)).all (fun x => !x.1) && (backToKw cpos (keywordEach [] X.env)).all (fun x => x.1.isSome) && decide (([e] : List Expr).length + ([] : List Keyword).length + (if ([] : List Keyword).isEmpty then 0 else 1) < 30)) = true := by rfl)
    (hline : (apos.endLine == cpos.line) = true := by rfl) (hse : starEach [e] X.env = (false, eval e X.env) :: starEach [] X.env := by rfl) (hplain : (backTo cpos (starEach [] X.env)).any (·.1) = false := by rfl) (hs : swapsWith (.Call (.Attribute (.Name n pn) "append" apos) [e] [] cpos) none pos.line X.env = pure false := by rfl) :
    PS X (.Expr (.Call (.Attribute (.Name n pn) "append" apos) [e] [] cpos) pos) (tCh X (uG a c Γt) fun z => ∃ d, Pr d ∧ z = uG a c' (Γt.set i (.own (.lst (ds ++ [d]))))) :=
  PS.wk (ps_expr (pe_bm PySem.F.plainAttrs_list PySem.F.slot_list_append PySem.F.type_list_append mt_append (pe_var hN hv hd hcd) (pa_cons h pa_nil hse) hbase hfew hline hse hplain) hs) fun D σ H ⟨H0, ok, q⟩ => by
    obtain ⟨p, ep, np, vs, hp, rp⟩ := ok.own (i := i + 1) (o := .lst ds) hc
    refine ⟨.ref p, ep, .inl ⟨rfl, _, .of hp⟩, H0, ok, fun v H1 d f ok1 hd r1 => ?_⟩
    obtain ⟨p', ep', _, vs', hp', rp'⟩ := ok1.own (i := i + 1) (o := .lst ds) hc
    rw [ep] at ep'
    cases ep'
    refine ⟨p, vs', v, rfl, rfl, hp', by rw [rp'.length]; exact Nat.lt_of_le_of_lt hz (by decide), q _ H0 σ _ ⟨d, hd, rfl⟩ (Same.refl H0) ?_⟩
    have t : TupEx H1 (upd H1 p (.lst (vs' ++ [v]))) := TupEx.write (lstNoTup hp')
    exact ok1.write (i := i + 1) ⟨ep, _, hc⟩ ⟨vs' ++ [v], upd_same, (rp'.at t).append (.cons (r1.at t) .nil)⟩
/-- xs[k] = e, e draws, xs owned -/
theorem ch_store (i : Nat) (k : Nat) {n : Str} {ki : Expr} {pn ps : Pos} (h : EU X Γt a c c' e Pr) (hk : DE X (uG a c' Γt) ki (eN k)) (hl : k < ds.length) (hc : Γt[i]? = some (.own (.lst ds)) := by rfl) (hN : X.N[i + 1]? = some n := by rfl) (hv : Vis X.env.scope n := by first | exact Or.inl rfl | exact Or.inr (Or.inl rfl) | exact Or.inr (Or.inr rfl)) (hd : (n == ("__debug__" : Str)) = false := by decide) (hcd : (n == ("__classdict__" : Str)) = false := by decide)
    (ha : ∀ v, assign (.Subscript (.Name n pn) ki ps) X.env v = (do
      let ov ← holding [v] (eval (.Name n pn) X.env)
      let iv ← holding [v, ov] (eval ki X.env)
      standAt ps
      holding [v, ov, iv] (setItem ov iv v)
      release [v, ov, iv] []) := by intro _; rfl)
    (hs : swapsWithSole [.Subscript (.Name n pn) ki ps] e pos.line X.env = pure false := by rfl) (hw : swappedStores [.Subscript (.Name n pn) ki ps] e X.env = pure none := by rfl) (h1 : (assignEach [.Subscript (.Name n pn) ki ps] X.env).map (·.2) = [assign (.Subscript (.Name n pn) ki ps) X.env] := by rfl) :
    PS X (.Assign [.Subscript (.Name n pn) ki ps] e pos) (tCh X (uG a c Γt) fun z => ∃ d, Pr d ∧ z = uG a c' (Γt.set i (.own (.lst (ds.set k d))))) :=
  PS.wk (ps_asg h (pg_sub (pe_var hN hv hd hcd) hk set_list ha) hs hw h1) fun D σ H ⟨H0, ok, q⟩ => ⟨H0, ok, fun v H1 d f ok1 hd r1 => by
    obtain ⟨p, ep, np, vs, hp, rp⟩ := ok1.own (i := i + 1) (o := .lst ds) hc
    refine ⟨.ref p, ep, H0, ok1, fun kv H2 e2 rk => ?_⟩
    cases rk
    have ok2 := ok1.mono e2
    have hp2 := e2 _ _ hp
    have hlen := rp.length
    refine ⟨p, vs, (k : Int), k, rfl, rfl, hp2, ?_, q _ H0 σ _ ⟨d, hd, rfl⟩ (Same.refl H0) ?_⟩
    · unfold ixN
      rw [if_pos (by omega), if_pos (by omega), Int.toNat_natCast]
    · have t : TupEx H2 (upd H2 p (.lst (vs.set k v))) := TupEx.write (lstNoTup hp2)
      exact ok2.write (i := i + 1) ⟨ep, _, hc⟩ ⟨vs.set k v, upd_same, ((rp.ex e2).at t).set k ((r1.ex e2).at t)⟩⟩
/-- an if whose test draws -/
theorem ch_ifU (hc : PT X t (tUt X.prog X.w X.K Γt a c c')) (h1 : CH X (uG a c' Γt) th N) (h2 : CH X (uG a c' Γt) el N) : PS X (.If t th el pos) (tCh X (uG a c Γt) N) :=
  PS.wk (ps_if hc h1 h2) fun D σ H ⟨H0, ok, q⟩ => ⟨H0, ok, fun b H1 f ok1 => by
    cases b with
    | true => exact iteT ⟨H0, ok1, q⟩
    | false => exact iteF ⟨H0, ok1, q⟩⟩
/-- if: return, and what follows -/
theorem ur_if {b : Bool} {Γ : List Cell} (hc : DT X Γ t b) (h1 : b = true → UR X Γ th a c' Pr) (h2 : b = false → UR X Γ rest a c' Pr) : UR X Γ (.If t th [] pos :: rest) a c' Pr := by
  cases b with
  | true =>
    refine PSs.wk (pss_cons (ps_if hc (h1 rfl) pss_nil) pss_never) fun D σ H ⟨H0, ok, q⟩ => ⟨H0, ok, fun H1 e1 => iteT ⟨H0, ok.mono e1, q⟩⟩
  | false => exact ur_cons (ds_if (o := .nx Γ) hc (fun z => nomatch z) fun _ => dss_nil) (h2 rfl)
theorem ur_retD {d : PyData} {Γt : List Cell} (h : DE X (uG a c Γt) e d) (hp : Pr d) : UR X (uG a c Γt) [.Return (some e) pos] a c Pr := ur_ret (EU.to h.eu fun z hz => by rw [hz]; exact hp)
end
/-! ### data of any kind, drawn -/
/-- no slot is owned -/
def noOwns : List Cell → Prop
  | [] => True
  | .own _ :: _ => False
  | .un :: r => noOwns r
  | .dat _ :: r => noOwns r
  | .gd _ :: r => noOwns r
  | .rdl _ :: r => noOwns r
theorem noOwns_at : ∀ {Γt : List Cell} {i : Nat} {o : Own}, noOwns Γt → Γt[i]? ≠ some (.own o)
  | [], _, _, _, h => by simp at h
  | c :: r, 0, o, n, h => by
    simp at h
    subst h
    exact n
  | c :: r, i + 1, o, n, h => by
    cases c with
    | own _ => exact n
    | un => exact noOwns_at (Γt := r) (i := i) n (by simpa using h)
    | dat _ => exact noOwns_at (Γt := r) (i := i) n (by simpa using h)
    | gd _ => exact noOwns_at (Γt := r) (i := i) n (by simpa using h)
    | rdl _ => exact noOwns_at (Γt := r) (i := i) n (by simpa using h)
/-- the base grew, the urn was written, nothing else is owned -/
theorem EnvOk.urnBase {P : Program} {w : World} {K : PySem.W.Frag} {H0 Hb H H' : Hp} {σ : L2.St} {Γt : List Cell} {a : Addr} {c c' : Nat} (ok : EnvOk P w K H0 H σ (uG a c Γt)) (no : noOwns Γt) (f : Fu a H H') (b1 : Same H0 Hb) (b2 : Same Hb H') (n : Hb a = none) (u : UrnAt H' a c') : EnvOk P w K Hb H' σ (uG a c' Γt) := by
  have ok' := ok.drawn f u
  refine ⟨b2, ok'.len, fun i cl x h1 h2 => ?_, ok'.apart⟩
  have r := ok'.at_ i cl x h1 h2
  cases cl with
  | un => trivial
  | dat d => exact r
  | gd d => obtain ⟨v, e, q⟩ := r; exact ⟨v, e, dpEx b1 q⟩
  | rdl ds => obtain ⟨a, vs, e, q, q2⟩ := r; exact ⟨a, vs, e, b1 _ _ q, q2.ex b1⟩
  | own o =>
    cases i with
    | zero =>
      obtain ⟨b, e, nb, q⟩ := r
      have eo : Cell.own (.urn a c') = .own o := Option.some.inj h1
      cases eo
      obtain ⟨q1, rfl⟩ := q
      exact ⟨b, e, n, q1, rfl⟩
    | succ i => exact absurd (show Γt[i]? = some (.own o) from h1) (noOwns_at no)
def tW (P : Program) (w : World) (K : PySem.W.Frag) (Γt : List Cell) (a : Addr) (c c' : Nat) (Pr : PyData → Prop) : TE := fun σ H Q => ∃ H0, EnvOk P w K H0 H σ (uG a c Γt) ∧ ∀ v H' Hb d, Fu a H H' → Same H0 Hb → EnvOk P w K Hb H' σ (uG a c' Γt) → Pr d → Dp K Hb v d → Q v H'
/-- e draws; its value is data of any kind -/
abbrev EX (X : Cx) (Γt : List Cell) (a : Addr) (c c' : Nat) (e : Expr) (Pr : PyData → Prop) : Prop := PE X e (tW X.prog X.w X.K Γt a c c' Pr)
def spX (K : PySem.W.Frag) (δ : Nat) (R : List Arg → (PyData → Prop) → Prop) : Sp := fun vs H Q _ => ∃ a ws as Pr c Hb, vs = .ref a :: ws ∧ ArgsOk K Hb ws as ∧ Same Hb H ∧ Hb a = none ∧ R as Pr ∧ c + δ ≤ 2 ^ 60 ∧ UrnAt H a c ∧ ∀ v H' Hc d, Fu a H H' → Same Hb Hc → Same Hc H' → Hc a = none → UrnAt H' a (c + δ) → Pr d → Dp K Hc v d → Q v H'
def OkX (P : Program) (w : World) (K : PySem.W.Frag) (mg : Str → Option Value) (base : Heap) (x : Str) (k : Nat) (ps : List Str) (δ : Nat) (R : List Arg → (PyData → Prop) → Prop) : Prop := ∃ f fd, FnOk P w K mg base CX0 k f fd ps (spX K δ R) ∧ mg x = some (.ref f) ∧ PySem.W.keepIn K (.ref f) = true ∧ Binds K fd ps []
/-- what is handed back is data of any kind -/
def tWr (X : Cx) (Γ : List Cell) (a : Addr) (c' : Nat) (Pr : PyData → Prop) : TS := fun D σ H => ∃ H0, EnvOk X.prog X.w X.K H0 H σ Γ ∧ ∀ v H' Hb d, Same H0 Hb → Same Hb H' → Hb a = none → UrnAt H' a c' → Pr d → Dp X.K Hb v d → D.rt v H'
abbrev XR (X : Cx) (Γ : List Cell) (sts : List Stmt) (a : Addr) (c' : Nat) (Pr : PyData → Prop) : Prop := PSs X sts (tWr X Γ a c' Pr)
section
variable {P : Program} {w : World} {K : PySem.W.Frag} {mg : Str → Option Value} {base : Heap} {x : Str} {i k δ : Nat} {N ps : List Str} {nu : Str}
theorem okX' {R : List Arg → (PyData → Prop) → Prop} (D : DefAt K mg x i ps) (S : FnScope (nu :: N) ps (defScope (top i))) (hl : ∀ ds Pr, R ds Pr → ds.length + 1 = ps.length)
    (hb : (nu :: N).Nodup → ∀ (f : Addr) (cdv : Value) (A : Around) (outer : List Env) (s : Shared) (H : Hp) (E : XK), Room k (BX P w K mg base (nu :: N) x (top i) f cdv A outer s H E).A → ∀ (a : Addr) (c : Nat) as Pr, R as Pr → c + δ ≤ 2 ^ 60 → XR (BX P w K mg base (nu :: N) x (top i) f cdv A outer s H E) (uG a c (cellsOf N as)) (defBody (top i)) a (c + δ) Pr) : OkX P w K mg base x (k + 1) ps δ R := by
  obtain ⟨f, fd, F, h1, h2⟩ := D
  refine ⟨f, fd, F.ok S (fun vs H Q E h => ?_) (fun cdv A outer s H vs Q E hr h => ?_), h1, F.kp, h2⟩
  · obtain ⟨a, ws, as, Pr, c, Hb, rfl, r, _, _, hR, _⟩ := h
    rw [List.length_cons, r.length, hl as Pr hR]
  · obtain ⟨a, ws, as, Pr, c, Hb, rfl, r, e, n, hR, hc, hu, q⟩ := h
    exact ⟨_, hb S.nd f cdv A outer s H E hr a c as Pr hR hc, bU H a, env_startU (r.same fun b u hb => (by rw [bU_at (ne_of_none hb n)]; exact e b u hb)) bU_same bU_none hu, fun v H' Hc d b1 b2 n2 hu' hd r' => q v H' Hc d (fun b u nb hb => b2 b u (b1 b u (by rw [bU_at nb]; exact hb))) (fun b u hb => b1 b u (by rw [bU_at (ne_of_none hb n)]; exact e b u hb)) b2 n2 hu' hd r'⟩
end
section
variable {X : Cx} {Γ Γ1 Γt : List Cell} {N : List Cell → Prop} {a : Addr} {c c1 c2 c' : Nat} {P1 P2 Pr Pr' : PyData → Prop} {PP : List PyData → Prop} {st : Stmt} {rest th el : List Stmt} {e e1 e2 t : Expr} {es : List Expr} {p pos pn : Pos} {d : PyData} {ds : List PyData} {n nu : Str} {k δ : Nat} {ps : List Str} {as : List Arg}
theorem EX.to (h : EX X Γt a c c1 e Pr) (i : ∀ d, Pr d → Pr' d) : EX X Γt a c c1 e Pr' := PE.wk h fun σ H Q ⟨H0, ok, q⟩ => ⟨H0, ok, fun v H1 Hb d f b ok1 hd r1 => q v H1 Hb d f b ok1 (i d hd) r1⟩
theorem EX.up (h : EX X Γt a c c1 e Pr) (hc : c1 ≤ c2) : EX X Γt a c c2 e Pr := PE.wk h fun σ H Q ⟨H0, ok, q⟩ => ⟨H0, ok, fun v H1 Hb d f b ok1 hd r1 => q v H1 Hb d f b (ok1.wk (eleUrn hc)) hd r1⟩
theorem DB.ex (h : DB X (uG a c Γt) e d) : EX X Γt a c c e (fun z => z = d) := PE.wk h fun σ H Q ⟨H0, ok, q⟩ => ⟨H0, ok, fun v H1 Hb e1 b1 _ ok1 r1 => q v H1 Hb d (.of e1) b1 ok1 rfl r1⟩
theorem EX.max (h : EX X Γt a c c' e Pr) : EX X Γt a c c' e Pr := h
theorem xr_cons (h1 : DS X Γ st (.nx Γ1)) (h2 : XR X Γ1 rest a c' Pr) : XR X Γ (st :: rest) a c' Pr := PSs.wk (pss_cons h1 h2) fun D σ H ⟨H0, ok, q⟩ => ⟨H0, ok, fun Hb σ' H' e ok' => ⟨Hb, ok', fun v H2 Hc d b1 b2 n hu hd r => q v H2 Hc d (e.trans b1) b2 n hu hd r⟩⟩
theorem xr_ch (h1 : PS X st (tCh X Γ N)) (h2 : ∀ Γ', N Γ' → XR X Γ' rest a c' Pr) : XR X Γ (st :: rest) a c' Pr := by
  have hE : PSs X rest (fun D σ H => ∃ z : { Γ' // N Γ' }, tWr X z.1 a c' Pr D σ H) := PSs.ex fun z => h2 z.1 z.2
  exact PSs.wk (pss_cons h1 hE) fun D σ H ⟨H0, ok, q⟩ => ⟨H0, ok, fun Γ' Hb σ' H' hn e ok' => ⟨⟨Γ', hn⟩, Hb, ok', fun v H2 Hc d b1 b2 n hu hd r => q v H2 Hc d (e.trans b1) b2 n hu hd r⟩⟩
theorem xr_ret (h : EX X Γt a c c' e Pr) : XR X (uG a c Γt) [.Return (some e) pos] a c' Pr := pss_one (PS.wk (ps_ret h) fun D σ H ⟨H0, ok, q⟩ => ⟨H0, ok, fun v H1 Hb d f b1 ok1 hd r => q v H1 Hb d b1 ok1.ex ok1.urnAt.2.1 ok1.urnAt.1 hd r⟩)
theorem XR.up (h : XR X Γ rest a c1 Pr) (hc : c1 ≤ c') : XR X Γ rest a c' Pr := PSs.wk h fun D σ H ⟨H0, ok, q⟩ => ⟨H0, ok, fun v H1 Hb d b1 b2 n ⟨x, y, z, h1, h2, h3⟩ hd r => q v H1 Hb d b1 b2 n ⟨x, y, z, h1, h2, by omega⟩ hd r⟩
theorem xr_if {b : Bool} (hc : DT X Γ t b) (h1 : b = true → XR X Γ th a c' Pr) (h2 : b = false → XR X Γ rest a c' Pr) : XR X Γ (.If t th [] pos :: rest) a c' Pr := by
  cases b with
  | true => exact PSs.wk (pss_cons (ps_if hc (h1 rfl) pss_nil) pss_never) fun D σ H ⟨H0, ok, q⟩ => ⟨H0, ok, fun H1 e1 => iteT ⟨H0, ok.mono e1, q⟩⟩
  | false => exact xr_cons (ds_if (o := .nx Γ) hc (fun z => nomatch z) fun _ => dss_nil) (h2 rfl)
/-- if: return, and what follows; the test draws -/
theorem xr_ifU (hc : PT X t (tUt X.prog X.w X.K Γt a c c1)) (h1 : XR X (uG a c1 Γt) th a c' Pr) (h2 : XR X (uG a c1 Γt) rest a c' Pr) : XR X (uG a c Γt) (.If t th [] pos :: rest) a c' Pr := by
  refine PSs.wk (pss_cons (ps_if hc (PSs.wk h1 (t' := fun D σ H => ∃ H0, EnvOk X.prog X.w X.K H0 H σ (uG a c1 Γt) ∧ ∀ v H' Hb d, Same H0 Hb → Same Hb H' → Hb a = none → UrnAt H' a c' → Pr d → Dp X.K Hb v d → D.rt v H') fun D σ H h => h) pss_nil) h2) fun D σ H ⟨H0, ok, q⟩ => ⟨H0, ok, fun b H1 f ok1 => ?_⟩
  cases b with
  | true => exact iteT ⟨H0, ok1, q⟩
  | false => exact iteF ⟨H0, ok1, q⟩
/-- a def is called with the urn, hands back data of any kind; nothing else is owned here -/
theorem ex_fn {R : List Arg → (PyData → Prop) → Prop} (O : OkX X.prog X.w X.K X.mg X.base n k ps δ R) (hr : Room k X.A) (no : noOwns Γt) (ha : DAr X (uG a c Γt) es (ds.map .t)) (hR : R (ds.map .t) Pr) (hc : c + δ ≤ 2 ^ 60)
    (hN : X.N[0]? = some nu := by rfl) (hv : Vis X.env.scope nu := by first | exact Or.inl rfl | exact Or.inr (Or.inl rfl) | exact Or.inr (Or.inr rfl)) (hd : (nu == ("__debug__" : Str)) = false := by decide) (hcd : (nu == ("__classdict__" : Str)) = false := by decide)
    (hg : Gl X n := by rfl) (hdb : (n == ("__debug__" : Str)) = false := by decide) (he : starEach (.Name nu pn :: es) X.env = (false, eval (.Name nu pn) X.env) :: starEach es X.env := by rfl) (hpl : (backTo pos (starEach es X.env)).any (·.1) = false := by rfl) : EX X Γt a c (c + δ) (.Call (.Name n p) (.Name nu pn :: es) [] pos) Pr := by
  obtain ⟨f, fd, F, h1, h2, h3⟩ := O
  refine PE.wk (pe_call F hr hg h1 h2 h3 .nil pass0 (pa_cons (pe_var hN hv hd hcd) ha he) hdb he hpl) fun σ H Q ⟨H0, ok, q⟩ => ?_
  obtain ⟨hu, nn, es0⟩ := ok.urnAt
  refine ⟨.ref a, es0, H0, ok, fun vs H1 e1 r1 => ?_⟩
  have ok1 := ok.mono e1
  obtain ⟨x', y', z', hu1, _⟩ := ok1.urnAt.1
  have tds : ∀ {vs : List V} {ds : List PyData}, ArgsOk X.K H1 vs (ds.map .t) → ArgsOk X.K (bU H1 a) vs (ds.map .t) := by
    intro vs ds
    induction ds generalizing vs with
    | nil => intro h; cases h; exact .nil
    | cons d ds ih =>
      intro h
      cases h with
      | cons a1 a2 => exact .cons (TD.at (bU_tup hu1) a1) (ih a2)
  refine ⟨a, vs, ds.map .t, Pr, c, bU H1 a, by rw [List.append_nil], tds r1, bU_same, bU_none, hR, hc, ok1.urnAt.1, fun v H2 Hc d f2 b1 b2 n2 hu2 hd2 r2 => ?_⟩
  have b0 : Same H0 Hc := fun b u hb => b1 b u (by rw [bU_at (ne_of_none hb nn)]; exact ok1.ex b u hb)
  exact q v H2 Hc d ((Fu.of e1).trans f2) b0 (ok1.urnBase no f2 b0 b2 n2 hu2) hd2 r2
/-- the same, of one argument of any kind -/
theorem ex_fnG {R : List Arg → (PyData → Prop) → Prop} (O : OkX X.prog X.w X.K X.mg X.base n k ps δ R) (hr : Room k X.A) (no : noOwns Γt) (ha : DB X (uG a c Γt) e d) (hR : R [.g d] Pr) (hc : c + δ ≤ 2 ^ 60)
    (hN : X.N[0]? = some nu := by rfl) (hv : Vis X.env.scope nu := by first | exact Or.inl rfl | exact Or.inr (Or.inl rfl) | exact Or.inr (Or.inr rfl)) (hd : (nu == ("__debug__" : Str)) = false := by decide) (hcd : (nu == ("__classdict__" : Str)) = false := by decide)
    (hg : Gl X n := by rfl) (hdb : (n == ("__debug__" : Str)) = false := by decide) (he : starEach (.Name nu pn :: [e]) X.env = (false, eval (.Name nu pn) X.env) :: starEach [e] X.env := by rfl) (he2 : starEach [e] X.env = (false, eval e X.env) :: starEach [] X.env := by rfl) (hpl : (backTo pos (starEach [e] X.env)).any (·.1) = false := by rfl) : EX X Γt a c (c + δ) (.Call (.Name n p) (.Name nu pn :: [e]) [] pos) Pr := by
  obtain ⟨f, fd, F, h1, h2, h3⟩ := O
  refine PE.wk (pe_call F hr hg h1 h2 h3 .nil pass0 (pa_cons (pe_var hN hv hd hcd) (pa_cons ha pa_nil he2) he) hdb he hpl) fun σ H Q ⟨H0, ok, q⟩ => ?_
  obtain ⟨hu, nn, es0⟩ := ok.urnAt
  refine ⟨.ref a, es0, H0, ok, fun v H1 Hb e1 b1 _ ok1 r1 => ?_⟩
  refine ⟨a, [v], [.g d], Pr, c, Hb, rfl, .cons r1 .nil, ok1.ex, ok1.urnAt.2.1, hR, hc, ok1.urnAt.1, fun v H2 Hc d f2 b2 b3 n2 hu2 hd2 r2 => ?_⟩
  exact q v H2 Hc d ((Fu.of e1).trans f2) (b1.trans b2) (ok1.urnBase no f2 b2 b3 n2 hu2) hd2 r2
/-- the same, of one list of tuple data that is new; what is handed back is tuple data (other slots may be owned) -/
theorem eu_fnL {R : List Arg → (PyData → Prop) → Prop} (O : OkX X.prog X.w X.K X.mg X.base n k ps δ R) (hr : Room k X.A) (ha : DN X (uG a c Γt) e ds) (hR : R [.g (.list ds)] Pr) (ht : ∀ d, Pr d → tonly d = true) (hc : c + δ ≤ 2 ^ 60)
    (hN : X.N[0]? = some nu := by rfl) (hv : Vis X.env.scope nu := by first | exact Or.inl rfl | exact Or.inr (Or.inl rfl) | exact Or.inr (Or.inr rfl)) (hd : (nu == ("__debug__" : Str)) = false := by decide) (hcd : (nu == ("__classdict__" : Str)) = false := by decide)
    (hg : Gl X n := by rfl) (hdb : (n == ("__debug__" : Str)) = false := by decide) (he : starEach (.Name nu pn :: [e]) X.env = (false, eval (.Name nu pn) X.env) :: starEach [e] X.env := by rfl) (he2 : starEach [e] X.env = (false, eval e X.env) :: starEach [] X.env := by rfl) (hpl : (backTo pos (starEach [e] X.env)).any (·.1) = false := by rfl) : EU X Γt a c (c + δ) (.Call (.Name n p) (.Name nu pn :: [e]) [] pos) Pr := by
  obtain ⟨f, fd, F, h1, h2, h3⟩ := O
  refine PE.wk (pe_call F hr hg h1 h2 h3 .nil pass0 (pa_cons (pe_var hN hv hd hcd) (pa_cons ha pa_nil he2) he) hdb he hpl) fun σ H Q ⟨H0, ok, q⟩ => ?_
  obtain ⟨hu, nn, es0⟩ := ok.urnAt
  refine ⟨.ref a, es0, H0, ok, fun l us H1 nl e1 hl r1 => ?_⟩
  have ok1 := ok.mono e1
  obtain ⟨x', y', z', hu0, _⟩ := hu
  obtain ⟨x'', y'', z'', hu1, _⟩ := ok1.urnAt.1
  have nla : l ≠ a := fun e => by rw [e, hu0] at nl; cases nl
  refine ⟨a, [.ref l], [.g (.list ds)], Pr, c, bU H1 a, rfl, .cons (.lst (.of (by rw [bU_at nla]; exact hl)) (TDs.dps _ _ (r1.at (bU_tup hu1)))) .nil, bU_same, bU_none, hR, hc, ok1.urnAt.1, fun v H2 Hc d f2 b2 b3 n2 hu2 hd2 r2 => ?_⟩
  exact q v H2 d ((Fu.of e1).trans f2) (ok1.drawn f2 hu2) hd2 (TD.ex b3 (tdOf d v (ht d hd2) r2))
end
end K54
set_option Elab.async false
set_option linter.all false
set_option autoImplicit false
set_option maxRecDepth 100000
set_option maxHeartbeats 2000000
/-! K54: the urn, 8: of, lot, looks -/
namespace K54
open PySem PySem.Spec PyProof.Rows L2
theorem OpD.t {K : PySem.W.Frag} {r : R2} {x y z : PyData} (h : OpD K r x y z) : OpT K r x y z := fun u v H Q h1 h2 q => h u v H Q (h1.dp _ _) (h2.dp _ _) q
section
variable {X : Cx} {Γt : List Cell} {a : Addr} {c c1 c2 c' : Nat} {P2 Pr : PyData → Prop} {e1 e2 t : Expr} {pos : Pos} {ds : List PyData}
/-- an item of a list of any data, at a place that is drawn -/
theorem ex_ixL (ha : DB X (uG a c Γt) e1 (.list ds)) (hb : EU X Γt a c c' e2 P2) (hi : ∀ z, P2 z → ∃ j d, z = eN j ∧ ds[j]? = some d ∧ Pr d) (hp : PlainIx e2 := by exact fun _ _ => rfl) : EX X Γt a c c' (.Subscript e1 e2 pos) Pr :=
  PE.wk (pe_ix ix_list ha hb hp) fun σ H Q ⟨H0, ok, q⟩ => ⟨H0, ok, fun u H1 Hb e1 b1 _ ok1 r1 => ⟨Hb, ok1, fun v H2 z f2 ok2 hz r2 => by
    obtain ⟨j, d, rfl, hd, hpr⟩ := hi z hz
    cases r2
    cases r1 with
    | @lst l vs _ s r =>
      obtain ⟨x, hx, rx⟩ := dpGet r hd
      refine ⟨l, vs, (j : Int), x, rfl, rfl, sqLSame ok2.ex s, ?_, q x H2 Hb d ((Fu.of e1).trans f2) b1 ok2 hpr rx⟩
      exact atI_nat hx⟩⟩
theorem eu_tup1 {kk : Nat} (h : EU X Γt a c c' e1 Pr) (hs : starEach [e1] X.env = (false, eval e1 X.env) :: starEach [] X.env := by rfl) : EU X Γt a c c' (.Tuple [e1] kk pos) (fun d => ∃ x, Pr x ∧ d = .tuple [x]) :=
  EU.to (eu_tup (eus_cons h eus_nil hs) (by rintro ds ⟨d, ds', _, rfl, rfl⟩; exact Nat.le_of_ble_eq_true rfl)) (by rintro d ⟨ds, ⟨d1, ds', h1, rfl, rfl⟩, rfl⟩; exact ⟨d1, h1, rfl⟩)
theorem vlot_one {n x : Nat} (h : x < n) : VLot n [x] := ⟨(fun z => nomatch z), List.pairwise_singleton _ _, fun m hm => by rw [List.mem_singleton.mp hm]; exact h⟩
theorem ut_up (h : PT X t (tUt X.prog X.w X.K Γt a c c1)) (hc : c1 ≤ c2) : PT X t (tUt X.prog X.w X.K Γt a c c2) := PT.wk h fun σ H Q ⟨H0, ok, q⟩ => ⟨H0, ok, fun b H1 f ok1 => q b H1 f (ok1.wk (eleUrn hc))⟩
end
section
variable {P : Program} {w : World} {K : PySem.W.Frag} {mg : Str → Option Value} {base : Heap} {k : Nat}
theorem scS38 : FnScope ["_law_urn", "_law_some_so"] ["_law_urn", "_law_some_so"] (defScope (top 38)) := ⟨rfl, rfl, rfl, by decide +kernel, rfl, by decide +kernel, by decide +kernel⟩
def rOf (as : List Arg) (Pr : PyData → Prop) : Prop := ∃ ds, ds ≠ [] ∧ ds.length < 2 ^ 20 ∧ as = [.g (.list ds)] ∧ Pr = fun d => d ∈ ds
theorem ok_of (B : Blt mg) (D : DefAt K mg "_law_of" 38 ["_law_urn", "_law_some_so"]) (O : OkU P w K mg base "_law_take" k ["_law_urn", "_law_low_so"] 1 rTake) : OkX P w K mg base "_law_of" (k + 1) ["_law_urn", "_law_some_so"] 1 rOf := by
  refine okX' D scS38 (fun as Pr h => by obtain ⟨_, _, _, rfl, _⟩ := h; rfl) fun nd f cdv A outer s H E hr a c as Pr h hc => ?_
  obtain ⟨ds, h1, h2, rfl, rfl⟩ := h
  refine xr_ret (ex_ixL (db_var 1) (du_fn O hr (dr_t (de_lenG (dg_var 1) (.lst ds) B.len) dr_nil) (ds := [eN ds.length]) ⟨ds.length, List.length_pos_iff.mpr h1, h2, rfl, rfl⟩ hc) fun z hz => ?_)
  obtain ⟨j, hj, rfl⟩ := hz
  exact ⟨j, ds[j], rfl, List.getElem?_eq_getElem hj, List.getElem_mem hj⟩
theorem scS41 : FnScope ["_law_urn", "_law_n", "_law_found", "_law_k"] ["_law_urn", "_law_n"] (defScope (top 41)) := ⟨rfl, rfl, rfl, by decide +kernel, rfl, by decide +kernel, by decide +kernel⟩
def rLot (ds : List PyData) (Pr : PyData → Prop) : Prop := ∃ n : Nat, 1 ≤ n ∧ n ≤ 3 ∧ ds = [eN n] ∧ Pr = fun d => ∃ l, VLot n l ∧ d = eLot l
theorem drewNats {n : Nat} : ∀ {xs : List Nat} {ds : List PyData}, Drew true (fun (x : Nat) d => d = eN x) xs ds → ∃ l : Lot, ds = l.map eN ∧ l.Sublist xs := by
  intro xs ds h
  induction h with
  | nil => exact ⟨[], rfl, List.Sublist.refl _⟩
  | @take xs ds x d _ hp ih =>
    obtain ⟨l, rfl, hl⟩ := ih
    subst hp
    exact ⟨l ++ [x], by simp, hl.append (List.Sublist.refl _)⟩
  | @skip xs ds x _ _ ih =>
    obtain ⟨l, rfl, hl⟩ := ih
    exact ⟨l, rfl, hl.trans (List.sublist_append_left _ _)⟩
theorem vlot_sub {n : Nat} {l : Lot} (h : l.Sublist (List.range n)) (h0 : l ≠ []) : VLot n l := by
  refine ⟨h0, ?_, fun m hm => List.mem_range.mp (h.subset hm)⟩
  have z : (List.range n).Pairwise (· < ·) := List.pairwise_lt_range
  exact (z.sublist h).imp fun {a b} q => by simp [ltN]; exact q
theorem ok_lot (B : Blt mg) (D : DefAt K mg "_law_lot" 41 ["_law_urn", "_law_n"]) (O : OkU P w K mg base "_law_take" k ["_law_urn", "_law_low_so"] 1 rTake) : OkU P w K mg base "_law_lot" (k + 1) ["_law_urn", "_law_n"] 4 rLot := by
  refine okU' D scS41 (fun as Pr h => by obtain ⟨_, _, _, rfl, _⟩ := h; rfl) fun nd f cdv A outer s H E hr a c as Pr h hc => ?_
  obtain ⟨n, n1, n3, rfl, rfl⟩ := h
  refine ur_ch (ch_lcR [("_law_k", 3)] 1 true 1 (xs := List.range n) (enc := fun i => .t (eN i)) (Pr := fun x d => d = eN x) (di_range (j := n) (de_var 1) B.range) (fun i x hx => ?_) (by simp; omega)) fun Γ' ⟨ds, hd, eΓ⟩ => ?_
  · have hi : i < n := by simpa using (List.getElem?_eq_some_iff.mp hx).1
    refine ⟨c + i * 1 + 1, [.dat (eN n), .un, .dat (eN x)], [3], ⟨by decide, by omega, fun s H C cl fp => dg_name 3, fun s H C cl fp => um_one (ut_cmp (op_eqD hr.units) (du_fn O hr (dr_t de_int dr_nil) (ds := [eN 3]) ⟨3, by omega, by omega, rfl, rfl⟩ (by omega)) (de_int (i := 0)).eu fun x y hx hy => ?_), fun s H C cl fp => EU.up (de_var 3).eu (by omega)⟩⟩
    obtain ⟨j, _, rfl⟩ := hx
    subst hy
    exact ⟨_, (opEqD rfl rfl).t⟩
  · subst eΓ
    obtain ⟨l, rfl, hl⟩ := drewNats (n := n) hd
    have lr : (List.range n).length = n := List.length_range
    refine UR.up (ur_ret (eu_if (k := decide (l ≠ [])) (c' := c + (List.range n).length * 1 + 1) (dt_neNilL (xs := l) (f := eN) (dl_var 2) nice_N hr.units) (fun hl0 => EU.up (EU.to (de_tupL (dl_var 2) B.tuple).eu fun d hd => ⟨l, vlot_sub hl (by simpa using hl0), hd⟩) (by omega)) fun _ => EU.to (eu_tup (eus_cons (du_fn O hr (dr_t (de_var 1) dr_nil) (ds := [eN n]) ⟨n, by omega, by omega, rfl, rfl⟩ (by omega)) eus_nil) ?_) ?_)) (by omega)
    · rintro ds ⟨d, ds', _, rfl, rfl⟩
      exact Nat.le_of_ble_eq_true rfl
    · rintro d ⟨ds, ⟨d1, ds', ⟨j, hj, rfl⟩, rfl, rfl⟩, rfl⟩
      exact ⟨[j], vlot_one hj, rfl⟩
theorem scS42 : FnScope ["_law_urn", "_law_n", "_law_found", "_law_k", "_law_way_so"] ["_law_urn", "_law_n"] (defScope (top 42)) := ⟨rfl, rfl, rfl, by decide +kernel, rfl, by decide +kernel, by decide +kernel⟩
def rLooks (ds : List PyData) (Pr : PyData → Prop) : Prop := ∃ n : Nat, 1 ≤ n ∧ n ≤ 3 ∧ ds = [eN n] ∧ Pr = fun d => ∃ L, VLooks n L ∧ d = eLooks L
def nLooks (a : Addr) (c n : Nat) (i : Nat) (z : List Cell) : Prop := ∃ L : Looks, L.length = i ∧ (∀ l ∈ L, VLot n l) ∧ z = uG a (c + i * 5) [.dat (eN n), .own (.lst (L.map eLot)), .un, .un]
theorem ok_looks42 (B : Blt mg) (D : DefAt K mg "_law_looks" 42 ["_law_urn", "_law_n"]) (O : OkU P w K mg base "_law_take" k ["_law_urn", "_law_low_so"] 1 rTake) (O2 : OkU P w K mg base "_law_lot" k ["_law_urn", "_law_n"] 4 rLot) : OkU P w K mg base "_law_looks" (k + 1) ["_law_urn", "_law_n"] 16 rLooks := by
  refine okU' D scS42 (fun as Pr h => by obtain ⟨_, _, _, rfl, _⟩ := h; rfl) fun nd f cdv A outer s H E hr a c as Pr h hc => ?_
  obtain ⟨n, n1, n3, rfl, rfl⟩ := h
  refine ur_cons (ds_setO 2 (ds := []) (dn_lst du_nil)) (ur_ch (ch_for (nLooks a c n) (xs := List.range n) (enc := fun i => .t (eN i)) (di_range (j := n) (de_var 1) B.range) ⟨[], rfl, (fun l hl => nomatch hl), rfl⟩ fun i x G hx ⟨L, hL, hv, eG⟩ => ?_) fun Γ' ⟨L, hL, hv, eG⟩ => ?_)
  · subst eG
    have hi : i < n := by simpa using (List.getElem?_eq_some_iff.mp hx).1
    have ex : x = i := by
      have := List.getElem?_eq_some_iff.mp hx
      obtain ⟨h1, h2⟩ := this
      simpa using h2.symm
    subst ex
    have hl : (L.map eLot).length ≤ 100000 := by rw [List.length_map]; omega
    refine ⟨_, _, dg_name 3, ch_cons (ch_set 3 (Γt := [.dat (eN n), .own (.lst (L.map eLot)), .dat (eN x), .un]) (du_fn O hr (dr_t de_int dr_nil) (ds := [eN 4]) ⟨4, by omega, by omega, rfl, rfl⟩ (by omega))) fun Γ' ⟨d, ⟨j, hj, ej⟩, eG⟩ => ?_⟩
    subst eG ej
    refine chs_to (ch_cons (ch_app 1 (c' := c + x * 5 + 1 + 4) (Pr := fun d => ∃ l, VLot n l ∧ d = eLot l) (Γt := [.dat (eN n), .own (.lst (L.map eLot)), .dat (eN x), .dat (eN j)]) (eu_if (k := decide (j = 0)) (DT.is (dtg_cmp (op_eqD hr.units) (opEqD rfl rfl) (de_var 4).g de_int.g) (eqv_N j 0)) (fun _ => EU.up (EU.to (eu_tup1 (de_var 3).eu) ?_) (by omega)) fun _ => eu_if (k := decide (j = 1)) (DT.is (dtg_cmp (op_eqD hr.units) (opEqD rfl rfl) (de_var 4).g de_int.g) (eqv_N j 1)) (fun _ => EU.up (EU.to (eu_tup1 (du_fn O hr (dr_t (de_var 1) dr_nil) (ds := [eN n]) ⟨n, by omega, by omega, rfl, rfl⟩ (by omega))) ?_) (by omega)) fun _ => EU.up (du_fn O2 hr (dr_t (de_var 1) dr_nil) (ds := [eN n]) ⟨n, n1, n3, rfl, rfl⟩ (by omega)) (by omega)) hl) fun z hz => ch_nil (N := fun z => ∃ d, (∃ l, VLot n l ∧ d = eLot l) ∧ z = _) hz) fun z ⟨d, ⟨l, vl, ed⟩, ez⟩ => ?_
    · rintro d ⟨y, rfl, rfl⟩
      exact ⟨[x], vlot_one hi, rfl⟩
    · rintro d ⟨y, ⟨q, hq, rfl⟩, rfl⟩
      exact ⟨[q], vlot_one hq, rfl⟩
    · subst ez ed
      refine ⟨_, ⟨L ++ [l], by simp [hL], fun m hm => ?_, rfl⟩, ?_⟩
      · rcases List.mem_append.mp hm with hm | hm
        · exact hv m hm
        · rw [List.mem_singleton.mp hm]; exact vl
      · rw [List.map_append]
        refine .cons (.urn (by omega)) (.cons (.eq _) (.cons (.eq _) (.cons (.un _) (.cons (.un _) .nil))))
  · subst eG
    rw [List.length_range] at hL ⊢
    refine UR.up (ur_ret (EU.to (de_tupL (do_var 2) B.tuple).eu fun d hd => ⟨L, ⟨hL, hv⟩, hd⟩)) (by omega)
end
end K54
set_option Elab.async false
set_option linter.all false
set_option autoImplicit false
set_option maxRecDepth 100000
set_option maxHeartbeats 2000000
/-! K54: the plain law, 1: camps, what is led, greater ways lead on -/
namespace K54
open PySem PySem.Spec PyProof.Rows L2
theorem within_iff {l m : Lot} : within l m = true ↔ ∀ x ∈ l, x ∈ m := by
  unfold within
  rw [List.all_eq_true]
  exact ⟨fun h x hx => of_decide_eq_true (h x hx), fun h x hx => decide_eq_true (h x hx)⟩
theorem areW_iff {c d : Camps} : areW c d = true ↔ ((∀ x ∈ c.1, x ∈ d.1) ∧ ∀ x ∈ c.2, x ∈ d.2) ∨ ((∀ x ∈ c.1, x ∈ d.2) ∧ ∀ x ∈ c.2, x ∈ d.1) := by
  unfold areW
  rw [Bool.or_eq_true, Bool.and_eq_true, Bool.and_eq_true, within_iff, within_iff, within_iff, within_iff]
theorem areW_refl (c : Camps) : areW c c = true := areW_iff.mpr (.inl ⟨fun _ h => h, fun _ h => h⟩)
theorem areW_trans {c d e : Camps} (h1 : areW c d = true) (h2 : areW d e = true) : areW c e = true := by
  rw [areW_iff] at h1 h2 ⊢
  rcases h1 with ⟨a, b⟩ | ⟨a, b⟩ <;> rcases h2 with ⟨x, y⟩ | ⟨x, y⟩
  · exact .inl ⟨fun z hz => x z (a z hz), fun z hz => y z (b z hz)⟩
  · exact .inr ⟨fun z hz => x z (a z hz), fun z hz => y z (b z hz)⟩
  · exact .inr ⟨fun z hz => y z (a z hz), fun z hz => x z (b z hz)⟩
  · exact .inl ⟨fun z hz => y z (a z hz), fun z hz => x z (b z hz)⟩
theorem areW_swap {c d : Camps} : areW (c.2, c.1) d = areW c d := by
  unfold areW
  show (within c.2 d.1 && within c.1 d.2 || within c.2 d.2 && within c.1 d.1) = _
  cases within c.1 d.1 <;> cases within c.1 d.2 <;> cases within c.2 d.1 <;> cases within c.2 d.2 <;> rfl
theorem areW_swap2 {c d : Camps} : areW c (d.2, d.1) = areW c d := by
  unfold areW
  show (within c.1 d.2 && within c.2 d.1 || within c.1 d.1 && within c.2 d.2) = _
  cases within c.1 d.1 <;> cases within c.1 d.2 <;> cases within c.2 d.1 <;> cases within c.2 d.2 <;> rfl
theorem inOrd_or (l m : Lot) : inOrd l m = (l, m) ∨ inOrd l m = (m, l) := by
  unfold inOrd
  split
  · exact .inl rfl
  · exact .inr rfl
theorem areW_ord {l m l' m' : Lot} (h : areW (l, m) (l', m') = true) : areW (inOrd l m) (inOrd l' m') = true := by
  rcases inOrd_or l m with e | e <;> rcases inOrd_or l' m' with e' | e' <;> rw [e, e']
  · exact h
  · exact (areW_swap2 (c := (l, m)) (d := (l', m'))).trans h
  · exact (areW_swap (c := (l, m)) (d := (l', m'))).trans h
  · rw [areW_swap (c := (l, m)) (d := (m', l')), areW_swap2 (c := (l, m)) (d := (l', m'))]
    exact h
/-- camps -/
structure VCamps (n : Nat) (c : Camps) : Prop where
  a : VLot n c.1
  b : VLot n c.2
  ap : ∀ x ∈ c.1, x ∉ c.2
  lt : ltLot c.1 c.2 = true
theorem lot_of {n : Nat} {l : Lot} (h : VLot n l) : l = (List.range n).filter fun x => decide (x ∈ l) := by
  refine sorted_unique lin_N h.2.1 ?_ fun z => ?_
  · have q : (List.range n).Pairwise (fun a b => ltN a b = true) := (List.pairwise_lt_range (n := n)).imp fun {a b} q => by simp [ltN]; exact q
    exact q.sublist List.filter_sublist
  · rw [List.mem_filter, List.mem_range]
    exact ⟨fun hz => ⟨h.2.2 z hz, by simpa using hz⟩, fun hz => by simpa using hz.2⟩
def lots0 (n : Nat) : List Lot := (lotsRaw n).drop 1
theorem vlot_mem {n : Nat} {l : Lot} (hn : n ≤ 3) (h : VLot n l) : l ∈ lots0 n := by
  have e := lot_of h
  have h0 := h.1
  rw [e] at h0 ⊢
  match n, hn with
  | 0, _ => exact absurd rfl h0
  | 1, _ =>
    generalize decide (0 ∈ l) = b0 at *
    show (List.range 1).filter (fun x => decide (x ∈ l)) ∈ lots0 1
    revert h0
    show (List.range 1).filter (fun x => decide (x ∈ l)) ≠ [] → _
    by_cases b : 0 ∈ l <;> simp [List.range, List.range.loop, List.filter_cons, b, lots0, lotsRaw]
  | 2, _ =>
    revert h0
    by_cases b : 0 ∈ l <;> by_cases b2 : 1 ∈ l <;> simp [List.range, List.range.loop, List.filter_cons, b, b2, lots0, lotsRaw]
  | 3, _ =>
    revert h0
    by_cases b : 0 ∈ l <;> by_cases b2 : 1 ∈ l <;> by_cases b3 : 2 ∈ l <;> simp [List.range, List.range.loop, List.filter_cons, b, b2, b3, lots0, lotsRaw]
theorem camps_all : ∀ n, n ≤ 3 → ∀ l ∈ lots0 n, ∀ m ∈ lots0 n, apartM l m = true → ltLot l m = true → (l, m) ∈ campsM n := by
  intro n hn
  match n, hn with
  | 0, _ => decide +kernel
  | 1, _ => decide +kernel
  | 2, _ => decide +kernel
  | 3, _ => decide +kernel
theorem camps_apart : ∀ n, n ≤ 3 → ∀ c ∈ campsM n, apartM c.1 c.2 = true ∧ ltLot c.1 c.2 = true := by
  intro n hn
  match n, hn with
  | 0, _ => decide +kernel
  | 1, _ => decide +kernel
  | 2, _ => decide +kernel
  | 3, _ => decide +kernel
theorem apart_iff {l m : Lot} : apartM l m = true ↔ ∀ x ∈ l, x ∉ m := by
  unfold apartM
  rw [Bool.not_eq_true', Bool.eq_false_iff, Ne, List.any_eq_true]
  constructor
  · intro h x hx hm
    exact h ⟨x, hx, decide_eq_true hm⟩
  · rintro h ⟨x, hx, hm⟩
    exact h x hx (of_decide_eq_true hm)
theorem camps_iff {n : Nat} (hn : n ≤ 3) {c : Camps} : c ∈ campsM n ↔ VCamps n c := by
  constructor
  · intro h
    obtain ⟨a, b⟩ := campsM_mem hn h
    obtain ⟨x, y⟩ := camps_apart n hn c h
    exact ⟨a, b, apart_iff.mp x, y⟩
  · rintro ⟨a, b, x, y⟩
    exact camps_all n hn c.1 (vlot_mem hn a) c.2 (vlot_mem hn b) (apart_iff.mpr x) y
/-- antisymmetry -/
theorem camps_anti : ∀ n, n ≤ 3 → ∀ c ∈ campsM n, ∀ d ∈ campsM n, areW c d = true → areW d c = true → c = d := by
  intro n hn
  match n, hn with
  | 0, _ => decide +kernel
  | 1, _ => decide +kernel
  | 2, _ => decide +kernel
  | 3, _ => decide +kernel
/-! ### who looks within -/
theorem mem_lw {n : Nat} {L : Looks} (hL : VLooks n L) {l : Lot} {p : Nat} : p ∈ lw L l ↔ p < n ∧ ∀ x ∈ L.getD p [], x ∈ l := by
  unfold lw
  rw [List.mem_map]
  constructor
  · rintro ⟨⟨m, i⟩, h, rfl⟩
    rw [List.mem_filter, List.mem_zipIdx_iff_getElem?] at h
    obtain ⟨h1, h2⟩ := h
    have h1' : L[i]? = some m := by simpa using h1
    refine ⟨?_, ?_⟩
    · have := (List.getElem?_eq_some_iff.mp h1').1
      rw [← hL.1]; exact this
    · have : L.getD i [] = m := by rw [List.getD_eq_getElem?_getD, h1']; rfl
      show ∀ x ∈ L.getD i [], x ∈ l
      rw [this]
      exact within_iff.mp h2
  · rintro ⟨hp, h⟩
    refine ⟨(L.getD p [], p), ?_, rfl⟩
    rw [List.mem_filter, List.mem_zipIdx_iff_getElem?]
    exact ⟨by simpa using (hL.at hp).1, within_iff.mpr h⟩
theorem lw_asc {n : Nat} {L : Looks} (hL : VLooks n L) (l : Lot) : (lw L l).Pairwise (fun a b => ltN a b = true) := by
  unfold lw
  rw [List.pairwise_map]
  have q : (L.zipIdx).Pairwise (fun a b => a.2 < b.2) := by
    have : (L.zipIdx.map (·.2)).Pairwise (· < ·) := by
      rw [List.zipIdx_map_snd]
      exact List.pairwise_lt_range'
    rwa [List.pairwise_map] at this
  exact (q.sublist List.filter_sublist).imp fun {a b} h => by simp [ltN]; exact h
theorem lw_v {n : Nat} {L : Looks} (hL : VLooks n L) {l : Lot} (h : lw L l ≠ []) : VLot n (lw L l) := ⟨h, lw_asc hL l, fun x hx => ((mem_lw hL).mp hx).1⟩
theorem led_some {L : Looks} {c d : Camps} : ledM L c = some d ↔ lw L c.1 ≠ [] ∧ lw L c.2 ≠ [] ∧ d = inOrd (lw L c.1) (lw L c.2) := by
  unfold ledM
  split
  · rename_i h
    constructor
    · intro e; cases e
    · rintro ⟨h1, h2, _⟩
      rcases h with h | h
      · exact absurd h h1
      · exact absurd h h2
  · rename_i h
    constructor
    · intro e
      exact ⟨fun z => h (.inl z), fun z => h (.inr z), (Option.some.inj e).symm⟩
    · rintro ⟨_, _, rfl⟩
      rfl
theorem vcamps_ord {n : Nat} {l m : Lot} (h1 : VLot n l) (h2 : VLot n m) (ap : ∀ x ∈ l, x ∉ m) : VCamps n (inOrd l m) := by
  unfold inOrd
  split
  · rename_i h
    exact ⟨h1, h2, ap, h⟩
  · rename_i h
    refine ⟨h2, h1, fun x hx hm => ap x hm hx, ?_⟩
    have ne : m ≠ l := fun e => by
      cases l with
      | nil => exact h1.1 rfl
      | cons x l => exact ap x List.mem_cons_self (by rw [e]; exact List.mem_cons_self)
    have h' : ltLot l m = false := by simpa using h
    cases hm : ltLot m l with
    | true => rfl
    | false => rcases lin_Lot.tri m l ne with z | z
               · rw [hm] at z; cases z
               · rw [h'] at z; cases z
theorem led_camps {n : Nat} (hn : n ≤ 3) {L : Looks} (hL : VLooks n L) {c d : Camps} (hc : c ∈ campsM n) (e : ledM L c = some d) : d ∈ campsM n := by
  obtain ⟨h1, h2, rfl⟩ := led_some.mp e
  have vc := (camps_iff hn).mp hc
  refine (camps_iff hn).mpr (vcamps_ord (lw_v hL h1) (lw_v hL h2) fun x hx hm => ?_)
  obtain ⟨p1, q1⟩ := (mem_lw hL).mp hx
  obtain ⟨_, q2⟩ := (mem_lw hL).mp hm
  have v := (hL.at p1).2
  cases hg : L.getD x [] with
  | nil => exact v.1 hg
  | cons y r =>
    have hy : y ∈ L.getD x [] := by rw [hg]; exact List.mem_cons_self
    exact vc.ap y (q1 y hy) (q2 y hy)
theorem lw_mono {n : Nat} {L : Looks} (hL : VLooks n L) {l m : Lot} (h : ∀ x ∈ l, x ∈ m) : ∀ p ∈ lw L l, p ∈ lw L m := fun p hp => by
  obtain ⟨a, b⟩ := (mem_lw hL).mp hp
  exact (mem_lw hL).mpr ⟨a, fun x hx => h x (b x hx)⟩
theorem ne_of_sub {l m : Lot} (h : ∀ x ∈ l, x ∈ m) (hl : l ≠ []) : m ≠ [] := fun e => by
  cases l with
  | nil => exact hl rfl
  | cons x l =>
    have := h x List.mem_cons_self
    rw [e] at this; cases this
/-- greater camps are led to greater camps -/
theorem led_mono {n : Nat} {L : Looks} (hL : VLooks n L) {c c' d : Camps} (h : areW c c' = true) (e : ledM L c = some d) : ∃ d', ledM L c' = some d' ∧ areW d d' = true := by
  obtain ⟨h1, h2, rfl⟩ := led_some.mp e
  rw [areW_iff] at h
  rcases h with ⟨a, b⟩ | ⟨a, b⟩
  · refine ⟨_, led_some.mpr ⟨ne_of_sub (lw_mono hL a) h1, ne_of_sub (lw_mono hL b) h2, rfl⟩, areW_ord (areW_iff.mpr (.inl ⟨lw_mono hL a, lw_mono hL b⟩))⟩
  · refine ⟨_, led_some.mpr ⟨ne_of_sub (lw_mono hL b) h2, ne_of_sub (lw_mono hL a) h1, rfl⟩, areW_ord (areW_iff.mpr (.inr ⟨lw_mono hL a, lw_mono hL b⟩))⟩
/-- who looks within, behind others -/
theorem lw_behind {n : Nat} {L M : Looks} (hL : VLooks n L) (hM : VLooks n M) (l : Lot) : lw (behindM L M) l = lw M (lw L l) := by
  have hB := behindV hL hM
  refine sorted_unique lin_N (lw_asc hB l) (lw_asc hM _) fun p => ?_
  rw [mem_lw hB, mem_lw hM]
  refine and_congr_right fun hp => ?_
  have e : (behindM L M).getD p [] = joinedM ((M.getD p []).map fun p => L.getD p []) := by
    unfold behindM
    rw [List.getD_eq_getElem?_getD, List.getElem?_map, (hM.at hp).1]; rfl
  rw [e]
  unfold joinedM
  constructor
  · intro h q hq
    have vq := (hM.at hp).2.2.2 q hq
    exact (mem_lw hL).mpr ⟨vq, fun x hx => h x (mem_canon.mpr (List.mem_flatten.mpr ⟨_, List.mem_map_of_mem hq, hx⟩))⟩
  · intro h x hx
    obtain ⟨s, hs, hx⟩ := List.mem_flatten.mp (mem_canon.mp hx)
    obtain ⟨q, hq, rfl⟩ := List.mem_map.mp hs
    exact ((mem_lw hL).mp (h q hq)).2 x hx
theorem lw_nil {n : Nat} {L : Looks} (hL : VLooks n L) : lw L [] = [] := by
  cases h : lw L [] with
  | nil => rfl
  | cons p r =>
    exfalso
    have hp : p ∈ lw L [] := by rw [h]; exact List.mem_cons_self
    obtain ⟨a, b⟩ := (mem_lw hL).mp hp
    have v := (hL.at a).2
    cases hg : L.getD p [] with
    | nil => exact v.1 hg
    | cons y r =>
      have := b y (by rw [hg]; exact List.mem_cons_self)
      cases this
theorem inOrd_swap {n : Nat} {l m : Lot} (h : l ≠ m) : inOrd l m = inOrd m l := by
  unfold inOrd
  cases h1 : ltLot l m with
  | true =>
    have h2 := lin_Lot.asym h1
    rw [h2]; rfl
  | false =>
    cases h2 : ltLot m l with
    | true => rfl
    | false =>
      rcases lin_Lot.tri l m h with z | z
      · rw [h1] at z; cases z
      · rw [h2] at z; cases z
/-- led behind others -/
theorem led_behind {n : Nat} {L M : Looks} (hL : VLooks n L) (hM : VLooks n M) (c : Camps) : ledM (behindM L M) c = (ledM L c).bind (ledM M) := by
  have e1 := lw_behind hL hM c.1
  have e2 := lw_behind hL hM c.2
  cases h : ledM L c with
  | none =>
    show _ = none
    have z : lw L c.1 = [] ∨ lw L c.2 = [] := by
      refine Classical.byContradiction fun z => ?_
      unfold ledM at h
      rw [if_neg z] at h; cases h
    unfold ledM
    rw [if_pos]
    rcases z with z | z
    · exact .inl (by rw [e1, z, lw_nil hM])
    · exact .inr (by rw [e2, z, lw_nil hM])
  | some g =>
    obtain ⟨h1, h2, rfl⟩ := led_some.mp h
    show _ = ledM M (inOrd (lw L c.1) (lw L c.2))
    unfold ledM
    rw [e1, e2]
    rcases inOrd_or (lw L c.1) (lw L c.2) with e | e
    · rw [e]
    · rw [e]
      by_cases z : lw M (lw L c.1) = [] ∨ lw M (lw L c.2) = []
      · rw [if_pos z, if_pos (Or.comm.mp z)]
      · rw [if_neg z, if_neg fun y => z (Or.comm.mp y)]
        by_cases q : lw M (lw L c.1) = lw M (lw L c.2)
        · show some (inOrd (lw M (lw L c.1)) (lw M (lw L c.2))) = some (inOrd (lw M (lw L c.2)) (lw M (lw L c.1)))
          rw [q]
        · rw [inOrd_swap (n := n) q]
end K54
set_option Elab.async false
set_option linter.all false
set_option autoImplicit false
set_option maxRecDepth 100000
set_option maxHeartbeats 2000000
/-! K54: the plain law, 2: small pieces -/
namespace K54
open PySem PySem.Spec PyProof.Rows L2
structure SP (n : Nat) (p : Piece) : Prop where
  n1 : 1 ≤ n
  n3 : n ≤ 3
  ne : p.steps ≠ []
  slen : p.steps.length ≤ 4
  steps : ∀ L ∈ p.steps, VLooks n L
  arr : ∀ (i : Nat) (row : List (Nat × Nat)), p.stands[i]? = some row → ∀ a ∈ row, a.1 < p.steps.length ∧ i < a.2 ∧ a.2 ≤ p.stands.length
  rows : ∀ row ∈ p.stands, row ≠ []
  few : (p.stands.length ≤ 3 ∧ ∀ row ∈ p.stands, row.length ≤ 3) ∨ (p.stands.length ≤ 1 ∧ ∀ row ∈ p.stands, row.length ≤ 4)
theorem flatten_le {α : Type} {m : Nat} : ∀ {ls : List (List α)}, (∀ l ∈ ls, l.length ≤ m) → ls.flatten.length ≤ m * ls.length
  | [], _ => Nat.zero_le _
  | l :: ls, h => by
    have a := flatten_le (ls := ls) fun x hx => h x (List.mem_cons_of_mem _ hx)
    have b := h l List.mem_cons_self
    rw [List.flatten_cons, List.length_append, List.length_cons, Nat.mul_succ]; omega
theorem SP.v {n : Nat} {p : Piece} (S : SP n p) : VPiece n p := by
  have few : p.stands.flatten.length ≤ 9 ∧ p.stands.length ≤ 3 := by
    rcases S.few with ⟨h1, h2⟩ | ⟨h1, h2⟩
    · have := flatten_le h2
      have : 3 * p.stands.length ≤ 9 := by omega
      omega
    · have := flatten_le h2
      have : 4 * p.stands.length ≤ 4 := by omega
      omega
  exact ⟨S.n1, S.n3, S.ne, S.steps, S.arr, few.1, by have := few.2; have := S.slen; omega⟩
theorem sum_le {α : Type} {f : α → Nat} {m : Nat} : ∀ {xs : List α}, (∀ x ∈ xs, f x ≤ m) → (xs.map f).sum ≤ xs.length * m
  | [], _ => Nat.zero_le _
  | x :: xs, h => by
    have a := sum_le (xs := xs) fun y hy => h y (List.mem_cons_of_mem _ hy)
    have b := h x List.mem_cons_self
    rw [List.map_cons, List.sum_cons, List.length_cons, Nat.succ_mul]; omega
/-- how many paths, where each row has at most m arms -/
theorem paths_le {n : Nat} {p : Piece} (V : VPiece n p) {m : Nat} (m1 : 1 ≤ m) (hm : ∀ row ∈ p.stands, row.length ≤ m) : ∀ (f i : Nat) (L : Looks), i ≤ p.stands.length → p.stands.length ≤ f + i → (paths p i L).length ≤ m ^ f := by
  intro f
  induction f with
  | zero =>
    intro i L h1 h2
    have e : i = p.stands.length := by omega
    rw [e, paths_end V]
    exact Nat.le_refl _
  | succ f ih =>
    intro i L h1 h2
    by_cases e : i = p.stands.length
    · rw [e, paths_end V]
      exact Nat.pos_of_ne_zero fun z => by
        have := Nat.pow_eq_zero.mp z
        omega
    · have hi : i < p.stands.length := by omega
      have hrow := row_at V hi
      rw [paths_row V hi, List.length_flatMap]
      refine Nat.le_trans (sum_le (m := m ^ f) fun a ha => ?_) ?_
      · have q := V.arr i _ hrow a (List.mem_reverse.mp ha)
        exact ih a.2 _ q.2.2 (by omega)
      · rw [List.length_reverse, Nat.pow_succ, Nat.mul_comm]
        exact Nat.mul_le_mul_left _ (hm _ (List.mem_of_getElem? hrow))
def wtUp (m : Nat) : Nat → Nat
  | 0 => 1
  | f + 1 => 1 + m * wtUp m f
theorem wtUp_pos (m : Nat) : ∀ f, 1 ≤ wtUp m f
  | 0 => Nat.le_refl _
  | f + 1 => by unfold wtUp; omega
theorem wt_le {n : Nat} {p : Piece} (V : VPiece n p) {m : Nat} (hm : ∀ row ∈ p.stands, row.length ≤ m) : ∀ (f i : Nat), i ≤ p.stands.length → p.stands.length ≤ f + i → wt p i ≤ wtUp m f := by
  intro f
  induction f with
  | zero =>
    intro i h1 h2
    have e : i = p.stands.length := by omega
    rw [e, wt_end V]
    exact Nat.le_refl _
  | succ f ih =>
    intro i h1 h2
    by_cases e : i = p.stands.length
    · rw [e, wt_end V]
      exact wtUp_pos m _
    · have hi : i < p.stands.length := by omega
      have hrow := row_at V hi
      rw [wt_row V hi]
      show 1 + _ ≤ 1 + m * wtUp m f
      refine Nat.add_le_add_left (Nat.le_trans (sum_le (m := wtUp m f) fun a ha => ?_) ?_) 1
      · have q := V.arr i _ hrow a ha
        exact ih a.2 q.2.2 (by omega)
      · exact Nat.mul_le_mul_right _ (hm _ (List.mem_of_getElem? hrow))
theorem paths_ne {n : Nat} {p : Piece} (V : VPiece n p) (hr : ∀ row ∈ p.stands, row ≠ []) : ∀ (f i : Nat) (L : Looks), i ≤ p.stands.length → p.stands.length ≤ f + i → paths p i L ≠ [] := by
  intro f
  induction f with
  | zero =>
    intro i L h1 h2
    have e : i = p.stands.length := by omega
    rw [e, paths_end V]
    exact List.cons_ne_nil _ _
  | succ f ih =>
    intro i L h1 h2
    by_cases e : i = p.stands.length
    · rw [e, paths_end V]
      exact List.cons_ne_nil _ _
    · have hi : i < p.stands.length := by omega
      have hrow := row_at V hi
      rw [paths_row V hi]
      have ne := hr _ (List.mem_of_getElem? hrow)
      cases hq : p.stands.getD i [] with
      | nil => exact absurd hq ne
      | cons a r =>
        have q := V.arr i _ hrow a (by rw [hq]; exact List.mem_cons_self)
        intro z
        rw [List.flatMap_eq_nil_iff] at z
        exact ih a.2 _ q.2.2 (by omega) (z a (by simp))
theorem SP.lp {n : Nat} {p : Piece} (S : SP n p) : LP n p := by
  rcases S.few with ⟨h1, h2⟩ | ⟨h1, h2⟩
  · refine ⟨S.v, Nat.lt_of_le_of_lt (paths_le S.v (by omega) h2 3 0 _ (Nat.zero_le _) (by omega)) (by decide), Nat.le_trans (wt_le S.v h2 3 0 (Nat.zero_le _) (by omega)) (by decide)⟩
  · refine ⟨S.v, Nat.lt_of_le_of_lt (paths_le S.v (by omega) h2 1 0 _ (Nat.zero_le _) (by omega)) (by decide), Nat.le_trans (wt_le S.v h2 1 0 (Nat.zero_le _) (by omega)) (by decide)⟩
theorem SP.rowsV {n : Nat} {p : Piece} (S : SP n p) : ∀ L ∈ rowsM p n, VLooks n L := fun L hL => (run_inv S.v _ (Nat.le_refl _)).ok _ L (mem_canon.mp hL)
theorem SP.rowsNe {n : Nat} {p : Piece} (S : SP n p) : rowsM p n ≠ [] := by
  rw [rows_paths S.v]
  have ne := paths_ne S.v S.rows p.stands.length 0 (stillM n) (Nat.zero_le _) (by omega)
  cases h : paths p 0 (stillM n) with
  | nil => exact absurd h ne
  | cons x r =>
    intro z
    have : x ∈ canon ltLooks (x :: r) := mem_canon.mpr List.mem_cons_self
    rw [z] at this; cases this
theorem SP.rowsLt {n : Nat} {p : Piece} (S : SP n p) : (rowsM p n).length < 64 := by
  rw [rows_paths S.v]
  exact Nat.lt_of_le_of_lt (canon_len _) S.lp.few
theorem SP.gp {n : Nat} {p : Piece} {x : PyData} (S : SP n p) (h1 : slim x = true) (h2 : x.depth ≤ 5) (h3 : tupled x = ePiece p) : GP n p x := ⟨⟨S.v, h1, h2, h3⟩, S.rowsNe, S.rowsLt⟩
/-! ### pieces as data -/
mutual
theorem tupled_listed : ∀ d : PyData, tonly d = true → tupled (listed d) = d
  | .tuple ds, h => by
    rw [listed, tupled, tupleds_listeds ds (by simpa [tonly] using h)]
  | .none, _ => rfl
  | .bool _, _ => rfl
  | .int _, _ => rfl
  | .str _, _ => rfl
  | .list _, h => by simp [tonly] at h
  | .dict _, h => by simp [tonly] at h
theorem tupleds_listeds : ∀ ds : List PyData, tonlys ds = true → tupleds (listeds ds) = ds
  | [], _ => rfl
  | d :: ds, h => by
    simp only [tonlys, Bool.and_eq_true] at h
    rw [listeds, tupleds, tupled_listed d h.1, tupleds_listeds ds h.2]
end
theorem listeds_len : ∀ ds : List PyData, (listeds ds).length = ds.length
  | [] => rfl
  | d :: ds => by rw [listeds, List.length_cons, List.length_cons, listeds_len ds]
mutual
theorem slim_listed : ∀ d : PyData, slim (listed d) = slim d
  | .tuple ds => by rw [listed, slim, slim, listeds_len, slims_listeds ds]
  | .list ds => by rw [listed, slim, slim, listeds_len, slims_listeds ds]
  | .none => rfl
  | .bool _ => rfl
  | .int _ => rfl
  | .str _ => rfl
  | .dict _ => rfl
theorem slims_listeds : ∀ ds : List PyData, slims (listeds ds) = slims ds
  | [] => rfl
  | d :: ds => by rw [listeds, slims, slims, slim_listed d, slims_listeds ds]
end
mutual
theorem depth_listed : ∀ d : PyData, (listed d).depth = d.depth
  | .tuple ds => by rw [listed, PyData.depth, PyData.depth, depths_listeds ds]
  | .list ds => by rw [listed, PyData.depth, PyData.depth, depths_listeds ds]
  | .none => rfl
  | .bool _ => rfl
  | .int _ => rfl
  | .str _ => rfl
  | .dict _ => rfl
theorem depths_listeds : ∀ ds : List PyData, PyData.depthAll (listeds ds) = PyData.depthAll ds
  | [] => rfl
  | d :: ds => by rw [listeds, PyData.depthAll, PyData.depthAll, depth_listed d, depths_listeds ds]
end
theorem nice_Arr (a : Nat × Nat) : Nice (eArr a) 1 := nice_pair (nice_N _) (nice_N _)
theorem nice_Ways (r : List (Nat × Nat)) : Nice (eWays r) 2 := nice_tmap nice_Arr
theorem nice_Step (L : Looks) : Nice (eStep L) 3 := nice_pair (nice_Looks L) (nice_none.up (by decide))
theorem nice_Piece (p : Piece) : Nice (ePiece p) 5 := nice_pair (nice_tmap nice_Step) ((nice_tmap nice_Ways).up (by decide))
theorem tonly_Arr (a : Nat × Nat) : tonly (eArr a) = true := rfl
theorem tonly_Ways (r : List (Nat × Nat)) : tonly (eWays r) = true := by unfold eWays; rw [tonly, tonlys_map fun x _ => tonly_Arr x]
theorem tonly_Step (L : Looks) : tonly (eStep L) = true := by unfold eStep; rw [tonly, tonlys, tonlys, tonlys, tonly_Looks]; rfl
theorem tonly_Piece (p : Piece) : tonly (ePiece p) = true := by
  unfold ePiece eSteps eStands
  rw [tonly, tonlys, tonlys, tonlys, tonly, tonly, tonlys_map fun x _ => tonly_Step x, tonlys_map fun x _ => tonly_Ways x]; rfl
theorem SP.slim {n : Nat} {p : Piece} (S : SP n p) : K54.slim (ePiece p) = true := by
  have V := S.v
  have n3 := S.n3
  have sl := V.short
  have s1 : slims (p.steps.map eStep) = true := slims_map fun L hL => by
    unfold eStep
    have := (S.steps L hL).slim (by omega)
    rw [K54.slim, slims, slims, slims, this]; rfl
  have s2 : slims (p.stands.map eWays) = true := slims_map fun r hr => by
    unfold eWays
    have len : r.length ≤ 4 := by
      rcases S.few with ⟨_, h⟩ | ⟨_, h⟩
      · have := h r hr; omega
      · exact h r hr
    rw [K54.slim, List.length_map, decide_eq_true (by omega), slims_map fun a _ => (by unfold eArr; rfl)]; rfl
  unfold ePiece eSteps eStands
  rw [K54.slim, slims, slims, slims, K54.slim, K54.slim, s1, s2, List.length_map, List.length_map, decide_eq_true (show p.steps.length ≤ 1000 by omega), decide_eq_true (show p.stands.length ≤ 1000 by omega)]
  rfl
theorem SP.gpT {n : Nat} {p : Piece} (S : SP n p) : GP n p (ePiece p) := S.gp S.slim (nice_Piece p).2 (tupled_t _ (tonly_Piece p))
theorem SP.gpL {n : Nat} {p : Piece} (S : SP n p) : GP n p (listed (ePiece p)) := S.gp ((slim_listed _).trans S.slim) (by rw [depth_listed]; exact (nice_Piece p).2) (tupled_listed _ (tonly_Piece p))
/-! ### pieces made of pieces -/
theorem SP.few4 {n : Nat} {p : Piece} (S : SP n p) : SP n (fewM p n 4) := by
  unfold fewM
  split
  · exact S
  · rename_i h
    have hl : ((rowsM p n).take 4).length = 4 := by rw [List.length_take]; omega
    refine ⟨S.n1, S.n3, ?_, by rw [hl]; exact Nat.le_refl _, fun L hL => S.rowsV L (List.mem_of_mem_take hL), fun i row hr a ha => ?_, fun row hr => ?_, .inr ⟨Nat.le_refl _, fun row hr => ?_⟩⟩
    · intro z
      rw [show (rowsM p n).take 4 = [] from z] at hl
      cases hl
    · cases i with
      | succ i => cases hr
      | zero =>
        have e : row = (List.range 4).map fun k => (k, 1) := (Option.some.inj hr).symm
        subst e
        obtain ⟨k, hk, rfl⟩ := List.mem_map.mp ha
        have hk := List.mem_range.mp hk
        exact ⟨by show k < ((rowsM p n).take 4).length; rw [hl]; exact hk, Nat.zero_lt_one, Nat.le_refl _⟩
    · have e : row = (List.range 4).map fun k => (k, 1) := List.mem_singleton.mp hr
      subst e
      exact fun z => nomatch z
    · have e : row = (List.range 4).map fun k => (k, 1) := List.mem_singleton.mp hr
      subst e
      exact Nat.le_refl _
theorem SP.bend {n : Nat} {p : Piece} (S : SP n p) {s q : Nat} {l : Lot} (hv : VLot n l) : SP n ⟨p.steps.set s ((p.steps.getD s []).set q l), p.stands⟩ := by
  by_cases hs : s < p.steps.length
  · have hm : p.steps.getD s [] ∈ p.steps := by
      rw [List.getD_eq_getElem?_getD, List.getElem?_eq_getElem hs]
      exact List.getElem_mem hs
    have vL := S.steps _ hm
    refine ⟨S.n1, S.n3, fun z => S.ne (List.length_eq_zero_iff.mp (by have := congrArg List.length z; rwa [List.length_set] at this)), by rw [List.length_set]; exact S.slen, fun L hL => ?_, fun i row hr a ha => by rw [List.length_set]; exact S.arr i row hr a ha, S.rows, S.few⟩
    rcases List.mem_or_eq_of_mem_set hL with h | h
    · exact S.steps L h
    · subst h
      refine ⟨by rw [List.length_set]; exact vL.1, fun m hm' => ?_⟩
      rcases List.mem_or_eq_of_mem_set hm' with h | h
      · exact vL.2 m h
      · rw [h]; exact hv
  · rw [List.set_eq_of_length_le (by omega)]
    exact S
end K54
set_option Elab.async false
set_option linter.all false
set_option autoImplicit false
set_option maxRecDepth 100000
set_option maxHeartbeats 4000000
/-! K54: the urn, 9: piece -/
namespace K54
open PySem PySem.Spec PyProof.Rows L2
/-- range of a number that is drawn -/
def tIu (P : Program) (w : World) (K : PySem.W.Frag) (Γt : List Cell) (a : Addr) (c c' : Nat) (QM : Nat → Prop) : TI := fun σ H R => ∃ H0, EnvOk P w K H0 H σ (uG a c Γt) ∧ ∀ J H1 m, QM m → EnvOk P w K H0 H1 σ (uG a c' Γt) → Walks K J ((List.range m).map fun i => .t (eN i)) H0 → R J H1
section
variable {X : Cx} {Γt : List Cell} {tg iter e : Expr} {body : List Stmt} {p pos : Pos} {a : Addr} {c c' : Nat} {Pr : PyData → Prop} {QM : Nat → Prop}
theorem iu_range (h : EU X Γt a c c' e Pr) (hP : ∀ z, Pr z → ∃ m : Nat, z = eN m ∧ m < 2 ^ 20 ∧ QM m) (hm : X.mg "range" = none) (hg : Gl X "range" := by rfl) (hs : starEach [e] X.env = [(false, eval e X.env)] := by rfl) : PI X tg (.Call (.Name "range" p) [e] [] pos) (tIu X.prog X.w X.K Γt a c c' QM) :=
  PI.wk (pi_range1 hg hm (pa_cons h pa_nil hs) hs) fun σ H R ⟨H0, ok, q⟩ => ⟨H0, ok, fun v H1 d f ok1 hd r1 => by
    obtain ⟨m, rfl, hm, hq⟩ := hP d hd
    cases r1
    exact ⟨(m : Int), rfl, by omega, by omega, q _ H1 m hq ok1 walksRng.w⟩⟩
theorem ch_forU (N : Nat → Nat → List Cell → Prop) (hi : PI X tg iter (tIu X.prog X.w X.K Γt a c c' QM)) (h0 : ∀ m, QM m → N m 0 (uG a c' Γt)) (hb : ∀ m i G, QM m → i < m → N m i G → ∃ B js, DGt X G tg (.t (eN i)) B js ∧ CH X B body (N m (i + 1)))
    (hp : PassesOwn (model X.prog X.w) X.A X.env X.xe := by exact PassesOwn.never) (hc : X.calm = true := by rfl) (hs : ∀ x, foldedSetIterable iter X.env x = pure x := by intro _; rfl) : PS X (.For tg iter body [] pos) (tCh X (uG a c Γt) (fun z => ∃ m, QM m ∧ N m m z)) := by
  let T := { q : Nat × Nat × List Cell × List Cell × List Nat // DGt X q.2.2.1 tg (.t (eN q.2.1)) q.2.2.2.1 q.2.2.2.2 ∧ CH X q.2.2.2.1 body (N q.1 (q.2.1 + 1)) }
  refine PS.wk (ps_for hp hc hi (PG.ex (t := fun q : T => gD X.prog X.w X.K q.1.2.2.1 (.t (eN q.1.2.1)) q.1.2.2.2.1 q.1.2.2.2.2) fun q => q.2.1)
    (PSs.ex (t := fun q : T => tCh X q.1.2.2.2.1 (N q.1.1 (q.1.2.1 + 1))) fun q => q.2.2) hs) fun D σ H ⟨H0, ok, q⟩ => ?_
  refine ⟨H0, ok, fun J H1 M hM okb wk => ⟨fun i m σ' H' => i ≤ M ∧ m = M - i ∧ ∃ Hc G, Same H0 Hc ∧ N M i G ∧ EnvOk X.prog X.w X.K Hc H' σ' G, ⟨_, Nat.zero_le _, rfl, H0, _, Same.refl H0, h0 M hM, okb⟩, ?_⟩⟩
  rintro i m σ' H' ⟨hl, rfl, Hc, G, ec, hn, ok'⟩
  have eb : Same H0 H' := ec.trans ok'.ex
  by_cases hlt : i < M
  · obtain ⟨go, yl⟩ := (wk i H' eb).1 (.t (eN i)) (by rw [List.getElem?_map, List.getElem?_range hlt]; rfl)
    refine .inr ⟨go, fun σ2 H2 => i + 1 ≤ M ∧ ∃ Hc G, Same H0 Hc ∧ N M (i + 1) G ∧ EnvOk X.prog X.w X.K Hc H2 σ2 G, fun σ2 H2 ⟨k1, k2⟩ => ⟨M - (i + 1), by omega, k1, rfl, k2⟩, fun v H2 y => ?_⟩
    obtain ⟨e2, Hi, c1, c2, c3, rv⟩ := yl v H2 y
    obtain ⟨He, d1, d2, ok2, d3⟩ := ok'.union e2 ec c1 c2 c3
    obtain ⟨B, js, hB⟩ := hb M i G hM hlt hn
    exact ⟨⟨(M, i, G, B, js), hB⟩, Hi, c2, rv, fun σ3 _ o3 k => ⟨⟨(M, i, G, B, js), hB⟩, He, k He d2 ok2, fun G' Hd σ4 H4 hn4 e4 ok4 => ⟨hlt, Hd, G', (ec.trans d1).trans e4, hn4, ok4⟩⟩⟩
  · have hin : i = M := by omega
    subst hin
    exact .inl ⟨(wk _ H' eb).2 (by rw [List.length_map, List.length_range]), q G Hc σ' H' ⟨_, hM, hn⟩ ec ok'⟩
end
theorem drewMap {α β : Type} {Pr : α → PyData → Prop} {Q : β → Prop} {f : β → PyData} (hP : ∀ x d, Pr x d → ∃ y, Q y ∧ d = f y) : ∀ {xs : List α} {ds : List PyData}, Drew false Pr xs ds → ∃ ys : List β, ds = ys.map f ∧ ys.length = xs.length ∧ ∀ y ∈ ys, Q y := by
  intro xs ds h
  induction h with
  | nil => exact ⟨[], rfl, rfl, fun y hy => nomatch hy⟩
  | @take xs ds x d _ hp ih =>
    obtain ⟨ys, rfl, hl, hq⟩ := ih
    obtain ⟨y, hy, rfl⟩ := hP x d hp
    refine ⟨ys ++ [y], by simp, by simp [hl], fun z hz => ?_⟩
    rcases List.mem_append.mp hz with hz | hz
    · exact hq z hz
    · rw [List.mem_singleton.mp hz]; exact hy
  | skip _ z => cases z
theorem opAddN {K : PySem.W.Frag} (i j : Nat) : OpT K (rI0 fun i j => .int (i + j)) (eN i) (eN j) (eN (i + j)) := opI0
theorem opSubN {K : PySem.W.Frag} (i j : Nat) (h : j ≤ i) : OpT K (rI0 fun i j => .int (i - j)) (eN i) (eN j) (eN (i - j)) := by
  have e : eN (i - j) = .int ((i : Int) - (j : Int)) := by
    show PyData.int _ = _
    congr 1
    omega
  rw [e]
  exact opI0
theorem ofR {ds : List PyData} (h : ds ≠ []) (h2 : ds.length < 2 ^ 20) : rOf [.g (.list ds)] (fun d => d ∈ ds) := ⟨ds, h, h2, rfl, rfl⟩
def rPiece (ds : List PyData) (Pr : PyData → Prop) : Prop := ∃ n : Nat, 1 ≤ n ∧ n ≤ 3 ∧ ds = [eN n] ∧ Pr = fun d => ∃ p, SP n p ∧ d = ePiece p
section
variable {P : Program} {w : World} {K : PySem.W.Frag} {mg : Str → Option Value} {base : Heap} {k : Nat}
def N49 : List Str := ["_law_n", "_law_many_so", "_law_stands_so", "_law_steps", "_law_k", "_law_stands", "_law_row_so", "_law_lap", "_law_far"]
theorem scS49 : FnScope ["_law_urn", "_law_n", "_law_many_so", "_law_stands_so", "_law_steps", "_law_k", "_law_stands", "_law_row_so", "_law_lap", "_law_far"] ["_law_urn", "_law_n"] (defScope (top 49)) := ⟨rfl, rfl, rfl, by decide +kernel, rfl, by decide +kernel, by decide +kernel⟩
/-- a row of the stand number k -/
structure RowOk (many stands k : Nat) (m : Nat) (row : List (Nat × Nat)) : Prop where
  ne : row ≠ []
  len : row.length ≤ m
  arr : ∀ a ∈ row, a.1 < many ∧ k < a.2 ∧ a.2 ≤ stands
def nRow (a : Addr) (c n many stands kk : Nat) (st : PyData) (S : List (List (Nat × Nat))) (i : Nat) (z : List Cell) : Prop := ∃ row, RowOk many stands kk (i + 1) row ∧ z = uG a (c + i * 2) [.dat (eN n), .dat (eN many), .dat (eN stands), .dat st, .dat (eN kk), .own (.lst (S.map eWays)), .own (.lst (row.map eArr)), .un, .un]
def nStands (a : Addr) (c n many stands : Nat) (st : PyData) (i : Nat) (z : List Cell) : Prop := ∃ S : List (List (Nat × Nat)), S.length = i ∧ (∀ j row, S[j]? = some row → RowOk many stands j 3 row) ∧ z = uG a (c + i * 6) [.dat (eN n), .dat (eN many), .dat (eN stands), .dat st, .un, .own (.lst (S.map eWays)), .un, .un, .un]
theorem ok_piece49 (B : Blt mg) (D : DefAt K mg "_law_piece" 49 ["_law_urn", "_law_n"]) (O : OkU P w K mg base "_law_take" k ["_law_urn", "_law_low_so"] 1 rTake) (O2 : OkX P w K mg base "_law_of" k ["_law_urn", "_law_some_so"] 1 rOf) (O3 : OkU P w K mg base "_law_looks" k ["_law_urn", "_law_n"] 16 rLooks) : OkU P w K mg base "_law_piece" (k + 1) ["_law_urn", "_law_n"] 80 rPiece := by
  refine okU' D scS49 (fun as Pr h => by obtain ⟨_, _, _, rfl, _⟩ := h; rfl) fun nd f cdv A outer s H E hr a c as Pr h hc => ?_
  obtain ⟨n, n1, n3, rfl, rfl⟩ := h
  refine ur_ch (ch_par 1 2 (P1 := fun d => ∃ m : Nat, 1 ≤ m ∧ m ≤ 3 ∧ d = eN m) (P2 := fun d => ∃ m : Nat, m ≤ 3 ∧ d = eN m) (EU.to (eu_op op_add (Pr := fun d => ∃ m : Nat, 1 ≤ m ∧ m ≤ 3 ∧ d = eN m) de_int.eu (du_fn O hr (dr_t de_int dr_nil) (ds := [eN 3]) ⟨3, by omega, by omega, rfl, rfl⟩ (by omega)) ?_) fun _ z => z) (EU.to (eu_fnL O2 hr (dn_lst (du_cons de_int (du_cons de_int (du_cons de_int (du_cons de_int (du_cons de_int (du_cons de_int du_nil))))))) (ds := [eN 0, eN 1, eN 1, eN 2, eN 2, eN 3]) (ofR (List.cons_ne_nil _ _) (Nat.le_trans (m := 1000) (Nat.le_of_ble_eq_true rfl) (by omega))) ?_ (by omega)) ?_)) fun Γ' ⟨x, y, ⟨many, m1, m3, ex⟩, ⟨stands, s3, ey⟩, eG⟩ => ?_
  · rintro x y rfl ⟨j, hj, rfl⟩
    exact ⟨eN (1 + j), ⟨1 + j, by omega, by omega, rfl⟩, opAddN 1 j⟩
  · intro d hd
    simp only [List.mem_cons, List.not_mem_nil, or_false] at hd
    rcases hd with rfl | rfl | rfl | rfl | rfl | rfl <;> rfl
  · intro d hd
    simp only [List.mem_cons, List.not_mem_nil, or_false] at hd
    rcases hd with rfl | rfl | rfl | rfl | rfl | rfl
    · exact ⟨0, by omega, rfl⟩
    · exact ⟨1, by omega, rfl⟩
    · exact ⟨1, by omega, rfl⟩
    · exact ⟨2, by omega, rfl⟩
    · exact ⟨2, by omega, rfl⟩
    · exact ⟨3, by omega, rfl⟩
  subst eG ex ey
  refine ur_ch (ch_set 3 (eu_tupL (en_lc [("_law_k", 5)] false 16 (xs := List.range many) (enc := fun i => .t (eN i)) (Pr := fun _ d => ∃ L, VLooks n L ∧ d = eStep L) (di_range (j := many) (de_var 2) B.range) (fun i x hx => ?_) (by simp; omega)) B.tuple)) fun Γ' ⟨d, ⟨ds, hd, ed⟩, eG⟩ => ?_
  · have hi : i < many := by simpa using (List.getElem?_eq_some_iff.mp hx).1
    refine ⟨c + 1 + 1 + i * 16, _, [5], ⟨by decide, by omega, fun s H C cl fp => dg_name 5, fun s H C cl fp => um_nil, fun s H C cl fp => EU.up (EU.to (eu_tup (eus_cons (du_fn O3 hr (dr_t (de_var 1) dr_nil) (ds := [eN n]) ⟨n, n1, n3, rfl, rfl⟩ (by omega)) (eus_cons de_non.eu eus_nil)) ?_) ?_) (by omega)⟩⟩
    · rintro ds ⟨d, ds', _, ⟨d2, ds2, _, rfl, rfl⟩, rfl⟩
      exact Nat.le_of_ble_eq_true rfl
    · rintro d ⟨ds, ⟨d, ds', ⟨L, vL, rfl⟩, ⟨d2, ds2, rfl, rfl, rfl⟩, rfl⟩, rfl⟩
      exact ⟨L, vL, rfl⟩
  subst eG ed
  obtain ⟨Ls, rfl, hl, hv⟩ := drewMap (f := eStep) (fun x d h => h) hd
  rw [List.length_range] at hl ⊢
  refine ur_cons (ds_setO 6 (ds := []) (dn_lst du_nil)) (ur_ch (ch_for (nStands a (c + 1 + 1 + many * 16) n many stands (.tuple (Ls.map eStep))) (xs := List.range stands) (enc := fun i => .t (eN i)) (di_range (j := stands) (de_var 3) B.range) ?_ fun i x G hx ⟨S, hS, hr', eG⟩ => ?_) fun Γ' ⟨S, hS, hr', eG⟩ => ?_)
  · exact ⟨[], rfl, (fun j row h => by cases h), rfl⟩
  · subst eG
    have hi : i < stands := by simpa using (List.getElem?_eq_some_iff.mp hx).1
    have ex : x = i := by
      obtain ⟨h1, h2⟩ := List.getElem?_eq_some_iff.mp hx
      simpa using h2.symm
    subst ex
    refine ⟨_, _, dg_name 5, ch_cons (ch_setO 6 (en_lst1 (eu_tup (eus_cons (du_fn O hr (dr_t (de_var 2) dr_nil) (ds := [eN many]) ⟨many, by omega, by omega, rfl, rfl⟩ (by omega)) (eus_cons (DE.eu (de_op op_add (opAddN x 1) (de_var 5) de_int)) eus_nil)) ?_))) fun Γ' ⟨ds, ⟨d, ⟨ds2, ⟨d3, ds3, ⟨j, hj, ej⟩, ⟨d4, ds4, e4, e5, e6⟩, e7⟩, e8⟩, e9⟩, eG⟩ => ?_⟩
    · rintro ds ⟨d, ds', _, ⟨d2, ds2, _, rfl, rfl⟩, rfl⟩
      exact Nat.le_of_ble_eq_true rfl
    subst eG e9 e8 e7 e6 e5 e4 ej
    have vR : RowOk many stands x 1 [(j, x + 1)] := ⟨List.cons_ne_nil _ _, Nat.le_refl _, fun a ha => by rw [List.mem_singleton.mp ha]; exact ⟨hj, Nat.lt_succ_self _, hi⟩⟩
    refine ch_cons (ch_forU (QM := fun m => m ≤ 2) (c' := c + 1 + 1 + many * 16 + x * 6 + 1 + 1) (fun _ => nRow a (c + 1 + 1 + many * 16 + x * 6 + 1 + 1) n many stands x (.tuple (Ls.map eStep)) S) (iu_range (eu_fnL O2 hr (dn_lst (du_cons de_int (du_cons de_int (du_cons de_int (du_cons de_int du_nil))))) (ds := [eN 0, eN 1, eN 1, eN 2]) (ofR (List.cons_ne_nil _ _) (Nat.le_trans (m := 1000) (Nat.le_of_ble_eq_true rfl) (by omega))) ?_ (by omega)) ?_ B.range) (fun m hm => ⟨_, vR, rfl⟩) fun m i G hm hil ⟨row, hrow, eG⟩ => ?_) fun Γ' ⟨m, hm, row, hrow, eG⟩ => ?_
    · intro d hd
      simp only [List.mem_cons, List.not_mem_nil, or_false] at hd
      rcases hd with rfl | rfl | rfl | rfl <;> rfl
    · intro d hd
      simp only [List.mem_cons, List.not_mem_nil, or_false] at hd
      rcases hd with rfl | rfl | rfl | rfl
      · exact ⟨0, rfl, by omega, by omega⟩
      · exact ⟨1, rfl, by omega, by omega⟩
      · exact ⟨1, rfl, by omega, by omega⟩
      · exact ⟨2, rfl, by omega, by omega⟩
    · subst eG
      refine ⟨_, _, dg_name 8, ch_cons (ch_set 8 (c' := c + 1 + 1 + many * 16 + x * 6 + 1 + 1 + i * 2 + 1 + 1) (Pr := fun d => ∃ y : Nat × Nat, (y.1 < many ∧ x < y.2 ∧ y.2 ≤ stands) ∧ d = eArr y) (EU.to (eu_tup (eus_cons (du_fn O hr (dr_t (de_var 2) dr_nil) (ds := [eN many]) ⟨many, by omega, by omega, rfl, rfl⟩ (by omega)) (eus_cons (eu_op op_add (Pr := fun d => ∃ y, (x < y ∧ y ≤ stands) ∧ d = eN y) (DE.eu (de_op op_add (opAddN x 1) (de_var 5) de_int)) (du_fn O hr (dr_t (de_op op_sub (opSubN stands x (by omega)) (de_var 3) (de_var 5)) dr_nil) (ds := [eN (stands - x)]) ⟨stands - x, by omega, by omega, rfl, rfl⟩ (by omega)) ?_) eus_nil)) ?_) ?_)) fun Γ' ⟨d, ⟨y, hy, ed⟩, eG⟩ => ?_⟩
      · rintro u v rfl ⟨q, hq, rfl⟩
        exact ⟨eN (x + 1 + q), ⟨x + 1 + q, by omega, rfl⟩, opAddN (x + 1) q⟩
      · rintro ds ⟨d, ds', _, ⟨d2, ds2, _, rfl, rfl⟩, rfl⟩
        exact Nat.le_of_ble_eq_true rfl
      · rintro d ⟨ds, ⟨d1, ds1, ⟨q, hq, rfl⟩, ⟨d2, ds2, ⟨y, hy, rfl⟩, rfl, rfl⟩, rfl⟩, rfl⟩
        exact ⟨(q, y), ⟨hq, hy.1, hy.2⟩, rfl⟩
      · subst eG ed
        have hrl : row.length ≤ 100 := Nat.le_trans hrow.len (by omega)
        refine chs_to (N := fun z => z = uG a (c + 1 + 1 + many * 16 + x * 6 + 1 + 1 + i * 2 + 1 + 1) [.dat (eN n), .dat (eN many), .dat (eN stands), .dat (.tuple (Ls.map eStep)), .dat (eN x), .own (.lst (S.map eWays)), .own (.lst ((if (row.map eArr).any fun z => PyData.eqv z (eArr y) then row else row ++ [y]).map eArr)), .dat (eN i), .dat (eArr y)]) (ch_cons (N := fun z => z = _) (ch_if (b := !(row.map eArr).any fun z => PyData.eqv z (eArr y)) (dt_notInL (by have := hr.un; omega) (DE.g (de_var 9)) (do_var 7) ((nice_Arr y).shaped (by decide)) ((nice_lmap (k := 1) nice_Arr).shaped (by decide))) (fun hb => ch_cons (ch_det (ds_app 7 (ds := row.map eArr) (de_var 9) (by rw [List.length_map]; omega))) fun Γ' e => ch_nil ?_) fun hb => ch_nil ?_) fun Γ' e => ch_nil e) fun z hz => ?_
        · rw [e]
          have hb' : ((row.map eArr).any fun z => PyData.eqv z (eArr y)) = false := by simpa using hb
          rw [hb']
          show _ = uG a _ [_, _, _, _, _, _, .own (.lst ((row ++ [y]).map eArr)), _, _]
          rw [List.map_append]
          rfl
        · have hb' : ((row.map eArr).any fun z => PyData.eqv z (eArr y)) = true := by simpa using hb
          rw [hb']
          rfl
        · subst hz
          refine ⟨_, ⟨if (row.map eArr).any fun z => PyData.eqv z (eArr y) then row else row ++ [y], ?_, rfl⟩, ?_⟩
          · split
            · exact ⟨hrow.ne, Nat.le_succ_of_le hrow.len, hrow.arr⟩
            · refine ⟨(fun z => by cases (List.append_eq_nil_iff.mp z).2), by rw [List.length_append]; exact Nat.succ_le_succ hrow.len, fun b hb => ?_⟩
              rcases List.mem_append.mp hb with hb | hb
              · exact hrow.arr b hb
              · rw [List.mem_singleton.mp hb]; exact hy
          · exact .cons (.urn (by omega)) (.cons (.eq _) (.cons (.eq _) (.cons (.eq _) (.cons (.eq _) (.cons (.eq _) (.cons (.eq _) (.cons (.eq _) (.cons (.un _) (.cons (.un _) .nil)))))))))
    · subst eG
      refine chs_to (ch_cons (ch_det (ds_app 6 (ds := S.map eWays) (de_tupL (do_var 7) B.tuple) (by rw [List.length_map, hS]; omega))) fun Γ' e => ch_nil (N := fun z => z = _) e) fun z hz => ?_
      subst hz
      refine ⟨_, ⟨S ++ [row], by rw [List.length_append, hS]; rfl, fun j' row' hj' => ?_, rfl⟩, ?_⟩
      · by_cases hl' : j' < S.length
        · rw [List.getElem?_append_left hl'] at hj'
          exact hr' j' row' hj'
        · rw [List.getElem?_append_right (by omega)] at hj'
          have e0 : j' - S.length = 0 := by
            cases hq : j' - S.length with
            | zero => rfl
            | succ q => rw [hq] at hj'; cases hj'
          rw [e0] at hj'
          have ej : j' = x := by omega
          have er : row = row' := Option.some.inj hj'
          subst ej er
          exact ⟨hrow.ne, Nat.le_trans hrow.len (by omega), hrow.arr⟩
      · rw [List.map_append]
        exact .cons (.urn (by omega)) (.cons (.eq _) (.cons (.eq _) (.cons (.eq _) (.cons (.eq _) (.cons (.un _) (.cons (.eq _) (.cons (.un _) (.cons (.un _) (.cons (.un _) .nil)))))))))
  · subst eG
    rw [List.length_range] at hS ⊢
    have hv' : ∀ L ∈ Ls, VLooks n L := hv
    refine UR.up (ur_ret (EU.to (DE.eu (de_tup (du_cons (de_var 4) (du_cons (de_tupL (do_var 6) B.tuple) du_nil)))) fun d hd => ⟨⟨Ls, S⟩, ⟨n1, n3, ?_, by show Ls.length ≤ 4; omega, hv', fun i row h => ?_, fun row h => ?_, .inl ⟨by show S.length ≤ 3; omega, fun row h => ?_⟩⟩, hd⟩)) (by omega)
    · intro z
      have : Ls = [] := z
      rw [this] at hl
      simp at hl; omega
    · show ∀ a ∈ row, a.1 < Ls.length ∧ i < a.2 ∧ a.2 ≤ S.length
      rw [hl, hS]
      exact (hr' i row h).arr
    · obtain ⟨i, hi⟩ := List.getElem?_of_mem h
      exact (hr' i row hi).ne
    · obtain ⟨i, hi⟩ := List.getElem?_of_mem h
      exact (hr' i row hi).len
end
end K54
set_option Elab.async false
set_option linter.all false
set_option autoImplicit false
set_option maxRecDepth 100000
set_option maxHeartbeats 4000000
/-! K54: a tuple read backwards -/
namespace K54
open PySem PySem.Spec PyProof.Rows L2
section
variable {prog : Program} {w : World} {A : Around} {E : Value → Shared → Prop} {s : Shared}
theorem k54_back {n : Nat} (hn : 0 < n) : Builtin.Slice.slicePlaces ((n : Int) - 1) (-1) (-1) = n := by
  unfold Builtin.Slice.slicePlaces
  have h1 : ¬ ((-1 : Int) > 0) := by omega
  have h2 : ((n : Int) - 1) > -1 := by omega
  simp only [h1, if_false, h2, if_true]
  rw [show (-(-1) : Int) = 1 from rfl, Int.ediv_one]
  omega
theorem k54_back0 : Builtin.Slice.slicePlaces (((0 : Nat) : Int) - 1) (-1) (-1) = 0 := by decide
theorem k54_sliceBack {sl : Addr} {vl vu vs : Value} {n : Nat} {Q : Int × Int × Nat → Shared → Prop} (hs : s.heap.IsSliceOf sl vl vu vs) (pl : IsPart vl none) (pu : IsPart vu none) (ps : IsPart vs (some (-1)))
    (h : Q ((n : Int) - 1, -1, n) s) : wpAny (model prog w) A (Builtin.Slice.sliceApplied (.ref sl) (pure (n : Int))) Q E s := by
  obtain ⟨os, hos, hcs, hds⟩ := id hs
  unfold Builtin.Slice.sliceApplied Builtin.Slice.sliceFields
  refine wpAny_bind (wpAny_bind (wpAny_field hos hds (x := vl) rfl (wpAny_bind (wpAny_field hos hds (x := vu) rfl (wpAny_bind (wpAny_field hos hds (x := vs) rfl (wpAny_pure ?_)))))))
  refine wpAny_bind (HT.slicePart_ ps ?_)
  show wpAny _ _ (if ((-1 : Int) == 0) = true then _ else _) _ _ s
  rw [if_neg (by decide)]
  refine wpAny_bind (HT.slicePart_ pl (wpAny_bind (HT.slicePart_ pu (wpAny_bind (wpAny_pure ?_)))))
  show wpAny _ _ (pure ((n : Int) - 1, (-1 : Int), Builtin.Slice.slicePlaces ((n : Int) - 1) (-1) (-1))) _ _ s
  refine wpAny_pure ?_
  cases n with
  | zero => rw [k54_back0]; exact h
  | succ n => rw [k54_back (Nat.succ_pos n)]; exact h
theorem k54_fmCongr {α β : Type} {f g : α → Option β} : ∀ {l : List α}, (∀ x ∈ l, f x = g x) → l.filterMap f = l.filterMap g
  | [], _ => rfl
  | x :: l, h => by
    rw [List.filterMap_cons, List.filterMap_cons, h x List.mem_cons_self, k54_fmCongr fun y hy => h y (List.mem_cons_of_mem _ hy)]
theorem k54_fmTake {α : Type} (l : List α) : ∀ n : Nat, (List.range n).filterMap (fun m => l[m]?) = l.take n
  | 0 => rfl
  | n + 1 => by
    rw [List.range_succ, List.filterMap_append, k54_fmTake l n, List.take_add_one]
    cases h : l[n]? <;> simp [List.filterMap_cons, h]
theorem k54_pickBack (xs : Array Value) : ((List.range xs.size).filterMap fun (m : Nat) => xs[((xs.size : Int) - 1 + (m : Int) * (-1)).toNat]?).toArray = xs.toList.reverse.toArray := by
  have e : (List.range xs.size).filterMap (fun (m : Nat) => xs[((xs.size : Int) - 1 + (m : Int) * (-1)).toNat]?) = (List.range xs.size).filterMap fun m => xs.toList.reverse[m]? := by
    refine k54_fmCongr fun m hm => ?_
    have hm := List.mem_range.mp hm
    have e1 : ((xs.size : Int) - 1 + (m : Int) * (-1)).toNat = xs.size - 1 - m := by omega
    rw [e1, List.getElem?_reverse (by rw [Array.length_toList]; exact hm), Array.length_toList, Array.getElem?_toList]
  rw [e, k54_fmTake, List.take_of_length_le (by simp)]
theorem k54_tupBack {t sl : Addr} {items : Array Value} {vl vu vs : Value} {Q : Value → Shared → Prop} (ht : IsTup s.heap t items) (hs : s.heap.IsSliceOf sl vl vu vs) (pl : IsPart vl none) (pu : IsPart vu none) (ps : IsPart vs (some (-1)))
    (h : Q (.ref s.heap.objs.size) { s with heap := s.heap.push { cls := .type "tuple", data := .seq items.toList.reverse.toArray } })
    (hsz : items.size ≤ sizeLine) : wpAny (model prog w) A (getItem (.ref t) (.ref sl)) Q E s := by
  have htake : sizeOk (.seq items.toList.reverse.toArray) := by
    show items.toList.reverse.toArray.size ≤ sizeLine
    rw [List.size_toArray, List.length_reverse, Array.length_toList]
    exact hsz
  obtain ⟨os, hos, hcs, hds⟩ := id hs
  have hTs : s.TypeIs (.ref sl) "slice" := ⟨os, hos, hcs⟩
  unfold getItem
  try with_reducible refine wpAny_holding ?_
  first | refine wpAny_bind (wpAny_pure ?_) | skip
  refine wpAny_bind (wpAny_sequenceKey ht.typeIs (by decide) ?_)
  refine wpAny_bind (wpAny_callSpecial?_slot (name := Str.ofString "__getitem__") ht.typeIs PyProof.Rows.slot_tuple_getitem
    (wpAny_call_entry PyProof.Rows.slot_tuple_getitem ht.typeIs entry_tuple_getitem ?_ (args_tuple_getitem _ _)))
  show wpAny _ _ (Builtin.Tuple.tupleItemsOf (.ref t) >>= _) _ _ s
  refine wpAny_bind (tupleItemsOf_ ht ?_)
  refine wpAny_bind (wpAny_typeOf hTs ?_)
  rw [if_pos (by decide)]
  refine wpAny_bind (k54_sliceBack hs pl pu ps ?_)
  have hno : ¬ ((((items.size : Int) - 1) == 0 && (-1 : Int) == 1 && items.size == items.size) = true) := by
    intro q
    rw [Bool.and_eq_true, Bool.and_eq_true] at q
    exact absurd q.1.2 (by decide)
  show wpAny _ _ (if (((items.size : Int) - 1) == 0 && (-1 : Int) == 1 && items.size == items.size) = true then _ else _) _ _ s
  rw [if_neg hno, k54_pickBack]
  first
    | exact wpAny_bind (m := Builtin.Tuple.tupleExact _) (wpAny_newObj_type (wpAny_pure ⟨_, rfl, wpAny_pure h⟩) htake)
    | exact wpAny_bind (m := Builtin.Tuple.tupleExact _) (wpAny_newObj_type (wpAny_bind (wpAny_pure (wpAny_pure ⟨_, rfl, wpAny_pure h⟩))) htake)
    | exact wpAny_bind (wpAny_bind (m := Builtin.Tuple.tupleExact _) (wpAny_newObj_type (wpAny_pure (wpAny_pure ⟨_, rfl, wpAny_pure h⟩)) htake))
    | exact wpAny_bind (wpAny_bind (m := Builtin.Tuple.tupleExact _) (wpAny_newObj_type (wpAny_pure ⟨_, rfl, wpAny_pure h⟩) htake))
end
section
variable {X : Cx}
def tRevT (K : PySem.W.Frag) (te : TE) : TE := fun σ H Q => te σ H fun x H1 => ∃ a xs, x = .ref a ∧ SqT K H1 a xs ∧ ∀ p, H1 p = none → Q (.ref p) (upd H1 p (.tup xs.reverse))
theorem pe_revT {e : Expr} {te : TE} {k : Nat} {p1 p2 p3 pos : Pos} (he : PE X e te) : PE X (.Subscript e (.Slice none none (some (.UnaryOp .USub (.Constant (.int 1) k p1) p2)) p3) pos) (tRevT X.K te) := by
  refine ⟨fun pins s σ H Q I h => ?_⟩
  refine Subscript_ (thn (he.run pins s σ H _ I h) fun v s1 ⟨x, H1, I1, r1, q1⟩ => ?_)
  obtain ⟨a, xs, ex, hx, q⟩ := q1
  subst ex
  cases r1
  have hst : PO X (some (.UnaryOp .USub (.Constant (.int 1) k p1) p2)) (tPart (L2.tUn (rU fun i => .int (-i)) (tC (.int 1)))) := po_some (pe_un un_neg pe_int)
  refine wpAny_Slice (thn (po_none.run pins s1 σ H1 (fun o H2 => o = none ∧ H2 = H1) I1 ⟨rfl, rfl⟩) fun vl s2 ⟨l, H2, I2, pl, el, e2⟩ => ?_)
  subst el e2
  refine thn (po_none.run pins s2 σ H2 (fun o H3 => o = none ∧ H3 = H2) I2 ⟨rfl, rfl⟩) fun vu s3 ⟨u, H3, I3, pu, eu, e3⟩ => ?_
  subst eu e3
  refine thn (hst.run pins s3 σ H3 (fun o H4 => o = some (-1) ∧ H4 = H3) I3 ⟨1, rfl, -1, rfl, rfl, rfl⟩) fun vs s4 ⟨o, H4, I4, ps, eo, e4⟩ => ?_
  subst eo e4
  have I5 : Inv X pins σ H4 { s4 with heap := s4.heap.push { cls := .type "slice", data := .fields #[vl, vu, vs] } } := I4.kept (t' := s4.toks) fun b ob q => Heap.get?_push_of_some _ q
  obtain ⟨its, r, ht, hz⟩ := I5.tuple hx
  have hlen := r.length
  show wpAny (model X.prog X.w) X.A (subscriptTail e (.Slice none none (some (.UnaryOp .USub (.Constant (.int 1) k p1) p2)) p3) (.ref a) (.ref s4.heap.objs.size)) (EP X pins σ Q) X.xe { s4 with heap := s4.heap.push { cls := .type "slice", data := .fields #[vl, vu, vs] } }
  refine tail_any (ops := [.ref a, .ref s4.heap.objs.size]) ht.typeIs (PyProof.Rows.slot_tuple_getitem.lookup) ?_ (by with_unfolding_all rfl)
  refine k54_tupBack ht (Heap.IsSliceOf.new _ vl vu vs) pl pu ps ?_ (by rw [List.size_toArray]; omega)
  refine ⟨.ref _, _, I5.laid (t' := s4.toks) (o := .tup xs.reverse) (fun b ob q => Heap.get?_push_of_some _ q) (Nat.le_refl _) ?_, rfl, q _ (I5.hok.fresh (Nat.le_refl _))⟩
  exact ⟨by rw [List.length_reverse]; exact hz, _, r.reverse, IsTup.new _ _⟩
theorem TDs.reverse {K : PySem.W.Frag} {H : Hp} : ∀ {vs : List V} {ds : List PyData}, TDs K H vs ds → TDs K H vs.reverse ds.reverse
  | _, [], h => by cases h; exact .nil
  | _, d :: ds, h => by
    cases h with
    | cons h1 h2 =>
      rw [List.reverse_cons, List.reverse_cons]
      exact (TDs.reverse h2).append (.cons h1 .nil)
theorem de_revT {Γ : List Cell} {e : Expr} {ds : List PyData} {k : Nat} {p1 p2 p3 pos : Pos} (h : DE X Γ e (.tuple ds)) : DE X Γ (.Subscript e (.Slice none none (some (.UnaryOp .USub (.Constant (.int 1) k p1) p2)) p3) pos) (.tuple ds.reverse) :=
  PE.wk (pe_revT h) fun σ H Q ⟨H0, ok, q⟩ => ⟨H0, ok, fun v H1 e1 r1 => by
    cases r1 with
    | @tup a xs _ s r => exact ⟨a, xs, rfl, s, fun p hp => q _ _ (e1.trans (sameNew hp)) (.tup (.of upd_same) (r.reverse.ex (sameNew hp)))⟩⟩
end
end K54
set_option Elab.async false
set_option linter.all false
set_option autoImplicit false
set_option maxRecDepth 100000
set_option maxHeartbeats 4000000
/-! K54: the urn, 10: displays of any data; bent -/
namespace K54
open PySem PySem.Spec PyProof.Rows L2
def tBss (P : Program) (w : World) (K : PySem.W.Frag) (Γ : List Cell) (ds : List PyData) : TA := fun σ H Q => ∃ H0, EnvOk P w K H0 H σ Γ ∧ ∀ vs H' Hb, Same H H' → Same H0 Hb → (∀ a u, H a = some u → (∀ xs, ¬ Rd H a (.tup xs)) → H0 a = none → Hb a = none) → EnvOk P w K Hb H' σ Γ → DpAll K Hb vs ds → Q vs H'
abbrev DBs (X : Cx) (Γ : List Cell) (es : List Expr) (ds : List PyData) : Prop := PA X es (tBss X.prog X.w X.K Γ ds)
section
variable {X : Cx} {Γ Γt : List Cell} {e e1 e2 t : Expr} {es : List Expr} {d : PyData} {ds : List PyData} {pos : Pos} {a : Addr} {c c1 c2 c' : Nat} {Pr P1 P2 : PyData → Prop} {kk : Nat}
theorem dbs_nil : DBs X Γ [] [] := PA.wk pa_nil fun σ H Q ⟨H0, ok, q⟩ => q [] H H0 (Same.refl H) (Same.refl H0) (fun _ _ _ _ n => n) ok .nil
theorem dbs_cons (h : DB X Γ e d) (hr : DBs X Γ es ds) (hs : starEach (e :: es) X.env = (false, eval e X.env) :: starEach es X.env := by rfl) : DBs X Γ (e :: es) (d :: ds) :=
  PA.wk (pa_cons h hr hs) fun σ H Q ⟨H0, ok, q⟩ => ⟨H0, ok, fun v H1 Hb e1 b1 n1 ok1 r1 => ⟨Hb, ok1, fun vs H2 Hc e2 b2 n2 ok2 r2 => q (v :: vs) H2 Hc (e1.trans e2) (b1.trans b2) (freshTwice e1 n1 n2) ok2 (.cons (dpEx b2 r1) r2)⟩⟩
theorem db_lst (h : DBs X Γ es ds) (hz : ds.length ≤ 1000) : DB X Γ (.List es pos) (.list ds) :=
  PE.wk (pe_lst h) fun σ H Q ⟨H0, ok, q⟩ => ⟨H0, ok, fun vs H1 Hb e1 b1 n1 ok1 r1 => by
    have hl : vs.length ≤ sizeLine := by rw [dpAllLen r1]; exact Nat.le_trans hz (by decide)
    refine ⟨hl, fun p hp => ?_⟩
    obtain ⟨Hc, c1, c2, c3, c4, c5, c6⟩ := ok1.grow (sameNew (o := .lst vs) hp)
    exact q _ _ Hc (e1.trans (sameNew hp)) (b1.trans c1) (freshTwice e1 n1 c6) c3 (.lst (.of (c4 p _ upd_same hp)) (dpsEx c1 r1))⟩
theorem db_if' : True := trivial
/-- (e,), e draws data of any kind -/
theorem ex_tup1 (h : EX X Γt a c c' e Pr) (hs : starEach [e] X.env = (false, eval e X.env) :: starEach [] X.env := by rfl) : EX X Γt a c c' (.Tuple [e] kk pos) (fun d => ∃ x, Pr x ∧ d = .tuple [x]) :=
  PE.wk (pe_tup (pa_cons h pa_nil hs)) fun σ H Q ⟨H0, ok, q⟩ => ⟨H0, ok, fun v H1 Hb d f b1 ok1 hd r1 => by
    refine ⟨by show 1 ≤ sizeLine; decide, fun p hp => ?_⟩
    obtain ⟨Hc, k1, k2, k3, k4, k5, k6⟩ := ok1.grow (sameNew (o := .tup [v]) hp)
    exact q _ _ Hc _ (f.trans (.of (sameNew hp))) (b1.trans k1) k3 ⟨d, hd, rfl⟩ (.tup (k5.sqT (.of upd_same)) (.cons (dpEx k1 r1) .nil))⟩
/-- tuple + tuple -/
theorem ex_cat (ha : EX X Γt a c c1 e1 P1) (hb : EX X Γt a c1 c2 e2 P2) (hr : ∀ x y, P1 x → P2 y → ∃ ds es, x = .tuple ds ∧ y = .tuple es ∧ ds.length + es.length ≤ 1000 ∧ Pr (.tuple (ds ++ es))) : EX X Γt a c c2 (.BinOp e1 .Add e2 pos) Pr :=
  PE.wk (pe_op op_catA ha hb) fun σ H Q ⟨H0, ok, q⟩ => ⟨H0, ok, fun v H1 Hb d1 f1 b1 ok1 hd1 r1 => ⟨Hb, ok1, fun u H2 Hc d2 f2 b2 ok2 hd2 r2 => by
    obtain ⟨ds, es, rfl, rfl, hz, hp⟩ := hr d1 d2 hd1 hd2
    have r1' := dpEx b2 r1
    cases r1' with
    | @tup p xs _ s1 t1 =>
      cases r2 with
      | @tup p2 ys _ s2 t2 =>
        have l1 := dpAllLen t1
        have l2 := dpAllLen t2
        refine ⟨p, p2, xs, ys, rfl, rfl, sqTSame ok2.ex s1, sqTSame ok2.ex s2, by rw [l1, l2]; exact Nat.le_trans hz (by decide), fun e => ?_, fun _ e => ?_, fun _ _ p3 hp3 => ?_⟩
        · subst e
          cases t1
          exact q _ H2 Hc _ (f1.trans f2) (b1.trans b2) ok2 hp (.tup s2 t2)
        · subst e
          cases t2
          rw [List.append_nil] at hp
          exact q _ H2 Hc _ (f1.trans f2) (b1.trans b2) ok2 hp (.tup s1 t1)
        · obtain ⟨Hd, k1, k2, k3, k4, k5, k6⟩ := ok2.grow (sameNew (o := .tup (xs ++ ys)) hp3)
          have app : ∀ {xs ys : List V} {ds es : List PyData}, DpAll X.K Hd xs ds → DpAll X.K Hd ys es → DpAll X.K Hd (xs ++ ys) (ds ++ es) := by
            intro xs ys ds es h
            induction ds generalizing xs with
            | nil => intro k; cases h; exact k
            | cons z ds ih =>
              intro k
              cases h with
              | cons g1 g2 => exact .cons g1 (ih g2 k)
          exact q _ _ Hd _ ((f1.trans f2).trans (.of (sameNew hp3))) ((b1.trans b2).trans k1) k3 hp (.tup (k5.sqT (.of upd_same)) (app (dpsEx k1 t1) (dpsEx k1 t2)))⟩⟩
/-- a test, then a test that draws -/
theorem ut_and {k : Bool} (h : DT X (uG a c Γt) e1 k) (h2 : k = true → PT X e2 (tUt X.prog X.w X.K Γt a c c')) (hc : c ≤ c') : PT X (.BoolOp .And [e1, e2] pos) (tUt X.prog X.w X.K Γt a c c') :=
  PT.wk (PW.pt (pw_and h (ptIf fun hk => pw_and1 (h2 hk)))) fun σ H Q ⟨H0, ok, q⟩ => ⟨H0, ok, fun H1 e1 => by
    cases k with
    | true => exact ⟨rfl, H0, ok.mono e1, fun b H2 f ok2 => q b H2 ((Fu.of e1).trans f) ok2⟩
    | false => exact q false H1 (.of e1) ((ok.mono e1).wk (eleUrn hc))⟩
end
end K54
set_option Elab.async false
set_option linter.all false
set_option autoImplicit false
set_option maxRecDepth 100000
set_option maxHeartbeats 4000000
/-! K54: the urn, 11: bent -/
namespace K54
open PySem PySem.Spec PyProof.Rows L2
mutual
/-- ints and short tuples of such -/
def nest : PyData → Bool
  | .int _ => true
  | .tuple ds => decide (ds.length ≤ 10) && nests ds
  | .none => false
  | .bool _ => false
  | .str _ => false
  | .list _ => false
  | .dict _ => false
def nests : List PyData → Bool
  | [] => true
  | d :: ds => nest d && nests ds
end
theorem nests_mem : ∀ {ds : List PyData}, nests ds = true → ∀ d ∈ ds, nest d = true
  | [], _, _, h => by cases h
  | x :: ds, hs, d, h => by
    simp only [nests, Bool.and_eq_true] at hs
    rcases List.mem_cons.mp h with e | h
    · rw [e]; exact hs.1
    · exact nests_mem hs.2 d h
theorem nests_map {α : Type} {f : α → PyData} : ∀ {xs : List α}, (∀ x ∈ xs, nest (f x) = true) → nests (xs.map f) = true
  | [], _ => rfl
  | x :: xs, h => by
    rw [List.map_cons, nests, h x List.mem_cons_self, nests_map fun y hy => h y (List.mem_cons_of_mem _ hy)]; rfl
mutual
theorem nest_tiny : ∀ d : PyData, nest d = true → tiny d = true
  | .tuple ds, h => by
    simp only [nest, Bool.and_eq_true, decide_eq_true_eq] at h
    rw [tiny, nests_tinys ds h.2, decide_eq_true (by omega)]; rfl
  | .int _, _ => rfl
  | .none, h => by simp [nest] at h
  | .bool _, h => by simp [nest] at h
  | .str _, h => by simp [nest] at h
  | .list _, h => by simp [nest] at h
  | .dict _, h => by simp [nest] at h
theorem nests_tinys : ∀ ds : List PyData, nests ds = true → tinys ds = true
  | [], _ => rfl
  | d :: ds, h => by
    simp only [nests, Bool.and_eq_true] at h
    rw [tinys, nest_tiny d h.1, nests_tinys ds h.2]; rfl
end
/-- tiny, and not deeper than k -/
def Tk (k : Nat) (d : PyData) : Prop := tiny d = true ∧ d.depth ≤ k
theorem tk_all {k : Nat} : ∀ {ds : List PyData}, (∀ d ∈ ds, Tk k d) → tinys ds = true ∧ PyData.depthAll ds ≤ k
  | [], _ => ⟨rfl, by simp [PyData.depthAll]⟩
  | d :: ds, h => by
    obtain ⟨h1, h2⟩ := tk_all (ds := ds) fun x hx => h x (List.mem_cons_of_mem _ hx)
    obtain ⟨h3, h4⟩ := h d List.mem_cons_self
    refine ⟨by rw [tinys, h3, h1]; rfl, ?_⟩
    simp only [PyData.depthAll]
    omega
theorem tk_tup {k : Nat} {ds : List PyData} (hl : ds.length < 64) (h : ∀ d ∈ ds, Tk k d) : Tk (k + 1) (.tuple ds) := by
  obtain ⟨h1, h2⟩ := tk_all h
  exact ⟨by rw [tiny, h1, decide_eq_true hl]; rfl, by simp only [PyData.depth]; omega⟩
theorem tk_lst {k : Nat} {ds : List PyData} (hl : ds.length < 64) (h : ∀ d ∈ ds, Tk k d) : Tk (k + 1) (.list ds) := by
  obtain ⟨h1, h2⟩ := tk_all h
  exact ⟨by rw [tiny, h1, decide_eq_true hl]; rfl, by simp only [PyData.depth]; omega⟩
theorem Tk.up {k m : Nat} {d : PyData} (h : Tk k d) (hm : k ≤ m) : Tk m d := ⟨h.1, Nat.le_trans h.2 hm⟩
theorem tk_int (i : Int) (k : Nat) : Tk k (.int i) := ⟨rfl, by simp [PyData.depth]⟩
theorem tk_none (k : Nat) : Tk k .none := ⟨rfl, by simp [PyData.depth]⟩
theorem tk_bool (b : Bool) (k : Nat) : Tk k (.bool b) := ⟨rfl, by simp [PyData.depth]⟩
theorem cutD_mem {ds : List PyData} {l u : Option Int} : ∀ d ∈ cutD ds l u, d ∈ ds := fun d hd => List.mem_of_mem_drop (List.mem_of_mem_take hd)
theorem cutD_len {ds : List PyData} {l u : Option Int} : (cutD ds l u).length ≤ ds.length := by
  unfold cutD
  rw [List.length_take, List.length_drop]
  omega
section
variable {P : Program} {w : World} {K : PySem.W.Frag} {mg : Str → Option Value} {base : Heap} {k : Nat}
theorem scS48 : FnScope ["_law_urn", "_law_thing", "_law_spot"] ["_law_urn", "_law_thing"] (defScope (top 48)) := ⟨rfl, rfl, rfl, by decide +kernel, rfl, by decide +kernel, by decide +kernel⟩
def rBent (m : Nat) (as : List Arg) (Pr : PyData → Prop) : Prop := ∃ x, nest x = true ∧ x.depth ≤ m ∧ as = [.t x] ∧ Pr = Tk (m + 1)
theorem bent_int (B : Blt mg) (O2 : OkX P w K mg base "_law_of" k ["_law_urn", "_law_some_so"] 1 rOf) {f : Addr} {cdv : Value} {A : Around} {outer : List Env} {s : Shared} {H : Hp} {E : XK} (hr : Room k (BX P w K mg base ["_law_urn", "_law_thing", "_law_spot"] "_law_bent" (top 48) f cdv A outer s H E).A) {a : Addr} {c m : Nat} (hc : c + 1 ≤ 2 ^ 60) (i : Int) :
    XR (BX P w K mg base ["_law_urn", "_law_thing", "_law_spot"] "_law_bent" (top 48) f cdv A outer s H E) (uG a c (cellsOf ["_law_thing", "_law_spot"] [.t (.int i)])) (defBody (top 48)) a (c + 1) (Tk (m + 1)) := by
  refine xr_if (b := true) (DT.is (dt_not (dt_val (de_isi "tuple" (DE.g (de_var 1)) (kitTup (.int i)) B.isinstance B.tuple))) rfl) (fun _ => xr_if (b := false) (DT.is (dt_isN (DE.g (de_var 1))) rfl) (fun z => nomatch z) fun _ => xr_ret (EX.to (ex_fnG O2 hr trivial (db_lst (ds := [.int (i + 1), .int (i - 1), .int (0 - i), .bool true, .none, .str "1", .int 0, .tuple [.int i], .list [.int i]]) (dbs_cons (DE.bs (de_op op_add opI0 (de_var 1) de_int)) (dbs_cons (DE.bs (de_op op_sub opI0 (de_var 1) de_int)) (dbs_cons (DE.bs (de_op op_sub opI0 de_int (de_var 1))) (dbs_cons de_bl.bs (dbs_cons de_non.bs (dbs_cons de_str.bs (dbs_cons de_int.bs (dbs_cons (DE.bs (de_tup (du_cons (de_var 1) du_nil))) (dbs_cons (DN.bs (dn_lst (du_cons (de_var 1) du_nil))) dbs_nil))))))))) (Nat.le_of_ble_eq_true rfl)) (ofR (List.cons_ne_nil _ _) (Nat.le_trans (m := 1000) (Nat.le_of_ble_eq_true rfl) (by omega))) hc) ?_)) fun z => nomatch z
  intro d hd
  simp only [List.mem_cons, List.not_mem_nil, or_false] at hd
  rcases hd with rfl | rfl | rfl | rfl | rfl | rfl | rfl | rfl | rfl
  · exact tk_int _ _
  · exact tk_int _ _
  · exact tk_int _ _
  · exact tk_bool _ _
  · exact tk_none _
  · exact ⟨by decide +kernel, by simp [PyData.depth]⟩
  · exact tk_int _ _
  · exact (tk_tup (k := 0) (Nat.lt_of_le_of_lt (m := 1) (Nat.le_refl _) (by decide)) fun d hd => by rw [List.mem_singleton.mp hd]; exact tk_int _ _).up (by omega)
  · exact (tk_lst (k := 0) (Nat.lt_of_le_of_lt (m := 1) (Nat.le_refl _) (by decide)) fun d hd => by rw [List.mem_singleton.mp hd]; exact tk_int _ _).up (by omega)
theorem bent_tail (B : Blt mg) (O2 : OkX P w K mg base "_law_of" k ["_law_urn", "_law_some_so"] 1 rOf) {f : Addr} {cdv : Value} {A : Around} {outer : List Env} {s : Shared} {H : Hp} {E : XK} (hr : Room k (BX P w K mg base ["_law_urn", "_law_thing", "_law_spot"] "_law_bent" (top 48) f cdv A outer s H E).A) {a : Addr} {c m : Nat} (hc : c + 1 ≤ 2 ^ 60) {ds : List PyData} (hl : ds.length ≤ 10) (ht : ∀ d ∈ ds, Tk m d) :
    XR (BX P w K mg base ["_law_urn", "_law_thing", "_law_spot"] "_law_bent" (top 48) f cdv A outer s H E) (uG a c [.dat (.tuple ds), .un]) ((defBody (top 48)).drop 2) a (c + 1) (Tk (m + 2)) := by
  refine xr_ret (EX.to (ex_fnG O2 hr trivial (db_lst (ds := [.list ds, .tuple (ds.drop 1), .tuple (ds ++ cutD ds (some (0 - 1)) none), .tuple ds.reverse, .tuple (cutD ds none (some (0 - 1))), .tuple [.tuple ds], .none]) (dbs_cons (DN.bs (dn_lstT (de_var 1) B.list)) (dbs_cons (DE.bs (de_slFrom 1 (de_var 1) de_int)) (dbs_cons (DE.bs (de_op op_catA (opCatT ?_) (de_var 1) (de_slFromI (0 - 1) (de_var 1) (de_op op_sub opI0 de_int de_int)))) (dbs_cons (DE.bs (de_revT (de_var 1))) (dbs_cons (DE.bs (de_slToI (0 - 1) (de_var 1) (de_op op_sub opI0 de_int de_int))) (dbs_cons (DE.bs (de_tup (du_cons (de_var 1) du_nil))) (dbs_cons de_non.bs dbs_nil))))))) (Nat.le_of_ble_eq_true rfl)) (ofR (List.cons_ne_nil _ _) (Nat.le_trans (m := 1000) (Nat.le_of_ble_eq_true rfl) (by omega))) hc) ?_)
  · have := cutD_len (ds := ds) (l := some (0 - 1)) (u := none)
    omega
  · have h1 : ∀ {l u : Option Int} d, d ∈ cutD ds l u → Tk m d := fun d hd => ht d (cutD_mem d hd)
    have l1 : ∀ {l u : Option Int}, (cutD ds l u).length ≤ 10 := fun {l u} => Nat.le_trans cutD_len hl
    intro d hd
    simp only [List.mem_cons, List.not_mem_nil, or_false] at hd
    rcases hd with rfl | rfl | rfl | rfl | rfl | rfl | rfl
    · exact (tk_lst (by omega) ht).up (by omega)
    · exact (tk_tup (by rw [List.length_drop]; omega) fun d hd => ht d (List.mem_of_mem_drop hd)).up (by omega)
    · refine (tk_tup (by have := l1 (l := some (0 - 1)) (u := none); rw [List.length_append]; omega) fun d hd => ?_ : Tk (m + 1) _).up (by omega)
      rcases List.mem_append.mp hd with hd | hd
      · exact ht d hd
      · exact h1 d hd
    · exact (tk_tup (by rw [List.length_reverse]; omega) fun d hd => ht d (List.mem_reverse.mp hd)).up (by omega)
    · exact (tk_tup (Nat.lt_of_le_of_lt l1 (by decide)) h1).up (by omega)
    · exact tk_tup (Nat.lt_of_le_of_lt (m := 1) (Nat.le_refl _) (by decide)) fun d hd => by rw [List.mem_singleton.mp hd]; exact tk_tup (by omega) ht
    · exact tk_none _
theorem ok_bent (B : Blt mg) (D : DefAt K mg "_law_bent" 48 ["_law_urn", "_law_thing"]) (O : OkU P w K mg base "_law_take" k ["_law_urn", "_law_low_so"] 1 rTake) (O2 : OkX P w K mg base "_law_of" k ["_law_urn", "_law_some_so"] 1 rOf) : ∀ m : Nat, OkX P w K mg base "_law_bent" (k + 1 + m) ["_law_urn", "_law_thing"] (2 * m + 2) (rBent m) := by
  intro m
  induction m with
  | zero =>
    refine okX' D scS48 (fun as Pr h => by obtain ⟨_, _, _, rfl, _⟩ := h; rfl) fun nd f cdv A outer s H E hr a c as Pr h hc => ?_
    obtain ⟨x, h1, h2, rfl, rfl⟩ := h
    obtain ⟨i, rfl⟩ : ∃ i, x = .int i := by
      cases x with
      | int i => exact ⟨i, rfl⟩
      | tuple ds => simp [PyData.depth] at h2
      | _ => simp [nest] at h1
    exact XR.up (bent_int B O2 hr (by omega) i) (by omega)
  | succ m ih =>
    have lift : ∀ {f : Addr} {cdv : Value} {A : Around} {outer : List Env} {s : Shared} {H : Hp} {E : XK}, Room (k + 1 + m) (BX P w K mg base ["_law_urn", "_law_thing", "_law_spot"] "_law_bent" (top 48) f cdv A outer s H E).A → Room k (BX P w K mg base ["_law_urn", "_law_thing", "_law_spot"] "_law_bent" (top 48) f cdv A outer s H E).A := fun h => h.mono (by omega)
    refine okX' D scS48 (fun as Pr h => by obtain ⟨_, _, _, rfl, _⟩ := h; rfl) fun nd f cdv A outer s H E hr a c as Pr h hc => ?_
    obtain ⟨x, h1, h2, rfl, rfl⟩ := h
    have hr' := lift hr
    cases x with
    | int i => exact XR.up (bent_int B O2 hr' (by omega) i) (by omega)
    | tuple ds =>
      simp only [nest, Bool.and_eq_true, decide_eq_true_eq] at h1
      simp only [PyData.depth] at h2
      have hT : ∀ d ∈ ds, Tk m d := fun d hd => ⟨nest_tiny d (nests_mem h1.2 d hd), depth_mem (m := m) (by omega) d hd⟩
      refine xr_if (b := false) (DT.is (dt_not (dt_val (de_isi "tuple" (DE.g (de_var 1)) (kitTup (.tuple ds)) B.isinstance B.tuple))) rfl) (fun z => nomatch z) fun _ => ?_
      by_cases h0 : ds = []
      · subst h0
        exact xr_if (b := false) (DT.is (PW.pt (dw_and (k := false) (l := false) (dt_cmp op_gt opB0 (de_lenT (de_var 1) B.len) de_int) fun z => nomatch z)) rfl) (fun z => nomatch z) fun _ => XR.up (bent_tail B O2 hr' (by omega) (Nat.zero_le _) fun d hd => nomatch hd) (by omega)
      · have hlen : 0 < ds.length := List.length_pos_iff.mpr h0
        refine xr_ifU (c1 := c + 1) (ut_and (k := true) (DT.is (dt_cmp op_gt opB0 (de_lenT (de_var 1) B.len) de_int) (decide_eq_true (by omega))) (fun _ => ut_cmp op_gt (du_fn O hr' (dr_t de_int dr_nil) (ds := [eN 5]) ⟨5, by omega, by omega, rfl, rfl⟩ (by omega)) (de_int (i := 0)).eu fun u v hu hv => ?_) (by omega)) ?_ (XR.up (bent_tail B O2 hr' (by omega) h1.1 hT) (by omega))
        · obtain ⟨j, _, rfl⟩ := hu
          subst hv
          exact ⟨_, opB0⟩
        · refine xr_ch (ch_set 1 (Γt := [.dat (.tuple ds), .un]) (du_fn O hr' (dr_t (de_lenT (de_var 1) B.len) dr_nil) (ds := [eN ds.length]) ⟨ds.length, by omega, by omega, rfl, rfl⟩ (by omega))) fun Γ' ⟨d, ⟨j, hj, ej⟩, eG⟩ => ?_
          subst eG ej
          refine XR.up (xr_ret (c' := c + 1 + 1 + (2 * m + 2)) (ex_cat (P1 := fun d => ∃ y, Tk (m + 1) y ∧ d = .tuple (ds.take j ++ [y])) (ex_cat (EX.to (DB.ex (DE.bs (de_slTo j (de_var 1) (de_var 2)))) fun z hz => hz) (ex_tup1 (ex_fn ih hr trivial (dr_t (de_ixT (de_var 1) (de_var 2) (atI_nat (i := j) (List.getElem?_eq_getElem hj))) dr_nil) (ds := [ds[j]]) ⟨ds[j], nests_mem h1.2 _ (List.getElem_mem hj), (hT _ (List.getElem_mem hj)).2, rfl, rfl⟩ (by omega))) ?_) (DB.ex (DE.bs (de_slFrom (j + 1) (de_var 1) (de_op op_add (opAddN j 1) (de_var 2) de_int)))) ?_)) (by omega)
          · rintro u v rfl ⟨y, hy, rfl⟩
            exact ⟨_, _, rfl, rfl, by rw [List.length_take]; simp; omega, y, hy, rfl⟩
          · rintro u v ⟨y, hy, rfl⟩ rfl
            refine ⟨_, _, rfl, rfl, by rw [List.length_append, List.length_take, List.length_drop]; simp; omega, ?_⟩
            refine tk_tup (by rw [List.length_append, List.length_append, List.length_take, List.length_drop]; simp; omega) fun d hd => ?_
            rcases List.mem_append.mp hd with hd | hd
            · rcases List.mem_append.mp hd with hd | hd
              · exact (hT d (List.mem_of_mem_take hd)).up (by omega)
              · rw [List.mem_singleton.mp hd]; exact hy
            · exact (hT d (List.mem_of_mem_drop hd)).up (by omega)
    | _ => simp [nest] at h1
end
end K54
set_option Elab.async false
set_option linter.all false
set_option autoImplicit false
set_option maxRecDepth 100000
set_option maxHeartbeats 2000000
/-! K54: the plain law, 3: keeping over the greatest is keeping over all; telling looks tell -/
namespace K54
open PySem PySem.Spec PyProof.Rows L2
/-- there is no chain of three -/
theorem camps_chain : ∀ n, n ≤ 3 → ∀ c ∈ campsM n, ∀ d ∈ campsM n, ∀ e ∈ campsM n, areW c d = true → c ≠ d → areW d e = true → d = e := by
  intro n hn
  match n, hn with
  | 0, _ => decide +kernel
  | 1, _ => decide +kernel
  | 2, _ => decide +kernel
  | 3, _ => decide +kernel
theorem great_mem {F : List Camps} {g : Camps} : g ∈ great F ↔ g ∈ F ∧ ∀ o ∈ F, areW g o = true → o = g := by
  unfold great
  rw [List.mem_filter, mem_canon, Bool.not_eq_true', Bool.eq_false_iff, Ne, List.any_eq_true]
  refine and_congr_right fun _ => ⟨fun h o ho hw => ?_, fun h ⟨o, ho, hw⟩ => ?_⟩
  · refine Classical.byContradiction fun ne => h ⟨o, mem_canon.mpr ho, ?_⟩
    rw [hw, decide_eq_true ne]; rfl
  · rw [Bool.and_eq_true, decide_eq_true_eq] at hw
    exact hw.1 (h o (mem_canon.mp ho) hw.2)
theorem great_up {n : Nat} (hn : n ≤ 3) {F : List Camps} (hF : ∀ g ∈ F, g ∈ campsM n) {g : Camps} (hg : g ∈ F) : ∃ g' ∈ great F, areW g g' = true := by
  by_cases h : ∀ o ∈ F, areW g o = true → o = g
  · exact ⟨g, great_mem.mpr ⟨hg, h⟩, areW_refl g⟩
  · obtain ⟨o, ho, hw, ne⟩ : ∃ o ∈ F, areW g o = true ∧ o ≠ g := by
      refine Classical.byContradiction fun z => h fun o ho hw => Classical.byContradiction fun ne => z ⟨o, ho, hw, ne⟩
    exact ⟨o, great_mem.mpr ⟨ho, fun e he hw2 => (camps_chain n hn g (hF g hg) o (hF o ho) e (hF e he) hw (fun z => ne z.symm) hw2).symm⟩, hw⟩
theorem great_asc (F : List Camps) : (great F).Pairwise (fun a b => ltCamps a b = true) := (canon_sorted lin_Camps F).sublist List.filter_sublist
/-- what is led, of all looks -/
def ledAll (Ls : List Looks) (c : Camps) : List Camps := Ls.filterMap fun L => ledM L c
theorem mem_ledAll {Ls : List Looks} {c g : Camps} : g ∈ ledAll Ls c ↔ ∃ L ∈ Ls, ledM L c = some g := List.mem_filterMap
theorem ledAll_camps {n : Nat} (hn : n ≤ 3) {Ls : List Looks} (hv : ∀ L ∈ Ls, VLooks n L) {c : Camps} (hc : c ∈ campsM n) : ∀ g ∈ ledAll Ls c, g ∈ campsM n := fun g hg => by
  obtain ⟨L, hL, e⟩ := mem_ledAll.mp hg
  exact led_camps hn (hv L hL) hc e
theorem great_camps {n : Nat} (hn : n ≤ 3) {Ls : List Looks} (hv : ∀ L ∈ Ls, VLooks n L) {c : Camps} (hc : c ∈ campsM n) : ∀ g ∈ great (ledAll Ls c), g ∈ campsM n := fun g hg => ledAll_camps hn hv hc g (great_mem.mp hg).1
theorem inO_iff {S : List Camps} {z : Option Camps} : inO S z = true ↔ ∃ d, z = some d ∧ d ∈ S := by
  cases z with
  | none => exact ⟨fun h => (nomatch h), fun ⟨d, e, _⟩ => (nomatch e)⟩
  | some x => exact ⟨fun h => ⟨x, rfl, memK_iff.mp h⟩, fun ⟨d, e, h⟩ => by cases e; exact memK_iff.mpr h⟩
theorem sub_filter {S T : List Camps} (h : S.Sublist T) (nd : T.Nodup) : S = T.filter fun c => decide (c ∈ S) := by
  induction h with
  | slnil => rfl
  | @cons l1 l2 a h ih =>
    rw [List.nodup_cons] at nd
    have : a ∉ l1 := fun z => nd.1 (h.subset z)
    rw [List.filter_cons, if_neg (by simpa using this)]
    exact ih nd.2
  | @cons_cons l1 l2 a h ih =>
    rw [List.nodup_cons] at nd
    rw [List.filter_cons, if_pos (by simp)]
    congr 1
    refine (ih nd.2).trans (List.filter_congr fun c hc => ?_)
    have : c ≠ a := fun e => nd.1 (e ▸ hc)
    simp [this]
theorem lkSeq_sub (Bs : List Looks) (n : Nat) : ∀ i, (lkSeq Bs n i).Sublist (campsM n)
  | 0 => List.Sublist.refl _
  | i + 1 => (lk_sub Bs n i).trans (lkSeq_sub Bs n i)
section
variable {n : Nat} (hn : n ≤ 3) {Ls Ms : List Looks} (hv : ∀ L ∈ Ls, VLooks n L) (hw : ∀ L ∈ Ms, VLooks n L) {M : Looks} (hM : VLooks n M)
include hn hv hM
theorem lk_step_iff {S : List Camps} {c : Camps} : lkOk (Ls.map fun L => behindM L M) S c = true ↔ ∃ L ∈ Ls, ∃ g d, ledM L c = some g ∧ ledM M g = some d ∧ d ∈ S := by
  unfold lkOk
  rw [List.any_map, List.any_eq_true]
  constructor
  · rintro ⟨L, hL, h⟩
    obtain ⟨d, e, hd⟩ := inO_iff.mp h
    have e' : ledM (behindM L M) c = some d := e
    rw [led_behind (hv L hL) hM, Option.bind_eq_some_iff] at e'
    obtain ⟨g, e1, e2⟩ := e'
    exact ⟨L, hL, g, d, e1, e2, hd⟩
  · rintro ⟨L, hL, g, d, e1, e2, hd⟩
    refine ⟨L, hL, inO_iff.mpr ⟨d, ?_, hd⟩⟩
    show ledM (behindM L M) c = some d
    rw [led_behind (hv L hL) hM, e1]
    exact e2
theorem lk_up : ∀ (i : Nat), ∀ c ∈ lkSeq (Ls.map fun L => behindM L M) n i, ∀ c' ∈ campsM n, areW c c' = true → c' ∈ lkSeq (Ls.map fun L => behindM L M) n i
  | 0, _, _, c', hc', _ => hc'
  | i + 1, c, hc, c', hc', hw => by
    have ih := lk_up i
    have hc2 := List.mem_filter.mp (show c ∈ (lkSeq (Ls.map fun L => behindM L M) n i).filter _ from hc)
    obtain ⟨L, hL, g, d, e1, e2, hd⟩ := (lk_step_iff hn hv hM).mp hc2.2
    obtain ⟨g', e3, w1⟩ := led_mono (hv L hL) hw e1
    obtain ⟨d', e4, w2⟩ := led_mono hM w1 e2
    have hd' : d' ∈ campsM n := led_camps hn hM (led_camps hn (hv L hL) hc' e3) e4
    exact List.mem_filter.mpr ⟨ih c hc2.1 c' hc' hw, (lk_step_iff hn hv hM).mpr ⟨L, hL, g', d', e3, e4, ih d hd d' hd' w2⟩⟩
theorem seq_same : ∀ i, kSeq (tableM Ls n) M i = lkSeq (Ls.map fun L => behindM L M) n i
  | 0 => table_fst Ls n
  | i + 1 => by
    have ih := seq_same i
    show kStep (tableM Ls n) M (kSeq (tableM Ls n) M i) = lkStep _ (lkSeq (Ls.map fun L => behindM L M) n i)
    rw [ih]
    have up := lk_up hn hv hM i
    have sub := sub_filter (lkSeq_sub (Ls.map fun L => behindM L M) n i) (camps_few n hn).2
    have inC := (lkSeq_sub (Ls.map fun L => behindM L M) n i).subset
    generalize lkSeq (Ls.map fun L => behindM L M) n i = S at *
    unfold kStep lkStep
    rw [show S.filter (lkOk (Ls.map fun L => behindM L M) S) = ((campsM n).filter fun c => decide (c ∈ S)).filter (lkOk (Ls.map fun L => behindM L M) S) by rw [← sub]]
    unfold tableM
    rw [List.filter_map, List.map_map, List.filter_filter]
    have e0 : ((fun x : Row => x.1) ∘ fun c : Camps => (c, great (Ls.filterMap fun L => ledM L c))) = id := rfl
    rw [e0, List.map_id]
    refine List.filter_congr fun c hc => ?_
    show kOk M S (c, great (ledAll Ls c)) = _
    have hk : kOk M S (c, great (ledAll Ls c)) = true ↔ (c ∈ S ∧ ∃ g ∈ great (ledAll Ls c), ∃ d, ledM M g = some d ∧ d ∈ S) := by
      unfold kOk
      rw [Bool.and_eq_true, memK_iff, List.any_eq_true]
      exact and_congr_right fun _ => ⟨fun ⟨g, h1, h2⟩ => ⟨g, h1, inO_iff.mp h2⟩, fun ⟨g, h1, h2⟩ => ⟨g, h1, inO_iff.mpr h2⟩⟩
    rw [Bool.eq_iff_iff, hk, Bool.and_eq_true, decide_eq_true_eq, lk_step_iff hn hv hM, and_comm]
    refine and_congr_left fun hS => ?_
    constructor
    · rintro ⟨g, hg, d, e, hd⟩
      obtain ⟨L, hL, e2⟩ := mem_ledAll.mp (great_mem.mp hg).1
      exact ⟨L, hL, g, d, e2, e, hd⟩
    · rintro ⟨L, hL, g, d, e1, e2, hd⟩
      have hg : g ∈ ledAll Ls c := mem_ledAll.mpr ⟨L, hL, e1⟩
      obtain ⟨g', hg', w⟩ := great_up hn (ledAll_camps hn hv hc) hg
      obtain ⟨d', e3, w2⟩ := led_mono hM w e2
      exact ⟨g', hg', d', e3, up d hd d' (led_camps hn hM (great_camps hn hv hc g' hg') e3) w2⟩
theorem keeps_same : keepsM (tableM Ls n) M = lawKeeps (Ls.map fun L => behindM L M) n := by
  unfold keepsM lawKeeps
  have hl : (tableM Ls n).length = (campsM n).length := by unfold tableM; rw [List.length_map]
  rw [hl, seq_same hn hv hM]
end
theorem sur_same {n : Nat} (hn : n ≤ 3) {p q : Piece} (hp : SP n p) (hq : SP n q) {M : Looks} (hM : VLooks n M) : surM p q n n M = lawSur (rowsM p n) (rowsM q n) n M := by
  unfold surM lawSur
  rw [keeps_same hn hp.rowsV hM, keeps_same hn hq.rowsV hM]
/-! ### telling looks tell -/
theorem tell_led : ∀ n, n ≤ 3 → ∀ c ∈ campsM n, ∀ g ∈ campsM n, ∀ d ∈ campsM n, ledM (tellM c g n) d = if areW g d = true then some c else none := by
  intro n hn
  match n, hn with
  | 0, _ => decide +kernel
  | 1, _ => decide +kernel
  | 2, _ => decide +kernel
  | 3, _ => decide +kernel
theorem tell_v {n : Nat} (hn : n ≤ 3) (n1 : 1 ≤ n) {c g : Camps} (hg : g ∈ campsM n) : VLooks n (tellM c g n) := by
  have vg := (camps_iff hn).mp hg
  unfold tellM
  refine ⟨by rw [List.length_map, List.length_range], fun l hl => ?_⟩
  obtain ⟨p, hp, rfl⟩ := List.mem_map.mp hl
  split
  · exact vg.a
  · split
    · exact vg.b
    · refine ⟨fun z => ?_, ?_, fun x hx => List.mem_range.mp hx⟩
      · have := congrArg List.length z
        rw [List.length_range] at this
        simp at this; omega
      · exact (List.pairwise_lt_range (n := n)).imp fun {a b} q => by simp [ltN]; exact q
theorem kSeq_nil (t : Tab) (L : Looks) {i : Nat} (h : kSeq t L i = []) : ∀ j, kSeq t L (i + j) = []
  | 0 => h
  | j + 1 => by
    have ih := kSeq_nil t L h j
    show kStep t L (kSeq t L (i + j)) = []
    rw [ih]
    unfold kStep
    rw [List.map_eq_nil_iff, List.filter_eq_nil_iff]
    intro r _ z
    unfold kOk at z
    rw [Bool.and_eq_true, memK_iff] at z
    cases z.1
theorem mem_kStep {t : Tab} {L : Looks} {S : List Camps} {c : Camps} : c ∈ kStep t L S ↔ ∃ r ∈ t, r.1 = c ∧ c ∈ S ∧ ∃ g ∈ r.2, inO S (ledM L g) = true := by
  unfold kStep
  rw [List.mem_map]
  constructor
  · rintro ⟨r, hr, rfl⟩
    obtain ⟨h1, h2⟩ := List.mem_filter.mp hr
    unfold kOk at h2
    rw [Bool.and_eq_true, memK_iff, List.any_eq_true] at h2
    exact ⟨r, h1, rfl, h2.1, h2.2⟩
  · rintro ⟨r, hr, rfl, h1, h2⟩
    refine ⟨r, List.mem_filter.mpr ⟨hr, ?_⟩, rfl⟩
    unfold kOk
    rw [Bool.and_eq_true, memK_iff, List.any_eq_true]
    exact ⟨h1, h2⟩
theorem mem_table {Ls : List Looks} {n : Nat} {r : Row} : r ∈ tableM Ls n ↔ r.1 ∈ campsM n ∧ r.2 = great (ledAll Ls r.1) := by
  unfold tableM
  rw [List.mem_map]
  constructor
  · rintro ⟨c, hc, rfl⟩
    exact ⟨hc, rfl⟩
  · rintro ⟨h1, h2⟩
    exact ⟨r.1, h1, Prod.ext rfl h2.symm⟩
section
variable {n : Nat} (hn : n ≤ 3) {Ls Ms : List Looks} (hv : ∀ L ∈ Ls, VLooks n L) (hw : ∀ L ∈ Ms, VLooks n L) {c g : Camps} (hc : c ∈ campsM n) (hg : g ∈ great (ledAll Ls c))
include hn hv hc hg
theorem tell_keeps : keepsM (tableM Ls n) (tellM c g n) = true := by
  have gc := great_camps hn hv hc g hg
  have key : ∀ i, c ∈ kSeq (tableM Ls n) (tellM c g n) i := fun i => by
    induction i with
    | zero =>
      show c ∈ (tableM Ls n).map (·.1)
      rw [table_fst]; exact hc
    | succ i ih =>
      refine mem_kStep.mpr ⟨(c, great (ledAll Ls c)), mem_table.mpr ⟨hc, rfl⟩, rfl, ih, g, hg, inO_iff.mpr ⟨c, ?_, ih⟩⟩
      rw [tell_led n hn c hc g gc g gc, if_pos (areW_refl g)]
  refine decide_eq_true fun z => ?_
  have := key ((tableM Ls n).length + 1)
  rw [z] at this; cases this
include hw
theorem tell_not (hb : ∀ near ∈ great (ledAll Ms c), areW g near = false) : keepsM (tableM Ms n) (tellM c g n) = false := by
  have gc := great_camps hn hv hc g hg
  have n1 : c ∉ kSeq (tableM Ms n) (tellM c g n) 1 := fun z => by
    obtain ⟨r, hr, e, _, near, hn1, hi⟩ := mem_kStep.mp z
    obtain ⟨h1, h2⟩ := mem_table.mp hr
    rw [e] at h2
    rw [h2] at hn1
    rw [tell_led n hn c hc g gc near (great_camps hn hw hc near hn1), if_neg (by rw [hb near hn1]; exact Bool.false_ne_true)] at hi
    cases hi
  have n2 : kSeq (tableM Ms n) (tellM c g n) 2 = [] := by
    cases h : kSeq (tableM Ms n) (tellM c g n) 2 with
    | nil => rfl
    | cons d r =>
      exfalso
      have hd : d ∈ kStep (tableM Ms n) (tellM c g n) (kSeq (tableM Ms n) (tellM c g n) 1) := by
        show d ∈ kSeq (tableM Ms n) (tellM c g n) 2
        rw [h]; exact List.mem_cons_self
      obtain ⟨r, hr, e, hdS, near, hn1, hi⟩ := mem_kStep.mp hd
      obtain ⟨h1, h2⟩ := mem_table.mp hr
      rw [h2] at hn1
      obtain ⟨x, ex, hx⟩ := inO_iff.mp hi
      rw [tell_led n hn c hc g gc near (great_camps hn hw h1 near hn1)] at ex
      split at ex
      · cases ex; exact n1 hx
      · cases ex
  have hl : 1 ≤ (tableM Ms n).length := by
    unfold tableM
    rw [List.length_map]
    exact List.length_pos_of_mem hc
  obtain ⟨j, hj⟩ : ∃ j, (tableM Ms n).length + 1 = 2 + j := ⟨(tableM Ms n).length - 1, by omega⟩
  unfold keepsM
  rw [hj, kSeq_nil _ _ n2 j]
  rfl
end
theorem zip_table (Ls Ms : List Looks) (n : Nat) : (tableM Ls n).zip (tableM Ms n) = (campsM n).map fun c => ((c, great (ledAll Ls c)), (c, great (ledAll Ms c))) := by
  unfold tableM
  generalize campsM n = cs
  induction cs with
  | nil => rfl
  | cons c cs ih =>
    rw [List.map_cons, List.map_cons, List.zip_cons_cons, List.map_cons, ih]
    rfl
theorem badG_iff {s : List Camps} {g : Camps} : badG s g = true ↔ ∀ near ∈ s, areW g near = false := by
  unfold badG
  rw [Bool.not_eq_true', Bool.eq_false_iff, Ne, List.any_eq_true]
  constructor
  · intro h near hn
    cases hw : areW g near with
    | false => rfl
    | true => exact absurd ⟨near, hn, hw⟩ h
  · rintro h ⟨near, hn, hw⟩
    rw [h near hn] at hw; cases hw
theorem first_some {Ls Ms : List Looks} {n : Nat} {c g : Camps} (h : firstM (tableM Ls n) (tableM Ms n) = some (c, g)) : c ∈ campsM n ∧ g ∈ great (ledAll Ls c) ∧ ∀ near ∈ great (ledAll Ms c), areW g near = false := by
  unfold firstM at h
  rw [zip_table, List.findSome?_map] at h
  obtain ⟨c', hc', e⟩ := List.exists_of_findSome?_eq_some h
  have e' : ((great (ledAll Ls c')).find? (badG (great (ledAll Ms c')))).map (fun g => (c', g)) = some (c, g) := e
  obtain ⟨g', e1, e2⟩ := Option.map_eq_some_iff.mp e'
  cases e2
  exact ⟨hc', List.mem_of_find?_eq_some e1, badG_iff.mp (List.find?_some e1)⟩
theorem first_none {Ls Ms : List Looks} {n : Nat} (h : firstM (tableM Ls n) (tableM Ms n) = none) : ∀ c ∈ campsM n, ∀ g ∈ great (ledAll Ls c), ∃ near ∈ great (ledAll Ms c), areW g near = true := by
  intro c hc g hg
  unfold firstM at h
  rw [zip_table, List.findSome?_map, List.findSome?_eq_none_iff] at h
  have e : ((great (ledAll Ls c)).find? (badG (great (ledAll Ms c)))).map (fun g => (c, g)) = none := h c hc
  rw [Option.map_eq_none_iff, List.find?_eq_none] at e
  refine Classical.byContradiction fun z => e g hg (badG_iff.mpr fun near hn => ?_)
  cases hw : areW g near with
  | false => rfl
  | true => exact absurd ⟨near, hn, hw⟩ z
section
variable {n : Nat} (hn : n ≤ 3) (n1 : 1 ≤ n) {Ls Ms : List Looks} (hv : ∀ L ∈ Ls, VLooks n L) (hw : ∀ L ∈ Ms, VLooks n L)
include hn hv hw
theorem great_sub (h1 : firstM (tableM Ls n) (tableM Ms n) = none) (h2 : firstM (tableM Ms n) (tableM Ls n) = none) {c : Camps} (hc : c ∈ campsM n) {g : Camps} (hg : g ∈ great (ledAll Ls c)) : g ∈ great (ledAll Ms c) := by
  obtain ⟨near, hn1, w1⟩ := first_none h1 c hc g hg
  obtain ⟨g2, hg2, w2⟩ := first_none h2 c hc near hn1
  have e : g2 = g := (great_mem.mp hg).2 g2 (great_mem.mp hg2).1 (areW_trans w1 w2)
  subst e
  have := camps_anti n hn g2 (great_camps hn hv hc g2 hg2) near (great_camps hn hw hc near hn1) w1 w2
  rw [this]; exact hn1
theorem found_none (h : foundM (tableM Ls n) (tableM Ms n) = none) : tableM Ls n = tableM Ms n := by
  unfold foundM at h
  cases h1 : firstM (tableM Ls n) (tableM Ms n) with
  | some x => rw [h1] at h; cases h
  | none =>
    rw [h1] at h
    have h2 : firstM (tableM Ms n) (tableM Ls n) = none := h
    unfold tableM
    refine List.map_congr_left fun c hc => Prod.ext rfl ?_
    show great (ledAll Ls c) = great (ledAll Ms c)
    exact sorted_unique lin_Camps (great_asc _) (great_asc _) fun z => ⟨fun hz => great_sub hn hv hw h1 h2 hc hz, fun hz => great_sub hn hw hv h2 h1 hc hz⟩
include n1
theorem found_some {c g : Camps} (h : foundM (tableM Ls n) (tableM Ms n) = some (c, g)) : VLooks n (tellM c g n) ∧ keepsM (tableM Ls n) (tellM c g n) ≠ keepsM (tableM Ms n) (tellM c g n) := by
  unfold foundM at h
  cases h1 : firstM (tableM Ls n) (tableM Ms n) with
  | some x =>
    rw [h1] at h
    cases h
    obtain ⟨hc, hg, hb⟩ := first_some h1
    refine ⟨tell_v hn n1 (great_camps hn hv hc g hg), ?_⟩
    rw [tell_keeps hn hv hc hg, tell_not hn hv hw hc hg hb]
    exact fun z => nomatch z
  | none =>
    rw [h1] at h
    have h2 : firstM (tableM Ms n) (tableM Ls n) = some (c, g) := h
    obtain ⟨hc, hg, hb⟩ := first_some h2
    refine ⟨tell_v hn n1 (great_camps hn hw hc g hg), ?_⟩
    rw [tell_keeps hn hw hc hg, tell_not hn hw hv hc hg hb]
    exact fun z => nomatch z
end
theorem found_same (t : Tab) {Ls : List Looks} {n : Nat} : foundM (tableM Ls n) (tableM Ls n) = none := by
  have h : firstM (tableM Ls n) (tableM Ls n) = none := by
    cases h : firstM (tableM Ls n) (tableM Ls n) with
    | none => rfl
    | some x =>
      obtain ⟨c, g⟩ := x
      obtain ⟨hc, hg, hb⟩ := first_some h
      have := hb g hg
      rw [areW_refl] at this; cases this
  unfold foundM
  rw [h]
/-- the answer -/
theorem answer_alike {n : Nat} {p q : Piece} (hp : SP n p) (hq : SP n q) (h : tableM (rowsM p n) n = tableM (rowsM q n) n) : answerM p q n n = none := by
  unfold answerM
  rw [← h, found_same []]; rfl
theorem answer_tells {n : Nat} {p q : Piece} (hp : SP n p) (hq : SP n q) (h : tableM (rowsM p n) n ≠ tableM (rowsM q n) n) : ∃ L, answerM p q n n = some L ∧ VLooks n L ∧ lawSur (rowsM p n) (rowsM q n) n L = true := by
  unfold answerM
  cases hf : foundM (tableM (rowsM p n) n) (tableM (rowsM q n) n) with
  | none => exact absurd (found_none hp.n3 hp.rowsV hq.rowsV hf) h
  | some x =>
    obtain ⟨c, g⟩ := x
    obtain ⟨h1, h2⟩ := found_some hp.n3 hp.n1 hp.rowsV hq.rowsV hf
    refine ⟨_, rfl, h1, ?_⟩
    rw [← sur_same hp.n3 hp hq h1]
    unfold surM
    exact bne_iff_ne.mpr h2
end K54
set_option Elab.async false
set_option linter.all false
set_option autoImplicit false
set_option maxRecDepth 100000
set_option maxHeartbeats 4000000
/-! K54: the urn, 12: lists of any data -/
namespace K54
open PySem PySem.Spec PyProof.Rows L2
section
variable {X : Cx}
def rCatL (K : PySem.W.Frag) : R2 := fun x y H Q => ∃ a b xs ys, x = .ref a ∧ y = .ref b ∧ SqL K H a xs ∧ SqL K H b ys ∧ xs.length + ys.length ≤ sizeLine ∧ ∀ p, H p = none → Q (.ref p) (upd H p (.lst (xs ++ ys)))
theorem op_catL : OpR X (binaryOp .Add) (rCatL X.K) := by
  intro pins s σ H x y v u Q I rx ry h
  obtain ⟨a, b, xs, ys, rfl, rfl, ha, hb, hz, q⟩ := h
  cases rx
  cases ry
  obtain ⟨its, r1, p1, z1⟩ := I.list ha
  obtain ⟨its2, r2, p2, z2⟩ := I.list hb
  have l1 := r1.length
  have l2 := r2.length
  obtain ⟨⟨c1, d1, da1, s1⟩, n1, ho1, hc1, hd1, he1⟩ := p1
  obtain ⟨⟨c2, d2, da2, s2⟩, n2, ho2, hc2, hd2, he2⟩ := p2
  simp only at hc1 hd1 he1 hc2 hd2 he2
  subst hc1 hd1 he1 hc2 hd2 he2
  have ea : its.toArray ++ its2.toArray = (its ++ its2).toArray := by simp
  refine concat_meets ⟨_, ho1, rfl⟩ ⟨_, ho2, rfl⟩ noFill_list_add seq_list_add PySem.F.slot_list_add PySem.F.entry_list_add (PySem.F.args_list_add_2 _ _) (list_addW a b its.toArray its2.toArray n1 n2 _ _ s1 s2 (by rw [List.size_toArray, List.size_toArray]; omega)) ⟨ho1, ho2, ?_⟩
  rw [ea]
  exact ⟨.ref _, _, I.lnew (t' := s.toks) (r1.append r2) (by rw [List.length_append]; omega), rfl, q _ I.fresh⟩
end
theorem dpAllAppend {K : PySem.W.Frag} {H : Hp} : ∀ {xs ys : List V} {ds es : List PyData}, DpAll K H xs ds → DpAll K H ys es → DpAll K H (xs ++ ys) (ds ++ es)
  | _, _, [], _, h, k => by cases h; exact k
  | _, _, _ :: _, _, h, k => by
    cases h with
    | cons g1 g2 => exact .cons g1 (dpAllAppend g2 k)
def tWs (P : Program) (w : World) (K : PySem.W.Frag) (Γt : List Cell) (a : Addr) (c c' : Nat) (PP : List PyData → Prop) : TA := fun σ H Q => ∃ H0, EnvOk P w K H0 H σ (uG a c Γt) ∧ ∀ vs H' Hb ds, Fu a H H' → Same H0 Hb → EnvOk P w K Hb H' σ (uG a c' Γt) → PP ds → DpAll K Hb vs ds → Q vs H'
abbrev EXs (X : Cx) (Γt : List Cell) (a : Addr) (c c' : Nat) (es : List Expr) (PP : List PyData → Prop) : Prop := PA X es (tWs X.prog X.w X.K Γt a c c' PP)
section
variable {X : Cx} {Γ Γt : List Cell} {e e1 e2 t : Expr} {es : List Expr} {d : PyData} {ds ds2 : List PyData} {pos : Pos} {a : Addr} {c c1 c2 c' : Nat} {Pr P1 P2 : PyData → Prop} {PP : List PyData → Prop} {kk : Nat}
theorem exs_nil : EXs X Γt a c c [] (fun ds => ds = []) := PA.wk pa_nil fun σ H Q ⟨H0, ok, q⟩ => q [] H H0 [] (.of (Same.refl H)) (Same.refl H0) ok rfl .nil
theorem exs_cons (h : EX X Γt a c c1 e Pr) (hr : EXs X Γt a c1 c2 es PP) (hs : starEach (e :: es) X.env = (false, eval e X.env) :: starEach es X.env := by rfl) : EXs X Γt a c c2 (e :: es) (fun ds => ∃ d ds', Pr d ∧ PP ds' ∧ ds = d :: ds') :=
  PA.wk (pa_cons h hr hs) fun σ H Q ⟨H0, ok, q⟩ => ⟨H0, ok, fun v H1 Hb d f1 b1 ok1 hd r1 => ⟨Hb, ok1, fun vs H2 Hc ds f2 b2 ok2 hds r2 => q (v :: vs) H2 Hc (d :: ds) (f1.trans f2) (b1.trans b2) ok2 ⟨d, ds, hd, hds, rfl⟩ (.cons (dpEx b2 r1) r2)⟩⟩
theorem ex_lst (h : EXs X Γt a c c' es PP) (hz : ∀ ds, PP ds → ds.length ≤ 1000) : EX X Γt a c c' (.List es pos) (fun d => ∃ ds, PP ds ∧ d = .list ds) :=
  PE.wk (pe_lst h) fun σ H Q ⟨H0, ok, q⟩ => ⟨H0, ok, fun vs H1 Hb ds f1 b1 ok1 hds r1 => by
    refine ⟨by rw [dpAllLen r1]; exact Nat.le_trans (hz ds hds) (by decide), fun p hp => ?_⟩
    obtain ⟨Hc, k1, k2, k3, k4, k5, k6⟩ := ok1.grow (sameNew (o := .lst vs) hp)
    exact q _ _ Hc _ (f1.trans (.of (sameNew hp))) (b1.trans k1) k3 ⟨ds, hds, rfl⟩ (.lst (.of (k4 p _ upd_same hp)) (dpsEx k1 r1))⟩
/-- list + list -/
theorem ex_catL (ha : EX X Γt a c c1 e1 P1) (hb : EX X Γt a c1 c2 e2 P2) (hr : ∀ x y, P1 x → P2 y → ∃ ds es, x = .list ds ∧ y = .list es ∧ ds.length + es.length ≤ 1000 ∧ Pr (.list (ds ++ es))) : EX X Γt a c c2 (.BinOp e1 .Add e2 pos) Pr :=
  PE.wk (pe_op op_catL ha hb) fun σ H Q ⟨H0, ok, q⟩ => ⟨H0, ok, fun v H1 Hb d1 f1 b1 ok1 hd1 r1 => ⟨Hb, ok1, fun u H2 Hc d2 f2 b2 ok2 hd2 r2 => by
    obtain ⟨ds, es, rfl, rfl, hz, hp⟩ := hr d1 d2 hd1 hd2
    have r1' := dpEx b2 r1
    cases r1' with
    | @lst p xs _ s1 t1 =>
      cases r2 with
      | @lst p2 ys _ s2 t2 =>
        have l1 := dpAllLen t1
        have l2 := dpAllLen t2
        refine ⟨p, p2, xs, ys, rfl, rfl, sqLSame ok2.ex s1, sqLSame ok2.ex s2, by rw [l1, l2]; exact Nat.le_trans hz (by decide), fun p3 hp3 => ?_⟩
        obtain ⟨Hd, k1, k2, k3, k4, k5, k6⟩ := ok2.grow (sameNew (o := .lst (xs ++ ys)) hp3)
        exact q _ _ Hd _ ((f1.trans f2).trans (.of (sameNew hp3))) ((b1.trans b2).trans k1) k3 hp (.lst (.of (k4 p3 _ upd_same hp3)) (dpAllAppend (dpsEx k1 t1) (dpsEx k1 t2)))⟩⟩
theorem db_catL (ha : DB X Γ e1 (.list ds)) (hb : DB X Γ e2 (.list ds2)) (hz : ds.length + ds2.length ≤ 1000) : DB X Γ (.BinOp e1 .Add e2 pos) (.list (ds ++ ds2)) :=
  PE.wk (pe_op op_catL ha hb) fun σ H Q ⟨H0, ok, q⟩ => ⟨H0, ok, fun v H1 Hb e1 b1 n1 ok1 r1 => ⟨Hb, ok1, fun u H2 Hc e2 b2 n2 ok2 r2 => by
    have r1' := dpEx b2 r1
    cases r1' with
    | @lst p xs _ s1 t1 =>
      cases r2 with
      | @lst p2 ys _ s2 t2 =>
        have l1 := dpAllLen t1
        have l2 := dpAllLen t2
        refine ⟨p, p2, xs, ys, rfl, rfl, sqLSame ok2.ex s1, sqLSame ok2.ex s2, by rw [l1, l2]; exact Nat.le_trans hz (by decide), fun p3 hp3 => ?_⟩
        obtain ⟨Hd, k1, k2, k3, k4, k5, k6⟩ := ok2.grow (sameNew (o := .lst (xs ++ ys)) hp3)
        exact q _ _ Hd ((e1.trans e2).trans (sameNew hp3)) ((b1.trans b2).trans k1) (freshTwice (e1.trans e2) (freshTwice e1 n1 n2) k6) k3 (.lst (.of (k4 p3 _ upd_same hp3)) (dpAllAppend (dpsEx k1 t1) (dpsEx k1 t2)))⟩⟩
/-- a list that nobody writes, as data -/
theorem db_rdl (i : Nat) {n : Str} (hc : Γ[i]? = some (.rdl ds) := by rfl) (hN : X.N[i]? = some n := by rfl) (hv : Vis X.env.scope n := by first | exact Or.inl rfl | exact Or.inr (Or.inl rfl) | exact Or.inr (Or.inr rfl)) (hd : (n == ("__debug__" : Str)) = false := by decide) (hcd : (n == ("__classdict__" : Str)) = false := by decide) : DB X Γ (.Name n pos) (.list ds) :=
  PE.wk (pe_var hN hv hd hcd) fun σ H Q ⟨H0, ok, q⟩ => by
    obtain ⟨x, e, p, vs, rfl, s, r⟩ := ok.get hc
    exact ⟨.ref p, e, q _ H H0 (Same.refl H) (Same.refl H0) (fun _ _ _ _ n => n) ok (.lst (.of s) (TDs.dps _ _ r))⟩
theorem ds_setB (i : Nat) {n : Str} {pn : Pos} (h : DB X Γ e d) (hi : X.N[i]? = some n := by rfl) (hN : X.N.Nodup := by assumption) (hx : Loc X.env.scope n := by first | exact .inl rfl | exact .inr rfl) (hs : swapsWith e (some (.Name n pn)) pos.line X.env = pure false := by rfl) (hf : X.fn n = true ∨ X.env.scope.names.lookup n = some .local := by first | exact .inl rfl | exact .inr rfl) :
    DS X Γ (.Assign [.Name n pn] e pos) (.nx (Γ.set i (.gd d))) :=
  PS.wk (ps_set hN hi hx h hs hf) fun D σ H ⟨H0, ok, q⟩ => ⟨H0, ok, fun v H1 Hb e1 b1 _ ok1 r1 => q Hb _ H1 b1 (ok1.putG r1)⟩
theorem ch_setX (i : Nat) {n : Str} {pn : Pos} (h : EX X Γt a c c' e Pr) (hi : X.N[i + 1]? = some n := by rfl) (hN : X.N.Nodup := by assumption) (hx : Loc X.env.scope n := by first | exact .inl rfl | exact .inr rfl) (hs : swapsWith e (some (.Name n pn)) pos.line X.env = pure false := by rfl) (hf : X.fn n = true ∨ X.env.scope.names.lookup n = some .local := by first | exact .inl rfl | exact .inr rfl) :
    PS X (.Assign [.Name n pn] e pos) (tCh X (uG a c Γt) fun z => ∃ d, Pr d ∧ z = uG a c' (Γt.set i (.gd d))) :=
  PS.wk (ps_set hN hi hx h hs hf) fun D σ H ⟨H0, ok, q⟩ => ⟨H0, ok, fun v H1 Hb d f b1 ok1 hd r1 => q _ Hb _ H1 ⟨d, hd, rfl⟩ b1 (ok1.putG (i := i + 1) r1)⟩
end
end K54
set_option Elab.async false
set_option linter.all false
set_option autoImplicit false
set_option maxRecDepth 100000
set_option maxHeartbeats 8000000
/-! K54: the urn, 13: case_right, its second half -/
namespace K54
open PySem PySem.Spec PyProof.Rows L2
open Classical in
noncomputable def fB (Ls Ms : List Looks) (n : Nat) (z : PyData) : Bool := if h : ∃ L, z = eLooks L ∧ VLooks n L then lawSur Ls Ms n (Classical.choose h) else false
theorem fB_tells {Ls Ms : List Looks} {n : Nat} {z : PyData} : (isLooksM z n = false ∧ PyData.bool (fB Ls Ms n z) = .bool false) ∨ ∃ M, z = eLooks M ∧ VLooks n M ∧ PyData.bool (fB Ls Ms n z) = .bool (lawSur Ls Ms n M) := by
  unfold fB
  by_cases h : ∃ L, z = eLooks L ∧ VLooks n L
  · rw [dif_pos h]
    exact .inr ⟨_, (Classical.choose_spec h).1, (Classical.choose_spec h).2, rfl⟩
  · rw [dif_neg h]
    refine .inl ⟨?_, rfl⟩
    cases hz : isLooksM z n with
    | false => rfl
    | true =>
      obtain ⟨L, e, v⟩ := isLooks_v hz
      exact absurd ⟨L, e, v⟩ h
theorem vlooks_tk {n : Nat} {L : Looks} (hn : n ≤ 3) (h : VLooks n L) : ∀ d ∈ L.map eLot, Tk 1 d := fun d hd => by
  obtain ⟨l, hl, rfl⟩ := List.mem_map.mp hd
  have := (h.2 l hl).len
  refine tk_tup (by rw [List.length_map]; omega) fun d hd => ?_
  obtain ⟨x, _, rfl⟩ := List.mem_map.mp hd
  exact tk_int _ _
theorem vlooks_tk2 {n : Nat} {L : Looks} (hn : n ≤ 3) (h : VLooks n L) : Tk 2 (eLooks L) := tk_tup (by rw [List.length_map, h.1]; omega) (vlooks_tk hn h)
theorem vlooks_nest {n : Nat} {L : Looks} (hn : n ≤ 3) (h : VLooks n L) : nest (eLooks L) = true := by
  unfold eLooks
  rw [nest, List.length_map, h.1, decide_eq_true (by omega), nests_map fun l hl => ?_]
  · rfl
  · have := (h.2 l hl).len
    unfold eLot
    rw [nest, List.length_map, decide_eq_true (by omega), nests_map fun x _ => rfl]; rfl
theorem fits_map {α : Type} {f : α → PyData} : ∀ {xs : List α}, (∀ x ∈ xs, fit (f x) = true) → fits (xs.map f) = true
  | [], _ => rfl
  | x :: xs, h => by
    rw [List.map_cons, fits, h x List.mem_cons_self, fits_map fun y hy => h y (List.mem_cons_of_mem _ hy)]; rfl
theorem drew3 {n : Nat} {ds : List PyData} (h : Drew false (fun (_ : Nat) d => ∃ L, VLooks n L ∧ d = eLooks L) (List.range 3) ds) : ∃ L0 L1 L2, VLooks n L0 ∧ VLooks n L1 ∧ VLooks n L2 ∧ ds = [eLooks L0, eLooks L1, eLooks L2] := by
  obtain ⟨Ls, rfl, hl, hv⟩ := drewMap (f := eLooks) (Q := VLooks n) (fun x d h => h) h
  rw [List.length_range] at hl
  match Ls, hl with
  | [a, b, c], _ => exact ⟨a, b, c, hv a (by simp), hv b (by simp), hv c (by simp), rfl⟩
section
variable {P : Program} {w : World} {K : PySem.W.Frag} {mg : Str → Option Value} {base : Heap} {k : Nat}
theorem scS64 : FnScope ["_law_urn", "_law_one", "_law_two", "_law_n", "_law_rows", "_law_more", "_law_same_here", "_law_told_here", "_law_drawn", "_law_lap", "_law_every", "_law_things", "_law_got", "_law_own"] ["_law_urn", "_law_one", "_law_two"] (defScope (top 64)) := ⟨rfl, rfl, rfl, by decide +kernel, rfl, by decide +kernel, by decide +kernel⟩
abbrev X64 (P : Program) (w : World) (K : PySem.W.Frag) (mg : Str → Option Value) (base : Heap) (f : Addr) (cdv : Value) (A : Around) (outer : List Env) (s : Shared) (H : Hp) (E : XK) : Cx := BX P w K mg base ["_law_urn", "_law_one", "_law_two", "_law_n", "_law_rows", "_law_more", "_law_same_here", "_law_told_here", "_law_drawn", "_law_lap", "_law_every", "_law_things", "_law_got", "_law_own"] "_law_case_right" (top 64) f cdv A outer s H E
theorem case_tail (B : Blt mg) (O_same : Ok P w K mg base "_law_same" k ["_law_got", "_law_goal"] (spE K (rSame 3))) (O_tells : Ok P w K mg base "_law_tells" k ["_law_rows", "_law_more", "_law_thing", "_law_n"] (spE K rTells)) (O_looks : OkU P w K mg base "_law_looks" k ["_law_urn", "_law_n"] 16 rLooks) (O_still : Ok P w K mg base "_law_still" k ["_law_n"] (spE K rStill)) (O_bent : OkX P w K mg base "_law_bent" k ["_law_urn", "_law_thing"] 6 (rBent 2)) (O_sur : Ok P w K mg base "is_surrounding" k ["one", "other", "thing"] (spE K rIsSur))
    {f : Addr} {cdv : Value} {A : Around} {outer : List Env} {s : Shared} {H : Hp} {E : XK} (nd : (["_law_urn", "_law_one", "_law_two", "_law_n", "_law_rows", "_law_more", "_law_same_here", "_law_told_here", "_law_drawn", "_law_lap", "_law_every", "_law_things", "_law_got", "_law_own"] : List Str).Nodup) (hr : Room k (X64 P w K mg base f cdv A outer s H E).A) {a : Addr} {c : Nat} (hc : c + 64 ≤ 2 ^ 60)
    {n : Nat} {p q : Piece} (n2 : 2 ≤ n) (hp : SP n p) (hq : SP n q) (b : Bool) (tc : Cell) (ht : ∀ rest, noOwns rest → noOwns (tc :: rest)) (htc : b = false → ∃ L, VLooks n L ∧ tc = .dat (eLooks L)) :
    UR (X64 P w K mg base f cdv A outer s H E) (uG a c [.dat (ePiece p), .dat (ePiece q), .dat (eN n), .rdl ((rowsM p n).map eLooks), .rdl ((rowsM q n).map eLooks), .dat (.bool b), tc, .un, .un, .un, .un, .un, .un]) ((defBody (top 64)).drop 8) a (c + 64) (fun d => d = .bool true) := by
  have n3 := hp.n3
  refine ur_ch (ch_lcR [("_law_lap", 9)] 7 false 16 (xs := List.range 3) (enc := fun i => .t (eN i)) (Pr := fun _ d => ∃ L, VLooks n L ∧ d = eLooks L) (di_range (j := 3) de_int B.range) (fun i x hx => ?_) (by simp)) fun Γ' ⟨ds, hd, eG⟩ => ?_
  · have hi : i < 3 := by simpa using (List.getElem?_eq_some_iff.mp hx).1
    exact ⟨c + i * 16, _, [9], ⟨by decide, by omega, fun s H C cl fp => dg_name 9, fun s H C cl fp => um_nil, fun s H C cl fp => EU.up (du_fn O_looks hr (dr_t (de_var 3) dr_nil) (ds := [eN n]) ⟨n, by omega, n3, rfl, rfl⟩ (by omega)) (by omega)⟩⟩
  subst eG
  obtain ⟨L0, L1, L2, v0, v1, v2, rfl⟩ := drew3 hd
  rw [show (List.range 3).length = 3 from rfl]
  refine ur_cons (ds_set 10 (de_tupRg (n := n) (de_var 3) (by omega) B.tuple B.range)) ?_
  refine ur_cons (ds_setB 11 (d := .list ([eLooks L0, eLooks L1, eLooks L2] ++ [eLooks (stillM n), .list (L0.map eLot), .tuple ((L1.map eLot).drop 1), .none])) (db_catL (db_rdl 8) (db_lst (dbs_cons (DE.bs (de_fn O_still hr (dr_t (de_var 3) dr_nil) ⟨n, by omega, rfl, rfl⟩)) (dbs_cons (DN.bs (dn_lstT (de_ixL (dl_var 8) de_int rfl) B.list)) (dbs_cons (DE.bs (de_slFrom 1 (de_ixL (dl_var 8) de_int rfl) de_int)) (dbs_cons de_non.bs dbs_nil)))) (Nat.le_of_ble_eq_true rfl)) (Nat.le_of_ble_eq_true rfl))) ?_
  refine ur_ch (ch_setX 10 (c' := c + 54) (Pr := fun d => ∃ ds, ds.length ≤ 9 ∧ (∀ z ∈ ds, Tk 3 z) ∧ d = .list ds) (EX.up (ex_catL (DB.ex (db_var 11)) (ex_lst (exs_cons (ex_fn O_bent hr (ht _ trivial) (dr_t (de_ixL (dl_var 8) de_int rfl) dr_nil) (ds := [eLooks L2]) ⟨eLooks L2, vlooks_nest n3 v2, (nice_Looks L2).2, rfl, rfl⟩ (by omega)) (exs_cons (DB.ex (DE.bs (de_op op_repT (opRepT (ds := [eLot (List.range n)]) (k := (n : Int)) (List.cons_ne_nil _ _) (by omega) (by omega) (Nat.le_of_ble_eq_true rfl)) (de_tup (du_cons (de_var 10) du_nil)) (de_var 3)))) exs_nil)) ?_) ?_) (by omega))) fun Γ' ⟨d, ⟨ds, hl, hT, ed⟩, eG⟩ => ?_
  · rintro ds ⟨d, ds', _, ⟨d2, ds2, _, rfl, rfl⟩, rfl⟩
    exact Nat.le_of_ble_eq_true rfl
  · rintro x y rfl ⟨ds, ⟨d, ds', hT, ⟨d2, ds2, rfl, rfl, rfl⟩, rfl⟩, rfl⟩
    refine ⟨_, _, rfl, rfl, Nat.le_of_ble_eq_true rfl, _, Nat.le_of_ble_eq_true rfl, fun z hz => ?_, rfl⟩
    simp only [List.cons_append, List.nil_append, List.mem_cons, List.not_mem_nil, or_false] at hz
    have hlen := fun (L : Looks) (v : VLooks n L) => v.1
    rcases hz with rfl | rfl | rfl | rfl | rfl | rfl | rfl | rfl | rfl
    · exact (vlooks_tk2 n3 v0).up (by omega)
    · exact (vlooks_tk2 n3 v1).up (by omega)
    · exact (vlooks_tk2 n3 v2).up (by omega)
    · exact (vlooks_tk2 n3 (still_v n)).up (by omega)
    · exact (tk_lst (by rw [List.length_map, v0.1]; omega) (vlooks_tk n3 v0)).up (by omega)
    · exact (tk_tup (by rw [List.length_drop, List.length_map, v1.1]; omega) fun d hd => vlooks_tk n3 v1 d (List.mem_of_mem_drop hd)).up (by omega)
    · exact tk_none _
    · exact hT
    · refine Tk.up (tk_tup (k := 1) (by simp; omega) fun d hd => ?_) (by omega)
      obtain ⟨l, hl, hd⟩ := List.mem_flatten.mp hd
      rw [List.eq_of_mem_replicate hl] at hd
      rw [List.mem_singleton.mp hd]
      refine tk_tup (by rw [List.length_map, List.length_range]; omega) fun x hx => ?_
      obtain ⟨y, _, rfl⟩ := List.mem_map.mp hx
      exact tk_int _ _
  subst eG ed
  refine ur_ch (N := fun z => ∃ ds : List PyData, ds.length ≤ 11 ∧ (∀ z ∈ ds, Tk 3 z) ∧ z = uG a (c + 60) [.dat (ePiece p), .dat (ePiece q), .dat (eN n), .rdl ((rowsM p n).map eLooks), .rdl ((rowsM q n).map eLooks), .dat (.bool b), tc, .rdl [eLooks L0, eLooks L1, eLooks L2], .un, .dat (eLot (List.range n)), .gd (.list ds), .un, .un]) (ch_if (b := !b) (dt_not (dt_val (de_var 6))) (fun hb => ?_) fun hb => chs_to (ch_nil (N := fun z => z = _) rfl) fun z hz => ?_) fun Γ' ⟨ds, hl, hT, eG⟩ => ?_
  · have hb' : b = false := by simpa using hb
    obtain ⟨L, vL, et⟩ := htc hb'
    subst et
    refine ch_cons (ch_setX 10 (c' := c + 60) (Pr := fun d => ∃ ds, ds.length ≤ 11 ∧ (∀ z ∈ ds, Tk 3 z) ∧ d = .list ds) (EX.up (ex_catL (DB.ex (db_var 11)) (ex_lst (exs_cons (DB.ex (DE.bs (de_var 7))) (exs_cons (ex_fn O_bent hr trivial (dr_t (de_var 7) dr_nil) (ds := [eLooks L]) ⟨eLooks L, vlooks_nest n3 vL, (nice_Looks L).2, rfl, rfl⟩ (by omega)) exs_nil)) ?_) ?_) (by omega))) fun Γ' ⟨d, ⟨ds, hl, hT, ed⟩, eG⟩ => ?_
    · rintro ds ⟨d, ds', _, ⟨d2, ds2, _, rfl, rfl⟩, rfl⟩
      exact Nat.le_of_ble_eq_true rfl
    · rintro x y rfl ⟨ds', ⟨d, ds2, rfl, ⟨d2, ds3, hT2, rfl, rfl⟩, rfl⟩, rfl⟩
      refine ⟨_, _, rfl, rfl, by simp; omega, _, by simp; omega, fun z hz => ?_, rfl⟩
      rcases List.mem_append.mp hz with hz | hz
      · exact hT z hz
      · simp only [List.mem_cons, List.not_mem_nil, or_false] at hz
        rcases hz with rfl | rfl
        · exact (vlooks_tk2 n3 vL).up (by omega)
        · exact hT2
    · subst eG ed
      exact ch_nil ⟨ds, hl, hT, rfl⟩
  · subst hz
    exact ⟨_, ⟨ds, by omega, hT, rfl⟩, .cons (.urn (by omega)) (ELe.refl _)⟩
  subst eG
  have tl : ∀ z ∈ ds, slim z = true ∧ tiny z = true ∧ z.depth ≤ 50 := fun z hz => ⟨tiny_slim z (hT z hz).1, (hT z hz).1, Nat.le_trans (hT z hz).2 (by omega)⟩
  refine ur_cons (ds_lcR 12 [("_law_own", 13)] (xs := ds) (enc := .g) (p := fun _ => true) (f := fun z => .bool (fB (rowsM p n) (rowsM q n) n z)) (di_gen (db_var 11) (.lst ds)) (fun z hz => ⟨_, _, by decide, fun s H C cl fp => ⟨dg_name 13, dts_nil, fun _ => de_fn O_sur hr (dr_g (DE.g (de_var 1)) (dr_g (DE.g (de_var 2)) (dr_g (dg_var 13) dr_nil))) ⟨ePiece p, p, n, ePiece q, q, n, z, hp.gpT, hq.gpT, (tl z hz).1, rfl, ?_⟩⟩⟩) (by omega)) ?_
  · rcases fB_tells (Ls := rowsM p n) (Ms := rowsM q n) (n := n) (z := z) with h | ⟨M, e, v, h⟩
    · exact .inl h
    · exact .inr ⟨M, e, v, by rw [sur_same n3 hp hq v]; exact h⟩
  refine UR.up (ur_retD (d := .bool true) (de_fn O_same hr (dr_l (dl_var 12) (dr_l (DN.l (dn_lc [("_law_own", 13)] (xs := ds) (enc := .g) (p := fun _ => true) (f := fun z => .bool (fB (rowsM p n) (rowsM q n) n z)) (di_gen (db_var 11) (.lst ds)) (fun z hz => ⟨_, _, by decide, fun s H C cl fp => ⟨dg_name 13, dts_nil, fun _ => de_fn O_tells hr (dr_l (dl_var 4) (dr_l (dl_var 5) (dr_g (dg_var 13) (dr_t (de_var 3) dr_nil)))) ⟨rowsM p n, rowsM q n, z, n, n3, hp.rowsLt, hp.rowsV, hq.rowsLt, hq.rowsV, (tl z hz).2.1, (tl z hz).2.2, rfl, fB_tells⟩⟩⟩) (by omega))) dr_nil)) ⟨rfl, .inr ⟨_, ?_, ?_, ?_, rfl⟩⟩) rfl) (by omega)
  · rw [fAll]
    exact fits_map fun z _ => rfl
  · rw [fAll]
    have : PyData.depthAll (ds.map fun z => PyData.bool (fB (rowsM p n) (rowsM q n) n z)) ≤ 0 := (nice_all (k := 0) fun d hd => by
      obtain ⟨z, _, rfl⟩ := List.mem_map.mp hd
      exact nice_bool _).2
    omega
  · rw [fAll, List.length_map]; omega
end
end K54
set_option Elab.async false
set_option linter.all false
set_option autoImplicit false
set_option maxRecDepth 100000
set_option maxHeartbeats 8000000
/-! K54: the urn, 14: case_right -/
namespace K54
open PySem PySem.Spec PyProof.Rows L2
theorem slim_Piece_dp {n : Nat} {p : Piece} (S : SP n p) : slim (ePiece p) = true ∧ (ePiece p).depth ≤ 5 := ⟨S.slim, (nice_Piece p).2⟩
theorem fit_Lot {l : Lot} (h : l.length ≤ 1000) : fit (eLot l) = true := by
  unfold eLot
  rw [fit, List.length_map, decide_eq_true h, fits_map fun x _ => rfl]; rfl
theorem fit_Looks {n : Nat} {L : Looks} (hn : n ≤ 3) (h : VLooks n L) : fit (eLooks L) = true := by
  unfold eLooks
  rw [fit, List.length_map, h.1, decide_eq_true (by omega), fits_map fun l hl => fit_Lot (by have := (h.2 l hl).len; omega)]; rfl
section
variable {X : Cx} {Γ : List Cell} {a b : Expr} {cs ds : List PyData} {pos : Pos}
/-- two names that are cells: both new lists, read only -/
theorem ds_parLL (i j : Nat) {n m : Str} {pn pm pt pt2 : Pos} {kt k2 : Nat} (ha : DN X Γ a cs) (hb : DN X Γ b ds) (hi : X.N[i]? = some n := by rfl) (hj : X.N[j]? = some m := by rfl) (hN : X.N.Nodup := by assumption) (hx : Loc X.env.scope n := by first | exact .inl rfl | exact .inr rfl) (hy : Loc X.env.scope m := by first | exact .inl rfl | exact .inr rfl) (hf : X.fn n = true ∨ X.env.scope.names.lookup n = some .local := by first | exact .inl rfl | exact .inr rfl) (hf2 : X.fn m = true ∨ X.env.scope.names.lookup m = some .local := by first | exact .inl rfl | exact .inr rfl) (hc : X.calm = true := by rfl) (hn : (assignEach [.Name n pn, .Name m pm] X.env).length = 2 := by rfl) (hst : (assignEach [.Name n pn, .Name m pm] X.env).findIdx? (·.1) = none := by rfl)
    (hs : swapsWithSole [.Tuple [.Name n pn, .Name m pm] kt pt] (.Tuple [a, b] k2 pt2) pos.line X.env = pure false := by rfl) (hw : swappedStores [.Tuple [.Name n pn, .Name m pm] kt pt] (.Tuple [a, b] k2 pt2) X.env = pure none := by rfl) (h1 : (assignEach [.Tuple [.Name n pn, .Name m pm] kt pt] X.env).map (·.2) = [assign (.Tuple [.Name n pn, .Name m pm] kt pt) X.env] := by rfl)
    (hs1 : starEach [a, b] X.env = (false, eval a X.env) :: starEach [b] X.env := by rfl) (hs2 : starEach [b] X.env = (false, eval b X.env) :: starEach [] X.env := by rfl) :
    DS X Γ (.Assign [.Tuple [.Name n pn, .Name m pm] kt pt] (.Tuple [a, b] k2 pt2) pos) (.nx ((Γ.set i (.rdl cs)).set j (.rdl ds))) :=
  PS.wk (ps_asg (pe_tup (pa_cons ha (pa_cons hb pa_nil hs2) hs1)) (pg_tup hc (dgs_cons (a := .l cs) (dg_name i hi hN hx hf) (dgs_cons (a := .l ds) (dg_name j hj hN hy hf2) dgs_nil)) hn hst) hs hw h1) fun D σ H ⟨H0, ok, q⟩ => ⟨H0, ok, fun l us H1 n1 e1 g1 r1 => ⟨H0, ok.mono e1, fun l2 vs H2 n2 e2 g2 r2 => ⟨by show 2 ≤ sizeLine; decide, fun p hp => by
    have e3 : Same H2 (upd H2 p (.tup [V.ref l, V.ref l2])) := sameNew hp
    obtain ⟨Hb, b1, b2, b3, b4, b5⟩ := (((ok.mono e1).mono e2).mono e3).max
    have f1 : ∀ i, ¬ OwnAt σ Γ i l := ok.fresh n1
    have f2 : ∀ i, ¬ OwnAt σ Γ i l2 := (ok.mono e1).fresh n2
    refine ⟨p, _, rfl, .of upd_same, rfl, Hb, b2, .cons ⟨l, us, rfl, b4 l _ (e3 _ _ (e2 _ _ g1)) f1, (r1.ex (e2.trans e3)).at b5⟩ (.cons ⟨l2, vs, rfl, b4 l2 _ (e3 _ _ g2) f2, (r2.ex e3).at b5⟩ .nil), fun σ' _ _ k => q Hb σ' _ b1 (k Hb (Same.refl Hb) b3)⟩⟩⟩⟩
end
section
variable {P : Program} {w : World} {K : PySem.W.Frag} {mg : Str → Option Value} {base : Heap} {k : Nat}
def rCase (ds : List PyData) (Pr : PyData → Prop) : Prop := ∃ n p q, 2 ≤ n ∧ SP n p ∧ SP n q ∧ ds = [ePiece p, ePiece q] ∧ Pr = fun d => d = .bool true
theorem ok_case (B : Blt mg) (D : DefAt K mg "_law_case_right" 64 ["_law_urn", "_law_one", "_law_two"]) (O_row : Ok P w K mg base "_law_row_looks" k ["_law_piece_so"] (spN K rRow)) (O_tab : Ok P w K mg base "_law_table" k ["_law_some_looks", "_law_n"] (spE K rLTable)) (O_tY : Ok P w K mg base "_law_told" k ["_law_one", "_law_two"] (spE K rToldY)) (O_tN : Ok P w K mg base "_law_told" k ["_law_one", "_law_two"] (spN K rToldN)) (O_alike : Ok P w K mg base "pieces_alike" k ["one", "other"] (spE K rAlike)) (O_lists : OkB P w K mg base "_law_lists" k ["_law_matter"] (rListed 5))
    (O_same : Ok P w K mg base "_law_same" k ["_law_got", "_law_goal"] (spE K (rSame 3))) (O_tells : Ok P w K mg base "_law_tells" k ["_law_rows", "_law_more", "_law_thing", "_law_n"] (spE K rTells)) (O_looks : OkU P w K mg base "_law_looks" k ["_law_urn", "_law_n"] 16 rLooks) (O_still : Ok P w K mg base "_law_still" k ["_law_n"] (spE K rStill)) (O_bent : OkX P w K mg base "_law_bent" k ["_law_urn", "_law_thing"] 6 (rBent 2)) (O_sur : Ok P w K mg base "is_surrounding" k ["one", "other", "thing"] (spE K rIsSur)) :
    OkU P w K mg base "_law_case_right" (k + 1) ["_law_urn", "_law_one", "_law_two"] 64 rCase := by
  refine okU' D scS64 (fun as Pr h => by obtain ⟨_, _, _, _, _, _, rfl, _⟩ := h; rfl) fun nd f cdv A outer s H E hr a c as Pr h hc => ?_
  obtain ⟨n, p, q, n2, hp, hq, rfl, rfl⟩ := h
  have n3 := hp.n3
  obtain ⟨L0, Lr, e0⟩ : ∃ L0 Lr, p.steps = L0 :: Lr := by
    cases hs : p.steps with
    | nil => exact absurd hs hp.ne
    | cons x l => exact ⟨x, l, rfl⟩
  have l0 : L0.length = n := (hp.steps L0 (by rw [e0]; exact List.mem_cons_self)).1
  have lsP : rListed 5 (ePiece p) (listed (ePiece p)) := ⟨hp.slim, (nice_Piece p).2, rfl⟩
  have lsQ : rListed 5 (ePiece q) (listed (ePiece q)) := ⟨hq.slim, (nice_Piece q).2, rfl⟩
  refine ur_cons (ds_set 3 (d := eN n) (DE.is (de_lenT (ds := L0.map eLot) (de_ixT (ds := [eLooks L0, .none]) (de_ixT (d := eStep L0) (ds := p.steps.map eStep) (de_ixT (ds := [eSteps p, eStands p]) (de_var 1) de_int rfl) de_int (atI_nat (i := 0) (by rw [e0]; rfl))) de_int rfl) B.len) (by rw [List.length_map, l0]; rfl))) ?_
  refine ur_cons (ds_parLL 4 5 (dn_fn O_row hr (dr_t (de_var 1) dr_nil) ⟨p, n, hp.lp, rfl, rfl⟩) (dn_fn O_row hr (dr_t (de_var 2) dr_nil) ⟨q, n, hq.lp, rfl, rfl⟩)) ?_
  generalize hb : decide (tableM (rowsM p n) n = tableM (rowsM q n) n) = b
  refine ur_cons (ds_set 6 (d := .bool b) (DE.is (dg_cmp (op_eqD hr.units) (opEqD ((nice_Tab _).shaped (by decide)) ((nice_Tab _).shaped (by decide))) (DE.g (de_fn O_tab hr (dr_l (dl_var 4) (dr_t (de_var 3) dr_nil)) ⟨rowsM p n, n, n3, hp.rowsLt, hp.rowsV, rfl, rfl⟩)) (DE.g (de_fn O_tab hr (dr_l (dl_var 5) (dr_t (de_var 3) dr_nil)) ⟨rowsM q n, n, n3, hq.rowsLt, hq.rowsV, rfl, rfl⟩))) (by rw [eqv_Tab, hb]))) ?_
  have hb2 : decide (tableM (rowsM q n) n = tableM (rowsM p n) n) = b := by
    rw [← hb]
    by_cases e : tableM (rowsM p n) n = tableM (rowsM q n) n
    · rw [decide_eq_true e, decide_eq_true e.symm]
    · rw [decide_eq_false e, decide_eq_false fun z => e z.symm]
  have alike4 : ∀ (tc : Cell) (Γr : List Cell) {t : Expr}, True := fun _ _ _ => trivial
  cases b with
  | true =>
    have eT : tableM (rowsM p n) n = tableM (rowsM q n) n := of_decide_eq_true hb
    have ans := answer_alike hp hq eT
    refine ur_cons (ds_setR 7 (dn_fn O_tN hr (dr_g (DE.g (de_var 1)) (dr_g (DE.g (de_var 2)) dr_nil)) ⟨_, p, n, _, q, n, hp.gpT, hq.gpT, ans, rfl, rfl⟩)) ?_
    refine ur_if (b := false) (DT.is (dt_not (dt_val (k := true) (DE.is (de_fn O_same hr (dr_l (DN.l (dn_lst (du_cons (de_fn O_alike hr (dr_g (DE.g (de_var 1)) (dr_g (DE.g (de_var 2)) dr_nil)) ⟨_, p, n, _, q, n, hp.gpT, hq.gpT, rfl, rfl⟩) (du_cons (de_fn O_alike hr (dr_g (DB.g (db_fn O_lists hr (DE.bs (de_var 2)) lsQ)) (dr_g (DB.g (db_fn O_lists hr (DE.bs (de_var 1)) lsP)) dr_nil)) ⟨_, q, n, _, p, n, hq.gpL, hp.gpL, rfl, rfl⟩) du_nil)))) (dr_l (DN.l (dn_lst (du_cons (de_var 6) (du_cons (de_var 6) du_nil)))) dr_nil)) ⟨rfl, .inr ⟨[.bool true, .bool true], rfl, by decide, Nat.le_of_ble_eq_true rfl, ?_⟩⟩) rfl))) rfl) (fun z => nomatch z) fun _ => ?_
    · rw [hb, hb2]
    refine ur_if (b := false) (DT.is (PW.pt (dw_and (k := true) (l := false) (dt_val (de_var 6)) fun _ => dw_and1 (DT.is (dtg_cmp (k := !PyData.eqv (.list [.str "cannot", .bool true]) (.list [.str "cannot", .bool true])) (op_neD hr.units) (opNeD (by decide +kernel) (by decide +kernel)) (DL.g (dl_var 7)) (DN.g (dn_lst (du_cons de_str (du_cons de_bl du_nil))))) (by decide +kernel)))) rfl) (fun z => nomatch z) fun _ => ?_
    refine ur_if (b := false) (DT.is (PW.pt (dw_and (k := false) (l := false) (DT.is (dt_not (dt_val (de_var 6))) rfl) fun z => nomatch z)) rfl) (fun z => nomatch z) fun _ => ?_
    refine ur_if (b := false) (DT.is (dt_not (dt_val (k := true) (DE.is (de_fn O_same hr (dr_l (DN.l (dn_fn O_tN hr (dr_g (DB.g (db_fn O_lists hr (DE.bs (de_var 1)) lsP)) (dr_g (DB.g (db_fn O_lists hr (DE.bs (de_var 2)) lsQ)) dr_nil)) ⟨_, p, n, _, q, n, hp.gpL, hq.gpL, ans, rfl, rfl⟩)) (dr_l (dl_var 7) dr_nil)) ⟨rfl, .inr ⟨[.str "cannot", .bool true], by decide +kernel, by decide +kernel, Nat.le_of_ble_eq_true rfl, rfl⟩⟩) rfl))) rfl) (fun z => nomatch z) fun _ => ?_
    exact case_tail B O_same O_tells O_looks O_still O_bent O_sur nd hr hc n2 hp hq true _ (fun rest h => h) fun z => nomatch z
  | false =>
    have eT : tableM (rowsM p n) n ≠ tableM (rowsM q n) n := of_decide_eq_false hb
    obtain ⟨L, ans, vL, tells⟩ := answer_tells hp hq eT
    refine ur_cons (ds_set 7 (de_fn O_tY hr (dr_g (DE.g (de_var 1)) (dr_g (DE.g (de_var 2)) dr_nil)) ⟨_, p, n, _, q, n, L, hp.gpT, hq.gpT, ans, rfl, rfl⟩)) ?_
    refine ur_if (b := false) (DT.is (dt_not (dt_val (k := true) (DE.is (de_fn O_same hr (dr_l (DN.l (dn_lst (du_cons (de_fn O_alike hr (dr_g (DE.g (de_var 1)) (dr_g (DE.g (de_var 2)) dr_nil)) ⟨_, p, n, _, q, n, hp.gpT, hq.gpT, rfl, rfl⟩) (du_cons (de_fn O_alike hr (dr_g (DB.g (db_fn O_lists hr (DE.bs (de_var 2)) lsQ)) (dr_g (DB.g (db_fn O_lists hr (DE.bs (de_var 1)) lsP)) dr_nil)) ⟨_, q, n, _, p, n, hq.gpL, hp.gpL, rfl, rfl⟩) du_nil)))) (dr_l (DN.l (dn_lst (du_cons (de_var 6) (du_cons (de_var 6) du_nil)))) dr_nil)) ⟨rfl, .inr ⟨[.bool false, .bool false], rfl, by decide, Nat.le_of_ble_eq_true rfl, ?_⟩⟩) rfl))) rfl) (fun z => nomatch z) fun _ => ?_
    · rw [hb, hb2]
    refine ur_if (b := false) (DT.is (PW.pt (dw_and (k := false) (l := false) (dt_val (de_var 6)) fun z => nomatch z)) rfl) (fun z => nomatch z) fun _ => ?_
    refine ur_if (b := false) (DT.is (PW.pt (dw_and (k := true) (l := false) (DT.is (dt_not (dt_val (de_var 6))) rfl) fun _ => dw_and1 (DT.is (dt_not (dt_val (k := true) (de_fn O_tells hr (dr_l (dl_var 4) (dr_l (dl_var 5) (dr_g (DE.g (de_var 7)) (dr_t (de_var 3) dr_nil)))) ⟨rowsM p n, rowsM q n, eLooks L, n, n3, hp.rowsLt, hp.rowsV, hq.rowsLt, hq.rowsV, (vlooks_tk2 n3 vL).1, Nat.le_trans (vlooks_tk2 n3 vL).2 (by omega), rfl, .inr ⟨L, rfl, vL, by rw [tells]⟩⟩))) rfl))) rfl) (fun z => nomatch z) fun _ => ?_
    refine ur_if (b := false) (DT.is (dt_not (dt_val (k := true) (DE.is (de_fn O_same hr (dr_t (de_fn O_tY hr (dr_g (DB.g (db_fn O_lists hr (DE.bs (de_var 1)) lsP)) (dr_g (DB.g (db_fn O_lists hr (DE.bs (de_var 2)) lsQ)) dr_nil)) ⟨_, p, n, _, q, n, L, hp.gpL, hq.gpL, ans, rfl, rfl⟩) (dr_t (de_var 7) dr_nil)) ⟨rfl, .inl ⟨eLooks L, fit_Looks n3 vL, Nat.le_trans (nice_Looks L).2 (by omega), rfl⟩⟩) rfl))) rfl) (fun z => nomatch z) fun _ => ?_
    exact case_tail B O_same O_tells O_looks O_still O_bent O_sur nd hr hc n2 hp hq false _ (fun rest h => h) fun _ => ⟨L, vL, rfl⟩
end
end K54
set_option Elab.async false
set_option linter.all false
set_option autoImplicit false
set_option maxRecDepth 100000
set_option maxHeartbeats 8000000
/-! K54: the urn, 15: right -/
namespace K54
open PySem PySem.Spec PyProof.Rows L2
section
variable {X : Cx} {Γt : List Cell} {a : Addr} {c c' : Nat} {e : Expr} {es : List Expr} {Pr : PyData → Prop} {PP : List PyData → Prop} {p pos : Pos} {n : Str} {k : Nat} {ps : List Str}
/-- a def that does not draw, of arguments that do -/
theorem eu_det {R : List Arg → PyData → Prop} (O : Ok X.prog X.w X.K X.mg X.base n k ps (spE X.K R)) (hr : Room k X.A) (ha : EUs X Γt a c c' (e :: es) PP) (hR : ∀ ds, PP ds → ∃ d, R (ds.map .t) d ∧ Pr d)
    (hg : Gl X n := by rfl) (hdb : (n == ("__debug__" : Str)) = false := by decide) (he : starEach (e :: es) X.env = (false, eval e X.env) :: starEach es X.env := by rfl) (hpl : (backTo pos (starEach es X.env)).any (·.1) = false := by rfl) : EU X Γt a c c' (.Call (.Name n p) (e :: es) [] pos) Pr := by
  obtain ⟨f, fd, F, h1, h2, h3⟩ := O
  refine PE.wk (pe_call F hr hg h1 h2 h3 .nil pass0 ha hdb he hpl) fun σ H Q ⟨H0, ok, q⟩ => ⟨H0, ok, fun vs H1 ds f1 ok1 hds r1 => ?_⟩
  obtain ⟨d, hRd, hp⟩ := hR ds hds
  exact ⟨ds.map .t, d, by rw [List.append_nil]; exact argsT r1, hRd, fun v H2 e2 r2 => q v H2 d (f1.trans (.of e2)) (ok1.mono e2) hp r2⟩
end
section
variable {P : Program} {w : World} {K : PySem.W.Frag} {mg : Str → Option Value} {base : Heap} {k : Nat}
theorem scS66 : FnScope ["_law_urn", "_law_n", "_law_one", "_law_two", "_law_steps", "_law_spot", "_law_own", "_law_place"] ["_law_urn"] (defScope (top 66)) := ⟨rfl, rfl, rfl, by decide +kernel, rfl, by decide +kernel, by decide +kernel⟩
def rRight (ds : List PyData) (Pr : PyData → Prop) : Prop := ds = [] ∧ Pr = fun d => d = .bool true
theorem ok_right (B : Blt mg) (D : DefAt K mg "_law_right" 66 ["_law_urn"]) (O : OkU P w K mg base "_law_take" k ["_law_urn", "_law_low_so"] 1 rTake) (O2 : OkX P w K mg base "_law_of" k ["_law_urn", "_law_some_so"] 1 rOf) (O3 : OkU P w K mg base "_law_piece" k ["_law_urn", "_law_n"] 80 rPiece) (O4 : Ok P w K mg base "_law_few" k ["_law_piece_so", "_law_most_so"] (spE K rFew)) (O5 : OkU P w K mg base "_law_lot" k ["_law_urn", "_law_n"] 4 rLot) (O6 : OkU P w K mg base "_law_case_right" k ["_law_urn", "_law_one", "_law_two"] 64 rCase) : OkU P w K mg base "_law_right" (k + 1) ["_law_urn"] 240 rRight := by
  refine okU' D scS66 (fun as Pr h => by obtain ⟨rfl, _⟩ := h; rfl) fun nd f cdv A outer s H E hr a c as Pr h hc => ?_
  obtain ⟨rfl, rfl⟩ := h
  refine ur_ch (ch_set 0 (Pr := fun d => ∃ n : Nat, 2 ≤ n ∧ n ≤ 3 ∧ d = eN n) (EU.to (eu_fnL O2 hr (dn_lst (du_cons de_int (du_cons de_int (du_cons de_int (du_cons de_int du_nil))))) (ds := [eN 2, eN 3, eN 3, eN 3]) (ofR (List.cons_ne_nil _ _) (Nat.le_trans (m := 1000) (Nat.le_of_ble_eq_true rfl) (by omega))) ?_ (by omega)) ?_)) fun Γ' ⟨d, ⟨n, n2, n3, ed⟩, eG⟩ => ?_
  · intro d hd
    simp only [List.mem_cons, List.not_mem_nil, or_false] at hd
    rcases hd with rfl | rfl | rfl | rfl <;> rfl
  · intro d hd
    simp only [List.mem_cons, List.not_mem_nil, or_false] at hd
    rcases hd with rfl | rfl | rfl | rfl
    · exact ⟨2, by omega, by omega, rfl⟩
    · exact ⟨3, by omega, by omega, rfl⟩
    · exact ⟨3, by omega, by omega, rfl⟩
    · exact ⟨3, by omega, by omega, rfl⟩
  subst eG ed
  have few : ∀ ds : List PyData, (∃ d ds', (∃ p, SP n p ∧ d = ePiece p) ∧ (∃ d2 ds2, d2 = eN 4 ∧ ds2 = [] ∧ ds' = d2 :: ds2) ∧ ds = d :: ds') → ∃ d, rFew (ds.map .t) d ∧ ∃ p, SP n p ∧ d = ePiece p := by
    rintro ds ⟨d, ds', ⟨p, hp, rfl⟩, ⟨d2, ds2, rfl, rfl, rfl⟩, rfl⟩
    exact ⟨_, ⟨p, n, 4, hp.lp, by omega, rfl, rfl⟩, _, hp.few4, rfl⟩
  refine ur_ch (ch_par 1 2 (P1 := fun d => ∃ p, SP n p ∧ d = ePiece p) (P2 := fun d => ∃ p, SP n p ∧ d = ePiece p) (eu_det O4 hr (eus_cons (du_fn O3 hr (dr_t (de_var 1) dr_nil) (ds := [eN n]) ⟨n, by omega, n3, rfl, rfl⟩ (by omega)) (eus_cons (de_int (i := 4)).eu eus_nil)) few) (eu_det O4 hr (eus_cons (du_fn O3 hr (dr_t (de_var 1) dr_nil) (ds := [eN n]) ⟨n, by omega, n3, rfl, rfl⟩ (by omega)) (eus_cons (de_int (i := 4)).eu eus_nil)) few)) fun Γ' ⟨x, y, ⟨p, hp, ex⟩, ⟨q, hq, ey⟩, eG⟩ => ?_
  subst eG ex ey
  refine ur_ch (N := fun z => ∃ q, SP n q ∧ z = uG a (c + 1 + 80 + 80 + 1 + 1 + 1 + 4) [.dat (eN n), .dat (ePiece p), .dat (ePiece q), .un, .un, .un, .un]) (ch_ifU (c' := c + 1 + 80 + 80 + 1) (ut_cmp (op_eqD hr.units) (du_fn O hr (dr_t de_int dr_nil) (ds := [eN 2]) ⟨2, by omega, by omega, rfl, rfl⟩ (by omega)) (de_int (i := 0)).eu fun u v hu hv => ?_) ?_ (chs_to (ch_nil (N := fun z => z = _) rfl) fun z hz => ?_)) fun Γ' ⟨q, hq, eG⟩ => ?_
  · obtain ⟨j, _, rfl⟩ := hu
    subst hv
    exact ⟨_, (opEqD rfl rfl).t⟩
  · refine ch_cons (ch_det (ds_setO 4 (ds := p.steps.map eStep) (dn_lstT (de_ixT (ds := [eSteps p, eStands p]) (de_var 2) de_int rfl) B.list))) fun Γ' eG => ?_
    subst eG
    have slen := hp.slen
    have spos : 0 < p.steps.length := List.length_pos_iff.mpr hp.ne
    refine ch_cons (ch_set 4 (Γt := [.dat (eN n), .dat (ePiece p), .dat (ePiece q), .own (.lst (p.steps.map eStep)), .un, .un, .un]) (du_fn O hr (dr_t (de_lenL (do_var 4) B.len) dr_nil) (ds := [eN (p.steps.map eStep).length]) ⟨(p.steps.map eStep).length, by rw [List.length_map]; exact spos, by rw [List.length_map]; omega, rfl, rfl⟩ (by omega))) fun Γ' ⟨d, ⟨t, ht, ed⟩, eG⟩ => ?_
    subst eG ed
    rw [List.length_map] at ht
    have hL : p.steps[t]? = some (p.steps.getD t []) := by rw [List.getD_eq_getElem?_getD, List.getElem?_eq_getElem ht]; rfl
    have vL := hp.steps _ (List.mem_of_getElem? hL)
    generalize hLL : p.steps.getD t [] = L at hL vL
    refine ch_cons (ch_par 5 6 (DE.eu (de_ixT (ds := [eLooks L, .none]) (de_ixL (d := eStep L) (do_var 4) (de_var 5) (atI_nat (by rw [List.getElem?_map, hL]; rfl))) de_int rfl)) (du_fn O hr (dr_t (de_var 1) dr_nil) (ds := [eN n]) ⟨n, by omega, by omega, rfl, rfl⟩ (by omega))) fun Γ' ⟨x, y, ex, ⟨r, hr', ey⟩, eG⟩ => ?_
    subst eG ex ey
    refine ch_cons (ch_store 3 t (ds := p.steps.map eStep) (Pr := fun d => ∃ l, VLot n l ∧ d = eStep (L.set r l)) (EU.to (eu_tup (eus_cons (eu_op op_catA (Pr := fun d => ∃ l, VLot n l ∧ d = eLooks (L.set r l)) (eu_op op_catA (Pr := fun d => ∃ l, VLot n l ∧ d = .tuple ((L.map eLot).take r ++ [eLot l])) (DE.eu (de_slTo r (de_var 6) (de_var 7))) (eu_tup1 (du_fn O5 hr (dr_t (de_var 1) dr_nil) (ds := [eN n]) ⟨n, by omega, n3, rfl, rfl⟩ (by omega))) ?_) (DE.eu (de_slFrom (r + 1) (de_var 6) (de_op op_add (opAddN r 1) (de_var 7) de_int))) ?_) (eus_cons de_non.eu eus_nil)) ?_) ?_) (de_var 5) (by rw [List.length_map]; exact ht)) fun Γ' ⟨d, ⟨l, vl, ed⟩, eG⟩ => ?_
    · rintro u v rfl ⟨d, ⟨l, vl, rfl⟩, rfl⟩
      exact ⟨_, ⟨l, vl, rfl⟩, opCatT (by rw [List.length_take, List.length_map, vL.1]; simp; omega)⟩
    · rintro u v ⟨l, vl, rfl⟩ rfl
      refine ⟨_, ⟨l, vl, rfl⟩, ?_⟩
      have e : eLooks (L.set r l) = .tuple (((L.map eLot).take r ++ [eLot l]) ++ (L.map eLot).drop (r + 1)) := by
        unfold eLooks
        rw [List.map_set, List.set_eq_take_append_cons_drop, if_pos (by rw [List.length_map, vL.1]; exact hr'), List.append_assoc]
        rfl
      rw [e]
      exact opCatT (by rw [List.length_append, List.length_take, List.length_drop, List.length_map, vL.1]; simp; omega)
    · rintro ds ⟨d, ds', _, ⟨d2, ds2, _, rfl, rfl⟩, rfl⟩
      exact Nat.le_of_ble_eq_true rfl
    · rintro d ⟨ds, ⟨d1, ds1, ⟨l, vl, rfl⟩, ⟨d2, ds2, rfl, rfl, rfl⟩, rfl⟩, rfl⟩
      exact ⟨l, vl, rfl⟩
    · subst eG ed
      refine ch_cons (ch_det (ds_set 3 (d := ePiece ⟨p.steps.set t ((p.steps.getD t []).set r l), p.stands⟩) (DE.is (de_tup (du_cons (de_tupL (do_var 4) B.tuple) (du_cons (de_ixT (ds := [eSteps p, eStands p]) (de_var 2) de_int rfl) du_nil))) ?_))) fun Γ' eG => ?_
      · rw [hLL]
        unfold ePiece eSteps eStands
        rw [List.map_set]
      · subst eG
        refine chs_to (ch_nil (N := fun z => z = _) rfl) fun z hz => ?_
        subst hz
        exact ⟨_, ⟨_, hp.bend vl, rfl⟩, .cons (.urn (by omega)) (.cons (.eq _) (.cons (.eq _) (.cons (.eq _) (.cons (.un _) (.cons (.un _) (.cons (.un _) (.cons (.un _) .nil)))))))⟩
  · subst hz
    exact ⟨_, ⟨q, hq, rfl⟩, .cons (.urn (by omega)) (.cons (.eq _) (.cons (.eq _) (.cons (.eq _) (.cons (.un _) (.cons (.un _) (.cons (.un _) (.cons (.un _) .nil)))))))⟩
  · subst eG
    exact UR.up (ur_ret (du_fn O6 hr (dr_t (de_var 2) (dr_t (de_var 3) dr_nil)) (ds := [ePiece p, ePiece q]) ⟨n, p, q, n2, hp, hq, rfl, rfl⟩ (by omega))) (by omega)
end
end K54
set_option Elab.async false
set_option linter.all false
set_option autoImplicit false
set_option maxRecDepth 100000
set_option maxHeartbeats 8000000
/-! K54: the urn, 16: by hand -/
namespace K54
open PySem PySem.Spec PyProof.Rows L2
def lkSwap : Looks := [[1], [0], [2]]
def lkDraw : Looks := [[0], [0], [2]]
def lkStill : Looks := [[0], [1], [2]]
def lkTell : Looks := [[1], [0, 1, 2], [2]]
def pOne : Piece := ⟨[lkSwap], [[(0, 1)]]⟩
def pTwo : Piece := ⟨[lkDraw], [[(0, 1)]]⟩
def pThree : Piece := ⟨[lkStill], []⟩
theorem v_lot1 {n x : Nat} (h : x < n) : VLot n [x] := vlot_one h
theorem v_of3 {a b c : Lot} (ha : VLot 3 a) (hb : VLot 3 b) (hc : VLot 3 c) : VLooks 3 [a, b, c] := ⟨rfl, fun l hl => by
  simp only [List.mem_cons, List.not_mem_nil, or_false] at hl
  rcases hl with rfl | rfl | rfl
  · exact ha
  · exact hb
  · exact hc⟩
theorem vSwap : VLooks 3 lkSwap := v_of3 (vlot_one (by decide)) (vlot_one (by decide)) (vlot_one (by decide))
theorem vDraw : VLooks 3 lkDraw := v_of3 (vlot_one (by decide)) (vlot_one (by decide)) (vlot_one (by decide))
theorem vStill : VLooks 3 lkStill := v_of3 (vlot_one (by decide)) (vlot_one (by decide)) (vlot_one (by decide))
theorem vTell : VLooks 3 lkTell := v_of3 (vlot_one (by decide)) ⟨(fun z => nomatch z), by decide, by decide⟩ (vlot_one (by decide))
theorem sp_one {L : Looks} (v : VLooks 3 L) : SP 3 ⟨[L], [[(0, 1)]]⟩ := by
  refine ⟨by decide, by decide, List.cons_ne_nil _ _, Nat.le_of_ble_eq_true rfl, fun M hM => by rw [List.mem_singleton.mp hM]; exact v, fun i row hr a ha => ?_, fun row hr => ?_, .inl ⟨Nat.le_of_ble_eq_true rfl, fun row hr => ?_⟩⟩
  · cases i with
    | succ i => cases hr
    | zero =>
      have e : row = [(0, 1)] := (Option.some.inj hr).symm
      subst e
      rw [List.mem_singleton.mp ha]
      exact ⟨Nat.zero_lt_one, Nat.zero_lt_one, Nat.le_refl _⟩
  · rw [List.mem_singleton.mp hr]; exact List.cons_ne_nil _ _
  · rw [List.mem_singleton.mp hr]; exact Nat.le_of_ble_eq_true rfl
theorem sp_three : SP 3 pThree := ⟨by decide, by decide, List.cons_ne_nil _ _, Nat.le_of_ble_eq_true rfl, fun M hM => by rw [List.mem_singleton.mp hM]; exact vStill, (fun i row hr => by cases hr), (fun row hr => by cases hr), .inl ⟨Nat.le_of_ble_eq_true rfl, fun row hr => by cases hr⟩⟩
theorem al12 : decide (tableM (rowsM pOne 3) 3 = tableM (rowsM pTwo 3) 3) = false := by decide +kernel
theorem al13 : decide (tableM (rowsM pOne 3) 3 = tableM (rowsM pThree 3) 3) = false := by decide +kernel
theorem su13 : surM pOne pThree 3 3 lkTell = true := by decide +kernel
theorem su12 : surM pOne pTwo 3 3 lkStill = false := by decide +kernel
theorem su13s : surM pOne pThree 3 3 lkStill = false := by decide +kernel
section
variable {X : Cx} {Γ : List Cell} {a b e : Expr} {x y z : PyData} {pos : Pos}
theorem ds_par3 (i j l : Nat) {n m o : Str} {pn pm po pt pt2 : Pos} {kt k2 : Nat} (ha : DE X Γ a x) (hb : DE X Γ b y) (he : DE X Γ e z) (hij : i ≠ j := by decide) (hil : i ≠ l := by decide) (hjl : j ≠ l := by decide) (hi : X.N[i]? = some n := by rfl) (hj : X.N[j]? = some m := by rfl) (hl : X.N[l]? = some o := by rfl) (hN : X.N.Nodup := by assumption) (hn : X.env.scope.names.lookup n = some .local := by rfl) (hm : X.env.scope.names.lookup m = some .local := by rfl) (ho : X.env.scope.names.lookup o = some .local := by rfl)
    (hw : swappedStores [.Tuple [.Name n pn, .Name m pm, .Name o po] kt pt] (.Tuple [a, b, e] k2 pt2) X.env = pure (some [n, m, o]) := by rfl) (hs : swapsWithSole [.Tuple [.Name n pn, .Name m pm, .Name o po] kt pt] (.Tuple [a, b, e] k2 pt2) pos.line X.env = pure false := by rfl) (hc : X.calm = true := by rfl)
    (hs1 : starEach [a, b, e] X.env = (false, eval a X.env) :: starEach [b, e] X.env := by rfl) (hs2 : starEach [b, e] X.env = (false, eval b X.env) :: starEach [e] X.env := by rfl) (hs3 : starEach [e] X.env = (false, eval e X.env) :: starEach [] X.env := by rfl) :
    DS X Γ (.Assign [.Tuple [.Name n pn, .Name m pm, .Name o po] kt pt] (.Tuple [a, b, e] k2 pt2) pos) (.nx (((Γ.set i (.dat x)).set j (.dat y)).set l (.dat z))) :=
  PS.wk (ps_par3 hc hN hi hj hl hij hil hjl hn hm ho (pa_cons ha (pa_cons hb (pa_cons he pa_nil hs3) hs2) hs1) hw hs) fun D σ H ⟨H0, ok, q⟩ => ⟨H0, ok, fun u H1 e1 r1 => ⟨H0, ok.mono e1, fun v H2 e2 r2 => ⟨H0, ok.mono (e1.trans e2), fun t H3 e3 r3 => ⟨u, v, t, rfl, q H0 _ H3 (Same.refl H0) ((((ok.mono ((e1.trans e2).trans e3)).putD (r1.ex (e2.trans e3))).putD (r2.ex e3)).putD r3)⟩⟩⟩⟩
end
section
variable {P : Program} {w : World} {K : PySem.W.Frag} {mg : Str → Option Value} {base : Heap} {k : Nat}
theorem scS65 : FnScope ["_law_urn", "_law_swap", "_law_draw", "_law_still_here", "_law_one", "_law_two", "_law_three", "_law_tell", "_law_got", "_law_own", "_law_far"] ["_law_urn"] (defScope (top 65)) := ⟨rfl, rfl, rfl, by decide +kernel, rfl, by decide +kernel, by decide +kernel⟩
def rHand (ds : List PyData) (Pr : PyData → Prop) : Prop := ds = [] ∧ Pr = fun d => d = .bool true
theorem ok_hand (B : Blt mg) (D : DefAt K mg "_law_by_hand_right" 65 ["_law_urn"]) (O_alike : Ok P w K mg base "pieces_alike" k ["one", "other"] (spE K rAlike)) (O_same : Ok P w K mg base "_law_same" k ["_law_got", "_law_goal"] (spE K (rSame 3))) (O_sur : Ok P w K mg base "is_surrounding" k ["one", "other", "thing"] (spE K rIsSur)) (O6 : OkU P w K mg base "_law_case_right" k ["_law_urn", "_law_one", "_law_two"] 64 rCase) : OkU P w K mg base "_law_by_hand_right" (k + 1) ["_law_urn"] 200 rHand := by
  refine okU' D scS65 (fun as Pr h => by obtain ⟨rfl, _⟩ := h; rfl) fun nd f cdv A outer s H E hr a c as Pr h hc => ?_
  obtain ⟨rfl, rfl⟩ := h
  have lot1 : ∀ {Γ : List Cell} {i : Nat} {j k : Nat} {p p2 : Pos}, DE (BX P w K mg base ["_law_urn", "_law_swap", "_law_draw", "_law_still_here", "_law_one", "_law_two", "_law_three", "_law_tell", "_law_got", "_law_own", "_law_far"] "_law_by_hand_right" (top 65) f cdv A outer s H E) Γ (.Tuple [.Constant (.int (i : Int)) j p] k p2) (eLot [i]) := fun {Γ i j k p p2} => de_tup (du_cons de_int du_nil)
  have S1 := sp_one vSwap
  have S2 := sp_one vDraw
  have S3 := sp_three
  refine ur_cons (Γ1 := uG a c [.dat (eStep lkSwap), .dat (eStep lkDraw), .dat (eStep lkStill), .un, .un, .un, .un, .un, .un, .un]) (ds_asg (d := .tuple [eStep lkSwap, eStep lkDraw, eStep lkStill]) (de_tup (du_cons (de_tup (du_cons (de_tup (du_cons (lot1 (i := 1)) (du_cons (lot1 (i := 0)) (du_cons (lot1 (i := 2)) du_nil)))) (du_cons de_non du_nil))) (du_cons (de_tup (du_cons (de_tup (du_cons (lot1 (i := 0)) (du_cons (lot1 (i := 0)) (du_cons (lot1 (i := 2)) du_nil)))) (du_cons de_non du_nil))) (du_cons (de_tup (du_cons (de_tup (du_cons (lot1 (i := 0)) (du_cons (lot1 (i := 1)) (du_cons (lot1 (i := 2)) du_nil)))) (du_cons de_non du_nil))) du_nil)))) (dg_tup (dgs_cons (dg_name 1) (dgs_cons (dg_name 2) (dgs_cons (dg_name 3) dgs_nil))))) ?_
  have arr : ∀ {Γ : List Cell} {j1 j2 k1 k2 k3 : Nat} {p1 p2 p3 p4 p5 : Pos}, DE (BX P w K mg base ["_law_urn", "_law_swap", "_law_draw", "_law_still_here", "_law_one", "_law_two", "_law_three", "_law_tell", "_law_got", "_law_own", "_law_far"] "_law_by_hand_right" (top 65) f cdv A outer s H E) Γ (.Tuple [.Tuple [.Tuple [.Constant (.int 0) j1 p1, .Constant (.int 1) j2 p2] k1 p3] k2 p4] k3 p5) (.tuple ([[(0, 1)]].map eWays)) := fun {Γ j1 j2 k1 k2 k3 p1 p2 p3 p4 p5} => de_tup (du_cons (de_tup (du_cons (de_tup (du_cons de_int (du_cons de_int du_nil))) du_nil)) du_nil)
  refine ur_cons (ds_par3 4 5 6 (x := ePiece pOne) (y := ePiece pTwo) (z := ePiece pThree) (de_tup (du_cons (de_tup (du_cons (de_var 1) du_nil)) (du_cons arr du_nil))) (de_tup (du_cons (de_tup (du_cons (de_var 2) du_nil)) (du_cons arr du_nil))) (de_tup (du_cons (de_tup (du_cons (de_var 3) du_nil)) (du_cons (de_tup du_nil) du_nil)))) ?_
  refine ur_cons (ds_set 7 (d := eLooks lkTell) (de_tup (du_cons (lot1 (i := 1)) (du_cons (d := eLot [0, 1, 2]) (de_tup (du_cons de_int (du_cons de_int (du_cons de_int du_nil)))) (du_cons (lot1 (i := 2)) du_nil))))) ?_
  refine ur_cons (ds_setR 8 (ds := [.bool false, .bool false, .bool true]) (dn_lst (du_cons (de_fn O_alike hr (dr_g (DE.g (de_var 4)) (dr_g (DE.g (de_var 5)) dr_nil)) ⟨_, pOne, 3, _, pTwo, 3, S1.gpT, S2.gpT, rfl, by rw [al12]⟩) (du_cons (de_fn O_alike hr (dr_g (DE.g (de_var 4)) (dr_g (DE.g (de_var 6)) dr_nil)) ⟨_, pOne, 3, _, pThree, 3, S1.gpT, S3.gpT, rfl, by rw [al13]⟩) (du_cons (de_fn O_sur hr (dr_g (DE.g (de_var 4)) (dr_g (DE.g (de_var 6)) (dr_g (DE.g (de_var 7)) dr_nil))) ⟨_, pOne, 3, _, pThree, 3, _, S1.gpT, S3.gpT, vTell.slim (by decide), rfl, .inr ⟨lkTell, rfl, vTell, by rw [su13]⟩⟩) du_nil))))) ?_
  refine ur_cons (ds_setR 8 (dn_cat (dl_var 8) (DN.l (ds := [.bool false, .bool false]) (dn_lst (du_cons (de_fn O_sur hr (dr_g (DE.g (de_var 4)) (dr_g (DE.g (de_var 5)) (dr_g (DE.g (de_ixT (d := eLooks lkStill) (ds := [eLooks lkStill, .none]) (de_var 3) de_int rfl)) dr_nil))) ⟨_, pOne, 3, _, pTwo, 3, _, S1.gpT, S2.gpT, vStill.slim (by decide), rfl, .inr ⟨lkStill, rfl, vStill, by rw [su12]⟩⟩) (du_cons (de_fn O_sur hr (dr_g (DE.g (de_var 4)) (dr_g (DE.g (de_var 6)) (dr_g (DE.g (de_ixT (d := eLooks lkStill) (ds := [eLooks lkStill, .none]) (de_var 3) de_int rfl)) dr_nil))) ⟨_, pOne, 3, _, pThree, 3, _, S1.gpT, S3.gpT, vStill.slim (by decide), rfl, .inr ⟨lkStill, rfl, vStill, by rw [su13s]⟩⟩) du_nil)))) (Nat.le_of_ble_eq_true rfl))) ?_
  refine ur_if (b := false) (DT.is (dt_not (dt_val (k := true) (DE.is (de_fn O_same hr (dr_l (dl_var 8) (dr_l (DN.l (dn_lst (du_cons de_bl (du_cons de_bl (du_cons de_bl (du_cons de_bl (du_cons de_bl du_nil))))))) dr_nil)) ⟨rfl, .inr ⟨[.bool false, .bool false, .bool true, .bool false, .bool false], rfl, by decide, Nat.le_of_ble_eq_true rfl, rfl⟩⟩) rfl))) rfl) (fun z => nomatch z) fun _ => ?_
  refine UR.up (ur_ret (eu_all (PP := fun ds => Drew false (fun (x : Piece × Piece) d => d = PyData.bool true) [(pOne, pTwo), (pOne, pThree), (pTwo, pTwo)] ds) (en_lc [("_law_own", 9), ("_law_far", 10)] false 64 (xs := [(pOne, pTwo), (pOne, pThree), (pTwo, pTwo)]) (enc := fun x => .t (.tuple [ePiece x.1, ePiece x.2])) (Pr := fun x d => d = .bool true) (di_tup (enc := fun x : Piece × Piece => .tuple [ePiece x.1, ePiece x.2]) (de_tup (du_cons (de_tup (du_cons (de_var 4) (du_cons (de_var 5) du_nil))) (du_cons (de_tup (du_cons (de_var 4) (du_cons (de_var 6) du_nil))) (du_cons (de_tup (du_cons (de_var 5) (du_cons (de_var 5) du_nil))) du_nil))))) (fun i x hx => ?_) (Nat.le_of_ble_eq_true rfl)) (fun ds hd => ?_) B.all)) ?_
  · have hi : i < 3 := (List.getElem?_eq_some_iff.mp hx).1
    have hS : SP 3 x.1 ∧ SP 3 x.2 := by
      have hm := List.mem_of_getElem? hx
      simp only [List.mem_cons, List.not_mem_nil, or_false] at hm
      rcases hm with rfl | rfl | rfl
      · exact ⟨S1, S2⟩
      · exact ⟨S1, S3⟩
      · exact ⟨S2, S2⟩
    exact ⟨c + i * 64, _, [9, 10], ⟨by decide, by omega, fun s H C cl fp => dg_tup (dgs_cons (dg_name 9) (dgs_cons (dg_name 10) dgs_nil)), fun s H C cl fp => um_nil, fun s H C cl fp => EU.up (du_fn O6 hr (dr_t (de_var 9) (dr_t (de_var 10) dr_nil)) (ds := [ePiece x.1, ePiece x.2]) ⟨3, x.1, x.2, by decide, hS.1, hS.2, rfl, rfl⟩ (by omega)) (by omega)⟩⟩
  · have hl := hd.len
    have hm := hd.mem
    refine ⟨ds.map fun _ => true, ?_, ?_⟩
    · rw [List.map_map]
      refine (List.map_id ds).symm.trans (List.map_congr_left fun d hd => ?_)
      obtain ⟨_, _, e⟩ := hm d hd
      exact e
    · rw [List.all_map]
      show PyData.bool (ds.all fun _ => true) = _
      simp
  · show c + 3 * 64 ≤ c + 200
    omega
end
end K54
set_option Elab.async false
set_option linter.all false
set_option autoImplicit false
set_option maxRecDepth 100000
set_option maxHeartbeats 8000000
/-! K54: the urn, 17: box, cells, law -/
namespace K54
open PySem PySem.Spec PyProof.Rows L2
section
variable {X : Cx} {Γ : List Cell} {a b e e1 e2 : Expr} {d : PyData} {ds es : List PyData} {pos p : Pos} {n : Str} {k δ : Nat} {ps : List Str}
theorem dn_orL (h : DN X Γ a ds) (h2 : DN X Γ b es) : DN X Γ (.BoolOp .Or [a, b] pos) (if ds.isEmpty = true then es else ds) :=
  PE.wk (pe_orT h (pe_one h2)) fun σ H Q ⟨H0, ok, q⟩ => ⟨H0, ok, fun l vs H1 n1 e1 h1 r1 => by
    refine ⟨!ds.isEmpty, .inl ⟨vs, .of h1, by rw [tds_empty r1]⟩, ?_⟩
    cases he : ds.isEmpty with
    | true =>
      rw [he, if_pos rfl] at q
      exact ⟨H0, ok.mono e1, fun l2 us H2 n2 e2 h2 r2 => q l2 us H2 (e1.free n2) (e1.trans e2) h2 r2⟩
    | false =>
      rw [he, if_neg Bool.false_ne_true] at q
      exact q l vs H1 n1 e1 h1 r1⟩
theorem cutBoth {ds : List PyData} (i j : Nat) : (ds.drop (HT.sIx ds.length 0 (some (i : Int)))).take (HT.sIx ds.length ds.length (some (j : Int)) - HT.sIx ds.length 0 (some (i : Int))) = (ds.drop i).take (j - i) := by
  rw [HT.sIx_nat, HT.sIx_nat]
  by_cases h : i ≤ ds.length
  · rw [Nat.min_eq_left h]
    by_cases h2 : j ≤ ds.length
    · rw [Nat.min_eq_left h2]
    · rw [Nat.min_eq_right (by omega), List.take_of_length_le (by rw [List.length_drop]; omega), List.take_of_length_le (by rw [List.length_drop]; omega)]
  · rw [Nat.min_eq_right (show ds.length ≤ i by omega), List.drop_of_length_le (Nat.le_refl _), List.drop_of_length_le (show ds.length ≤ i by omega)]; simp
/-- slices of a list of any data that is tuple data -/
theorem dn_slG {lo hi : Option Expr} {l u : Option Int} {p2 : Pos} {tl th : TO} (ha : DG X Γ a (.list ds)) (ht : tonlys ds = true) (hl : PO X lo tl) (hu : PO X hi th) (rl : ∀ σ H Q, (∃ H0, EnvOk X.prog X.w X.K H0 H σ Γ ∧ ∀ H', Same H H' → Q l H') → tl σ H Q) (ru : ∀ σ H Q, (∃ H0, EnvOk X.prog X.w X.K H0 H σ Γ ∧ ∀ H', Same H H' → Q u H') → th σ H Q) :
    DN X Γ (.Subscript a (.Slice lo hi none p2) pos) ((ds.drop (HT.sIx ds.length 0 l)).take (HT.sIx ds.length ds.length u - HT.sIx ds.length 0 l)) :=
  PE.wk (pe_slice sl_list ha hl hu) fun σ H Q ⟨H0, ok, q⟩ => ⟨H0, ok, fun v H1 e1 r1 => rl σ H1 _ ⟨H0, ok.mono e1, fun H2 e2 => ru σ H2 _ ⟨H0, ok.mono (e1.trans e2), fun H3 e3 => by
    have r3 := dpEx (e2.trans e3) r1
    cases r3 with
    | @lst t vs _ s r =>
      have r4 := tdsOf ds vs ht r
      refine ⟨t, vs, rfl, s, fun pp hp => ?_⟩
      have e' := (e1.trans e2).trans e3
      refine q pp _ _ (e'.free hp) (e'.trans (sameNew hp)) upd_same ?_
      unfold cutV
      rw [r4.length]
      exact ((r4.drop _).take _).ex (sameNew hp)⟩⟩⟩
theorem dn_slToG (i : Nat) {p2 : Pos} {e : Expr} (ha : DG X Γ a (.list ds)) (ht : tonlys ds = true) (hb : DE X Γ e (.int (i : Int))) : DN X Γ (.Subscript a (.Slice none (some e) none p2) pos) (ds.take i) := by
  obtain ⟨t1, h1, r1⟩ := po_so hb
  obtain ⟨t2, h2, r2⟩ := po_no (X := X) (Γ := Γ)
  exact DN.is (dn_slG ha ht h2 h1 r2 r1) (cutTo i)
theorem dn_sl2G (i j : Nat) {p2 : Pos} {b e : Expr} (ha : DG X Γ a (.list ds)) (ht : tonlys ds = true) (hb : DE X Γ b (.int (i : Int))) (he : DE X Γ e (.int (j : Int))) : DN X Γ (.Subscript a (.Slice (some b) (some e) none p2) pos) ((ds.drop i).take (j - i)) := by
  obtain ⟨t1, h1, r1⟩ := po_so hb
  obtain ⟨t2, h2, r2⟩ := po_so he
  exact DN.is (dn_slG ha ht h1 h2 r1 r2) (cutBoth i j)
theorem dn_sl2 (i j : Nat) {p2 : Pos} {b e : Expr} (ha : DL X Γ a ds) (hb : DE X Γ b (.int (i : Int))) (he : DE X Γ e (.int (j : Int))) : DN X Γ (.Subscript a (.Slice (some b) (some e) none p2) pos) ((ds.drop i).take (j - i)) := by
  obtain ⟨t1, h1, r1⟩ := po_so hb
  obtain ⟨t2, h2, r2⟩ := po_so he
  exact DN.is (dn_slL ha h1 h2 r1 r2) (cutBoth i j)
/-- xs[k] = e, xs owned, nothing drawn -/
theorem ds_stL (i : Nat) (t : Nat) {ki : Expr} {pn pq : Pos} (h : DE X Γ e d) (hk : DE X Γ ki (.int (t : Int))) (hl : t < ds.length) (hc : Γ[i]? = some (.own (.lst ds)) := by rfl) (hN : X.N[i]? = some n := by rfl) (hv : Vis X.env.scope n := by first | exact Or.inl rfl | exact Or.inr (Or.inl rfl) | exact Or.inr (Or.inr rfl)) (hd : (n == ("__debug__" : Str)) = false := by decide) (hcd : (n == ("__classdict__" : Str)) = false := by decide)
    (ha : ∀ v, assign (.Subscript (.Name n pn) ki pq) X.env v = (do
      let ov ← holding [v] (eval (.Name n pn) X.env)
      let iv ← holding [v, ov] (eval ki X.env)
      standAt pq
      holding [v, ov, iv] (setItem ov iv v)
      release [v, ov, iv] []) := by intro _; rfl)
    (hs : swapsWithSole [.Subscript (.Name n pn) ki pq] e pos.line X.env = pure false := by rfl) (hw : swappedStores [.Subscript (.Name n pn) ki pq] e X.env = pure none := by rfl) (h1 : (assignEach [.Subscript (.Name n pn) ki pq] X.env).map (·.2) = [assign (.Subscript (.Name n pn) ki pq) X.env] := by rfl) :
    DS X Γ (.Assign [.Subscript (.Name n pn) ki pq] e pos) (.nx (Γ.set i (.own (.lst (ds.set t d))))) :=
  PS.wk (ps_asg h (pg_sub (pe_var hN hv hd hcd) hk set_list ha) hs hw h1) fun D σ H ⟨H0, ok, q⟩ => ⟨H0, ok, fun v H1 e1 r1 => by
    have ok1 := ok.mono e1
    obtain ⟨l, ep, np, vs, hp, rp⟩ := ok1.own hc
    refine ⟨.ref l, ep, H0, ok1, fun kv H2 e2 rk => ?_⟩
    cases rk
    have ok2 := ok1.mono e2
    have hp2 := e2 _ _ hp
    have hlen := rp.length
    refine ⟨l, vs, (t : Int), t, rfl, rfl, hp2, ?_, q H0 σ _ (Same.refl H0) ?_⟩
    · unfold ixN
      rw [if_pos (by omega), if_pos (by omega), Int.toNat_natCast]
    · have tx : TupEx H2 (upd H2 l (.lst (vs.set t v))) := TupEx.write (lstNoTup hp2)
      exact ok2.write ⟨ep, _, hc⟩ ⟨vs.set t v, upd_same, ((rp.ex e2).at tx).set t ((r1.ex e2).at tx)⟩⟩
/-- abs, int -/
theorem de_abs {i : Int} (h : DE X Γ e (.int i)) (hm : X.mg "abs" = none) (hg : Gl X "abs" := by rfl) (hs : starEach [e] X.env = (false, eval e X.env) :: starEach [] X.env := by rfl) (hpl : (backTo pos (starEach [] X.env)).any (·.1) = false := by rfl) : DE X Γ (.Call (.Name "abs" p) [e] [] pos) (.int (if i < 0 then -i else i)) :=
  PE.wk (pe_callB call_abs hg hm (by decide +kernel) (pa_cons h pa_nil hs) (by decide) (by decide) hs hpl) fun σ H Q ⟨H0, ok, q⟩ => ⟨H0, ok, fun v H1 e1 r1 => by
    cases r1
    exact ⟨i, rfl, q _ H1 e1 (.int _)⟩⟩
theorem de_intI {i : Int} (h : DE X Γ e (.int i)) (hm : X.mg "int" = none) (hg : Gl X "int" := by rfl) (hs : starEach [e] X.env = (false, eval e X.env) :: starEach [] X.env := by rfl) (hpl : (backTo pos (starEach [] X.env)).any (·.1) = false := by rfl) : DE X Γ (.Call (.Name "int" p) [e] [] pos) (.int i) :=
  PE.wk (pe_callTy call_int1 hg hm (by decide +kernel) (pa_cons h pa_nil hs) (by decide) (by decide) hs hpl) fun σ H Q ⟨H0, ok, q⟩ => ⟨H0, ok, fun v H1 e1 r1 => by
    cases r1
    exact .inl ⟨i, rfl, q _ H1 e1 (.int _)⟩⟩
theorem de_intB {i : Bool} (h : DE X Γ e (.bool i)) (hm : X.mg "int" = none) (hg : Gl X "int" := by rfl) (hs : starEach [e] X.env = (false, eval e X.env) :: starEach [] X.env := by rfl) (hpl : (backTo pos (starEach [] X.env)).any (·.1) = false := by rfl) : DE X Γ (.Call (.Name "int" p) [e] [] pos) (.int (if i then 1 else 0)) :=
  PE.wk (pe_callTy call_int1 hg hm (by decide +kernel) (pa_cons h pa_nil hs) (by decide) (by decide) hs hpl) fun σ H Q ⟨H0, ok, q⟩ => ⟨H0, ok, fun v H1 e1 r1 => by
    cases r1
    exact .inr ⟨i, rfl, q _ H1 e1 (.int _)⟩⟩
/-- a def that draws, of a new urn -/
theorem de_urn {R : List PyData → (PyData → Prop) → Prop} (O : OkU X.prog X.w X.K X.mg X.base n k ps δ R) (hr : Room k X.A) {x y : Int} (h : DN X Γ e [.int x, .int y, .int 0]) (hR : R [] (fun z => z = d)) (hδ : δ ≤ 2 ^ 60)
    (hg : Gl X n := by rfl) (hdb : (n == ("__debug__" : Str)) = false := by decide) (he : starEach [e] X.env = (false, eval e X.env) :: starEach [] X.env := by rfl) (hpl : (backTo pos (starEach [] X.env)).any (·.1) = false := by rfl) : DE X Γ (.Call (.Name n p) [e] [] pos) d := by
  obtain ⟨f, fd, F, h1, h2, h3⟩ := O
  refine PE.wk (pe_call F hr hg h1 h2 h3 .nil pass0 (pa_cons h pa_nil he) hdb he hpl) fun σ H Q ⟨H0, ok, q⟩ => ⟨H0, ok, fun l us H1 n1 e1 g1 r1 => ?_⟩
  have eu : us = [V.int x, V.int y, V.int 0] := TDs.ints (is := [x, y, 0]) r1
  subst eu
  refine ⟨l, [], [], fun z => z = d, 0, rfl, .nil, hR, by omega, ⟨x, y, 0, g1, Int.le_refl _, Int.le_refl _⟩, fun v H2 z f2 _ hz r2 => ?_⟩
  subst hz
  exact q v H2 (fun b u hb => f2 b u (fun z => by rw [z, n1] at hb; cases hb) (e1 b u hb)) r2
end
section
variable {P : Program} {w : World} {K : PySem.W.Frag} {mg : Str → Option Value} {base : Heap} {k : Nat}
theorem scS35 : FnScope ["_law_script", "_law_k", "_law_cell"] ["_law_script", "_law_k"] (defScope (top 35)) := ⟨rfl, rfl, rfl, by decide +kernel, rfl, by decide +kernel, by decide +kernel⟩
def absI (i : Int) : Int := if i < 0 then -i else i
def boxX (i : Int) : Int := absI i * (if decide (10 ^ (18 : Int).toNat ≤ absI i) then 1 else 0)
def boxY (i : Int) : Int := i % 2305843009213693951 + 39373 * 0 + 97354
def rBox (as : List Arg) (ds : List PyData) : Prop := ∃ (i : Int) (is : List Int), as = [.l ((i :: is).map .int), .t (.int 0)] ∧ ds = [.int (boxX i), .int (boxY i), .int 0]
theorem ok_box (B : Blt mg) (D : DefAt K mg "_law_box" 35 ["_law_script", "_law_k"]) : Ok P w K mg base "_law_box" (k + 1) ["_law_script", "_law_k"] (spN K rBox) := by
  refine okN' D scS35 (fun as d h => by obtain ⟨_, _, rfl, _⟩ := h; rfl) fun nd f cdv A outer s H E hr as d h => ?_
  obtain ⟨i, is, rfl, rfl⟩ := h
  refine dss_cons (ds_set 2 (d := .int i) (de_if (k := true) (DT.is (dt_cmp op_lt opB0 (de_var 1) (de_lenL (dl_var 0) B.len)) (decide_eq_true (by simp))) (fun _ => de_ixL (dl_var 0) (de_var 1) (atI_nat (i := 0) rfl)) fun z => nomatch z)) ?_
  refine dss_one (ds_retN (dn_lst (du_cons (de_op op_mul (opI (i := absI i) (j := if decide (10 ^ (18 : Int).toNat ≤ absI i) then 1 else 0) ?_) (de_abs (de_var 2) B.abs) (de_intB (de_cmp op_ge opB0 (de_abs (de_var 2) B.abs) (de_op op_pow (opI ?_) de_int de_int)) B.int)) (du_cons (de_op op_add opI0 (de_op op_add opI0 (de_op op_mod (opI (by decide)) (de_intI (de_var 2) B.int) de_int) (de_op op_mul (opI ?_) de_int (de_var 1))) de_int) (du_cons de_int du_nil)))))
  · refine .inr ?_
    split <;> decide
  · exact ⟨by decide, by decide, by decide⟩
  · exact .inr (by decide)
theorem scS37 : FnScope ["_law_script", "_law_top", "_law_cells_here", "_law_k", "_law_cell", "_law_at_so"] ["_law_script", "_law_top"] (defScope (top 37)) := ⟨rfl, rfl, rfl, by decide +kernel, rfl, by decide +kernel, by decide +kernel⟩
def cSum (x : Int) (xs : List Int) : Nat → Int
  | 0 => x
  | j + 1 => cSum x xs j + xs.getD j 0 * ((j : Int) + 2)
def cHead (is : List Int) : Int := is.getD 0 0
def cRest (is : List Int) : List Int := (is.drop 1).take 62
def rCells (as : List Arg) (ds : List PyData) : Prop := ∃ is : List Int, is.length ≤ 1000 ∧ as = [.g (.list (is.map .int)), .t (.int 1)] ∧ ds = [.int (cSum (cHead is) (cRest is) (cRest is).length)]
theorem ok_cells (B : Blt mg) (D : DefAt K mg "_law_cells" 37 ["_law_script", "_law_top"]) : Ok P w K mg base "_law_cells" (k + 1) ["_law_script", "_law_top"] (spN K rCells) := by
  refine okN' D scS37 (fun as d h => by obtain ⟨_, _, rfl, _⟩ := h; rfl) fun nd f cdv A outer s H E hr as d h => ?_
  obtain ⟨is, hl, rfl, rfl⟩ := h
  have e0 : (if ((is.map PyData.int).take 1).isEmpty = true then [PyData.int 0] else (is.map PyData.int).take 1) = [.int (cHead is)] := by
    cases is with
    | nil => rfl
    | cons i is => rfl
  have ti : tonlys (is.map PyData.int) = true := tonlys_map fun x _ => rfl
  refine dss_cons (ds_setO 2 (ds := [.int (cHead is)]) (DN.is (dn_orL (dn_lstL (DN.l (dn_slToG 1 (dg_var 0) ti (de_var 1))) B.list) (dn_lst (du_cons de_int du_nil))) e0)) ?_
  have ln : (cRest is).length ≤ 62 := by unfold cRest; rw [List.length_take]; omega
  refine dss_cons (ds_for (fun j => [.gd (.list (is.map .int)), .dat (.int 1), .own (.lst [.int (cSum (cHead is) (cRest is) j)]), .un, .un, .un]) (xs := (cRest is).zipIdx) (enc := fun p => .t (.tuple [.int (p.2 : Nat), .int p.1])) (di_enN (xs := cRest is) (enc := .int) (DN.is (dn_sl2G 1 63 (dg_var 0) ti (de_var 1) de_int) ?_) B.enumerate) (ELe.refl _) fun j x hx => ?_) ?_
  · unfold cRest
    rw [List.map_take, List.map_drop]
  · rw [List.getElem?_zipIdx] at hx
    obtain ⟨y, hy, rfl⟩ := Option.map_eq_some_iff.mp hx
    have hj : j < (cRest is).length := (List.getElem?_eq_some_iff.mp hy).1
    refine ⟨_, _, dg_tup (dgs_cons (dg_name 3) (dgs_cons (dg_name 4) dgs_nil)), ?_⟩
    refine DSs.wk2 (dss_cons (ds_set 5 (d := .int 0) (DE.is (de_op op_mod (opI (j := 1) (by decide)) (de_intI (de_var 3) B.int) (de_var 1)) ?_)) (dss_one (ds_stL 2 0 (ds := [.int (cSum (cHead is) (cRest is) j)]) (de_op op_add opI0 (de_ixL (do_var 2) (de_var 5) (atI_nat (i := 0) rfl)) (de_op op_mul (opI ?_) (de_var 4) (de_op op_add opI0 (de_var 3) de_int))) (de_var 5) (Nat.le_of_ble_eq_true rfl)))) ?_
    · show PyData.int (_ % 1) = .int 0
      rw [Int.emod_one]
    · refine .inr ?_
      show -(2 ^ 64) < (((0 + j : Nat) : Int) + 2) ∧ (((0 + j : Nat) : Int) + 2) < 2 ^ 64
      omega
    · have e : cSum (cHead is) (cRest is) (j + 1) = cSum (cHead is) (cRest is) j + y * (((0 + j : Nat) : Int) + 2) := by
        rw [Nat.zero_add]
        show _ + (cRest is).getD j 0 * _ = _
        rw [List.getD_eq_getElem?_getD, hy]; rfl
      rw [e]
      exact .cons (.eq _) (.cons (.eq _) (.cons (.eq _) (.cons (.un _) (.cons (.un _) (.cons (.un _) .nil)))))
  · rw [List.length_zipIdx]
    exact dss_one (ds_retO 2)
theorem scS67 : FnScope ["_law_script"] ["_law_script"] (defScope (top 67)) := ⟨rfl, rfl, rfl, by decide +kernel, rfl, by decide +kernel, by decide +kernel⟩
def rLaw (as : List Arg) (d : PyData) : Prop := ∃ is : List Int, is.length ≤ 1000 ∧ as = [.g (.list (is.map .int))] ∧ d = .bool true
theorem ok_law {f : Addr} {fd : FuncData} (F : Fun K "law" "law" (top 67) f fd) (O1 : Ok P w K mg base "_law_box" k ["_law_script", "_law_k"] (spN K rBox)) (O2 : Ok P w K mg base "_law_cells" k ["_law_script", "_law_top"] (spN K rCells)) (O3 : OkU P w K mg base "_law_by_hand_right" k ["_law_urn"] 200 rHand) (O4 : OkU P w K mg base "_law_right" k ["_law_urn"] 240 rRight) : FnOk P w K mg base CX0 (k + 1) f fd ["_law_script"] (spE K rLaw) := by
  have nd := scS67.nd
  refine okE F scS67 (fun as d h => by obtain ⟨_, _, rfl, _⟩ := h; rfl) fun cdv A outer s H E hr as d h => ?_
  obtain ⟨is, hl, rfl, rfl⟩ := h
  refine dss_if (b := false) (DT.is (dt_not (dt_val (k := true) (de_urn O3 hr (x := boxX 11) (y := boxY 11) (dn_fn O1 hr (dr_l (DN.l (ds := [.int 11]) (dn_lst (du_cons de_int du_nil))) (dr_t (de_int (i := 0)) dr_nil)) ⟨11, [], rfl, rfl⟩) ⟨rfl, rfl⟩ (by decide)))) rfl) (fun z => nomatch z) fun _ => ?_
  exact dss_one (ds_ret (de_urn O4 hr (x := boxX (cSum (cHead is) (cRest is) (cRest is).length)) (y := boxY (cSum (cHead is) (cRest is) (cRest is).length)) (dn_fn O1 hr (dr_l (DN.l (dn_fn O2 hr (dr_g (dg_var 0) (dr_t (de_int (i := 1)) dr_nil)) ⟨is, hl, rfl, rfl⟩)) (dr_t (de_int (i := 0)) dr_nil)) ⟨_, [], rfl, rfl⟩) ⟨rfl, rfl⟩ (by decide)))
end
end K54
set_option Elab.async false
set_option linter.all false
set_option autoImplicit false
set_option maxRecDepth 100000
set_option maxHeartbeats 2000000
/-! K54: all promises, one upon another -/
namespace K54
open PySem PySem.Spec PyProof.Rows L2
section
variable {P : Program} {w : World} {K : PySem.W.Frag} {mg : Str → Option Value} {base : Heap} {x : Str} {j k δ : Nat} {ps : List Str}
theorem OkU.mono {R : List PyData → (PyData → Prop) → Prop} (o : OkU P w K mg base x j ps δ R) (h : j ≤ k) : OkU P w K mg base x k ps δ R := by
  obtain ⟨f, fd, F, r⟩ := o
  exact ⟨f, fd, F.mono h, r⟩
theorem OkX.mono {R : List Arg → (PyData → Prop) → Prop} (o : OkX P w K mg base x j ps δ R) (h : j ≤ k) : OkX P w K mg base x k ps δ R := by
  obtain ⟨f, fd, F, r⟩ := o
  exact ⟨f, fd, F.mono h, r⟩
theorem OkB.mono {R : PyData → PyData → Prop} (o : OkB P w K mg base x j ps R) (h : j ≤ k) : OkB P w K mg base x k ps R := by
  obtain ⟨f, fd, F, r⟩ := o
  exact ⟨f, fd, F.mono h, r⟩
end
/-- every def stands where the text has it -/
structure Defs (K : PySem.W.Frag) (mg : Str → Option Value) : Prop where
  d3 : DefAt K mg "is_number" 3 ["thing"]
  d4 : DefAt K mg "tuple_of" 4 ["thing"]
  d5 : DefAt K mg "is_tuple_of" 5 ["thing", "many"]
  d7 : DefAt K mg "is_lot" 7 ["thing", "n"]
  d8 : DefAt K mg "is_looks" 8 ["thing", "n"]
  d9 : DefAt K mg "all_lots" 9 ["n"]
  d10 : DefAt K mg "_is_within" 10 ["lot", "other"]
  d11 : DefAt K mg "joined" 11 ["lots"]
  d12 : DefAt K mg "lookers_within" 12 ["looks", "lot"]
  d13 : DefAt K mg "stand_still" 13 ["n"]
  d14 : DefAt K mg "behind_looks" 14 ["looks", "others"]
  d16 : DefAt K mg "_apart" 16 ["lot", "other"]
  d17 : DefAt K mg "all_camps" 17 ["n"]
  d18 : DefAt K mg "in_order" 18 ["lot", "one"]
  d19 : DefAt K mg "_within" 19 ["lot", "other"]
  d20 : DefAt K mg "are_within" 20 ["camps", "other"]
  d21 : DefAt K mg "greatest_camps" 21 ["some"]
  d22 : DefAt K mg "led" 22 ["looks", "camps"]
  d24 : DefAt K mg "count_in" 24 ["piece"]
  d25 : DefAt K mg "piece_looks" 25 ["piece"]
  d26 : DefAt K mg "table_of_looks" 26 ["looks"]
  d27 : DefAt K mg "piece_table" 27 ["piece"]
  d28 : DefAt K mg "pieces_alike" 28 ["one", "other"]
  d29 : DefAt K mg "keeps_round" 29 ["table", "looks"]
  d30 : DefAt K mg "telling_looks" 30 ["camps", "goal", "n"]
  d31 : DefAt K mg "first_unlike" 31 ["table", "beside"]
  d32 : DefAt K mg "surrounding" 32 ["one", "other"]
  d33 : DefAt K mg "is_surrounding" 33 ["one", "other", "thing"]
  d35 : DefAt K mg "_law_box" 35 ["_law_script", "_law_k"]
  d36 : DefAt K mg "_law_take" 36 ["_law_urn", "_law_low_so"]
  d37 : DefAt K mg "_law_cells" 37 ["_law_script", "_law_top"]
  d38 : DefAt K mg "_law_of" 38 ["_law_urn", "_law_some_so"]
  d39 : DefAt K mg "_law_same" 39 ["_law_got", "_law_goal"]
  d40 : DefAt K mg "_law_lists" 40 ["_law_matter"]
  d41 : DefAt K mg "_law_lot" 41 ["_law_urn", "_law_n"]
  d42 : DefAt K mg "_law_looks" 42 ["_law_urn", "_law_n"]
  d43 : DefAt K mg "_law_within" 43 ["_law_looks_so", "_law_lot_so"]
  d44 : DefAt K mg "_law_lots_of" 44 ["_law_n"]
  d45 : DefAt K mg "_law_camps_of" 45 ["_law_n"]
  d46 : DefAt K mg "_law_is_whole" 46 ["_law_thing"]
  d47 : DefAt K mg "_law_is_row" 47 ["_law_thing"]
  d48 : DefAt K mg "_law_bent" 48 ["_law_urn", "_law_thing"]
  d49 : DefAt K mg "_law_piece" 49 ["_law_urn", "_law_n"]
  d50 : DefAt K mg "_law_behind" 50 ["_law_first", "_law_then"]
  d51 : DefAt K mg "_law_still" 51 ["_law_n"]
  d52 : DefAt K mg "_law_row_looks" 52 ["_law_piece_so"]
  d53 : DefAt K mg "_law_led" 53 ["_law_looks_so", "_law_camps_so"]
  d54 : DefAt K mg "_law_in" 54 ["_law_one", "_law_two"]
  d55 : DefAt K mg "_law_are_in" 55 ["_law_own", "_law_far"]
  d56 : DefAt K mg "_law_great" 56 ["_law_some"]
  d57 : DefAt K mg "_law_table" 57 ["_law_some_looks", "_law_n"]
  d58 : DefAt K mg "_law_keeps" 58 ["_law_some_looks", "_law_then", "_law_n"]
  d59 : DefAt K mg "_law_free" 59 ["_law_steps_so"]
  d60 : DefAt K mg "_law_few" 60 ["_law_piece_so", "_law_most_so"]
  d61 : DefAt K mg "_law_told" 61 ["_law_one", "_law_two"]
  d62 : DefAt K mg "_law_are_looks" 62 ["_law_thing", "_law_n"]
  d63 : DefAt K mg "_law_tells" 63 ["_law_rows", "_law_more", "_law_thing", "_law_n"]
  d64 : DefAt K mg "_law_case_right" 64 ["_law_urn", "_law_one", "_law_two"]
  d65 : DefAt K mg "_law_by_hand_right" 65 ["_law_urn"]
  d66 : DefAt K mg "_law_right" 66 ["_law_urn"]
theorem law_ok {P : Program} {w : World} {K : PySem.W.Frag} {mg : Str → Option Value} {base : Heap} {C : Addr} (B : Blt mg) (D : Defs K mg) (T : ErrFull K mg "CanNot" C) {f : Addr} {fd : FuncData} (F : Fun K "law" "law" (top 67) f fd) : FnOk P w K mg base CX0 13 f fd ["_law_script"] (spE K rLaw) := by
  have o_number := ok_number (P := P) (w := w) (K := K) (mg := mg) (base := base) (k := 0) B D.d3
  have o_tupleOf := ok_tupleOf (P := P) (w := w) (K := K) (mg := mg) (base := base) (k := 0) B D.d5
  have o_tup2 := ok_tupled (P := P) (w := w) (K := K) (mg := mg) (base := base) (k := 0) B D.d4 2
  have o_tup3 := ok_tupled (P := P) (w := w) (K := K) (mg := mg) (base := base) (k := 0) B D.d4 3
  have o_tup5 := ok_tupled (P := P) (w := w) (K := K) (mg := mg) (base := base) (k := 0) B D.d4 5
  have o_within0 := ok_within0 (P := P) (w := w) (K := K) (mg := mg) (base := base) (k := 0) B D.d10
  have o_within := ok_within (P := P) (w := w) (K := K) (mg := mg) (base := base) (k := 0) B D.d19
  have o_apart := ok_apart (P := P) (w := w) (K := K) (mg := mg) (base := base) (k := 0) B D.d16
  have o_joined := ok_joined (P := P) (w := w) (K := K) (mg := mg) (base := base) (k := 0) B D.d11
  have o_still := ok_still (P := P) (w := w) (K := K) (mg := mg) (base := base) (k := 0) B D.d13
  have o_lots := ok_lots (P := P) (w := w) (K := K) (mg := mg) (base := base) (k := 0) B D.d9
  have o_inOrd := ok_inOrd (P := P) (w := w) (K := K) (mg := mg) (base := base) (k := 0) D.d18
  have o_count := ok_count (P := P) (w := w) (K := K) (mg := mg) (base := base) (k := 0) B D.d24
  have o_tell := ok_tell (P := P) (w := w) (K := K) (mg := mg) (base := base) (k := 0) B D.d30
  have o_lw := ok_lw (P := P) (w := w) (K := K) (mg := mg) (base := base) (k := 1) B D.d12 (o_within0.mono (k := 1) (by decide))
  have o_isLot := ok_isLot (P := P) (w := w) (K := K) (mg := mg) (base := base) (k := 1) B D.d7 (o_number.mono (k := 1) (by decide))
  have o_isLooks := ok_isLooks (P := P) (w := w) (K := K) (mg := mg) (base := base) (k := 2) B D.d8 (o_tupleOf.mono (k := 2) (by decide)) (o_isLot.mono (k := 2) (by decide))
  have o_behind := ok_behind (P := P) (w := w) (K := K) (mg := mg) (base := base) (k := 3) B D.d14 (o_tup2.mono (k := 3) (by decide)) (o_joined.mono (k := 3) (by decide))
  have o_camps := ok_camps (P := P) (w := w) (K := K) (mg := mg) (base := base) (k := 1) B D.d17 (o_lots.mono (k := 1) (by decide)) (o_apart.mono (k := 1) (by decide))
  have o_areW := ok_areW (P := P) (w := w) (K := K) (mg := mg) (base := base) (k := 1) D.d20 (o_within.mono (k := 1) (by decide))
  have o_great := ok_great (P := P) (w := w) (K := K) (mg := mg) (base := base) (k := 4) B D.d21 (o_tup3.mono (k := 4) (by decide)) (o_areW.mono (k := 4) (by decide))
  have o_led := ok_led (P := P) (w := w) (K := K) (mg := mg) (base := base) (k := 2) D.d22 (o_lw.mono (k := 2) (by decide)) (o_inOrd.mono (k := 2) (by decide))
  have o_looks := ok_looks (P := P) (w := w) (K := K) (mg := mg) (base := base) (k := 6) B D.d25 (o_tup5.mono (k := 6) (by decide)) (o_still.mono (k := 6) (by decide)) (o_count.mono (k := 6) (by decide)) (o_behind.mono (k := 6) (by decide))
  have o_table := ok_table (P := P) (w := w) (K := K) (mg := mg) (base := base) (k := 5) B D.d26 (o_tup3.mono (k := 5) (by decide)) (o_camps.mono (k := 5) (by decide)) (o_led.mono (k := 5) (by decide)) (o_great.mono (k := 5) (by decide))
  have o_keeps := ok_keeps (P := P) (w := w) (K := K) (mg := mg) (base := base) (k := 3) B D.d29 (o_led.mono (k := 3) (by decide))
  have o_first := ok_first (P := P) (w := w) (K := K) (mg := mg) (base := base) (k := 2) B D.d31 (o_areW.mono (k := 2) (by decide))
  have o_ptab := ok_ptab (P := P) (w := w) (K := K) (mg := mg) (base := base) (k := 7) D.d27 (o_looks.mono (k := 7) (by decide)) (o_table.mono (k := 7) (by decide))
  have o_alike := ok_alike (P := P) (w := w) (K := K) (mg := mg) (base := base) (k := 8) D.d28 (o_ptab.mono (k := 8) (by decide))
  have o_sur := ok_sur (P := P) (w := w) (K := K) (mg := mg) (base := base) (k := 8) B D.d32 T.toErrAt (o_ptab.mono (k := 8) (by decide)) (o_first.mono (k := 8) (by decide)) (o_tell.mono (k := 8) (by decide)) (o_count.mono (k := 8) (by decide))
  have o_isSur := ok_isSur (P := P) (w := w) (K := K) (mg := mg) (base := base) (k := 8) D.d33 (o_count.mono (k := 8) (by decide)) (o_isLooks.mono (k := 8) (by decide)) (o_ptab.mono (k := 8) (by decide)) (o_keeps.mono (k := 8) (by decide))
  have o_toldY := ok_toldY (P := P) (w := w) (K := K) (mg := mg) (base := base) (k := 9) B D.d61 T (o_sur.mono (k := 9) (by decide))
  have o_toldN := ok_toldN (P := P) (w := w) (K := K) (mg := mg) (base := base) (k := 9) B D.d61 T (o_sur.mono (k := 9) (by decide))
  have o_lwithin := ok_lwithin (P := P) (w := w) (K := K) (mg := mg) (base := base) (k := 0) B D.d43
  have o_lstill := ok_lstill (P := P) (w := w) (K := K) (mg := mg) (base := base) (k := 0) B D.d51
  have o_lin := ok_lin (P := P) (w := w) (K := K) (mg := mg) (base := base) (k := 0) D.d54
  have o_lareIn := ok_lareIn (P := P) (w := w) (K := K) (mg := mg) (base := base) (k := 1) D.d55 (o_lin.mono (k := 1) (by decide))
  have o_lwhole := ok_lwhole (P := P) (w := w) (K := K) (mg := mg) (base := base) (k := 0) B D.d46
  have o_llots := ok_llots (P := P) (w := w) (K := K) (mg := mg) (base := base) (k := 0) B D.d44
  have o_lcamps := ok_lcamps (P := P) (w := w) (K := K) (mg := mg) (base := base) (k := 1) B D.d45 (o_llots.mono (k := 1) (by decide))
  have o_lled := ok_lled (P := P) (w := w) (K := K) (mg := mg) (base := base) (k := 1) D.d53 (o_lwithin.mono (k := 1) (by decide))
  have o_lgreat := ok_lgreat (P := P) (w := w) (K := K) (mg := mg) (base := base) (k := 2) B D.d56 (o_lareIn.mono (k := 2) (by decide))
  have o_ltable := ok_ltable (P := P) (w := w) (K := K) (mg := mg) (base := base) (k := 3) B D.d57 (o_lcamps.mono (k := 3) (by decide)) (o_lled.mono (k := 3) (by decide)) (o_lgreat.mono (k := 3) (by decide))
  have o_lbehind := ok_lbehind (P := P) (w := w) (K := K) (mg := mg) (base := base) (k := 0) B D.d50
  have o_lfree := ok_lfree (P := P) (w := w) (K := K) (mg := mg) (base := base) (k := 0) B D.d59
  have o_lkeeps := ok_lkeeps (P := P) (w := w) (K := K) (mg := mg) (base := base) (k := 2) B D.d58 (o_lcamps.mono (k := 2) (by decide)) (o_lbehind.mono (k := 2) (by decide)) (o_lled.mono (k := 2) (by decide))
  have o_lrow := ok_lrow (P := P) (w := w) (K := K) (mg := mg) (base := base) (k := 1) B D.d52 (o_lstill.mono (k := 1) (by decide)) (o_lbehind.mono (k := 1) (by decide))
  have o_lisRow := ok_lisRow (P := P) (w := w) (K := K) (mg := mg) (base := base) (k := 1) B D.d47 (o_lwhole.mono (k := 1) (by decide))
  have o_lareL := ok_lareL (P := P) (w := w) (K := K) (mg := mg) (base := base) (k := 2) B D.d62 (o_lisRow.mono (k := 2) (by decide))
  have o_ltells := ok_ltells (P := P) (w := w) (K := K) (mg := mg) (base := base) (k := 3) D.d63 (o_lareL.mono (k := 3) (by decide)) (o_lkeeps.mono (k := 3) (by decide))
  have o_lfew := ok_lfew (P := P) (w := w) (K := K) (mg := mg) (base := base) (k := 2) B D.d60 (o_lrow.mono (k := 2) (by decide)) (o_lfree.mono (k := 2) (by decide))
  have o_llists := ok_llists (P := P) (w := w) (K := K) (mg := mg) (base := base) (k := 0) B D.d40 5
  have o_lsame := ok_lsame (P := P) (w := w) (K := K) (mg := mg) (base := base) (k := 0) B D.d39 3
  have o_take := ok_take (P := P) (w := w) (K := K) (mg := mg) (base := base) (k := 0) B D.d36
  have o_of := ok_of (P := P) (w := w) (K := K) (mg := mg) (base := base) (k := 1) B D.d38 (o_take.mono (k := 1) (by decide))
  have o_lot := ok_lot (P := P) (w := w) (K := K) (mg := mg) (base := base) (k := 1) B D.d41 (o_take.mono (k := 1) (by decide))
  have o_looks42 := ok_looks42 (P := P) (w := w) (K := K) (mg := mg) (base := base) (k := 2) B D.d42 (o_take.mono (k := 2) (by decide)) (o_lot.mono (k := 2) (by decide))
  have o_piece := ok_piece49 (P := P) (w := w) (K := K) (mg := mg) (base := base) (k := 3) B D.d49 (o_take.mono (k := 3) (by decide)) (o_of.mono (k := 3) (by decide)) (o_looks42.mono (k := 3) (by decide))
  have o_bent := ok_bent (P := P) (w := w) (K := K) (mg := mg) (base := base) (k := 2) B D.d48 (o_take.mono (k := 2) (by decide)) (o_of.mono (k := 2) (by decide)) 2
  have o_case := ok_case (P := P) (w := w) (K := K) (mg := mg) (base := base) (k := 10) B D.d64 (o_lrow.mono (k := 10) (by decide)) (o_ltable.mono (k := 10) (by decide)) (o_toldY.mono (k := 10) (by decide)) (o_toldN.mono (k := 10) (by decide)) (o_alike.mono (k := 10) (by decide)) (o_llists.mono (k := 10) (by decide)) (o_lsame.mono (k := 10) (by decide)) (o_ltells.mono (k := 10) (by decide)) (o_looks42.mono (k := 10) (by decide)) (o_lstill.mono (k := 10) (by decide)) (o_bent.mono (k := 10) (by decide)) (o_isSur.mono (k := 10) (by decide))
  have o_hand := ok_hand (P := P) (w := w) (K := K) (mg := mg) (base := base) (k := 11) B D.d65 (o_alike.mono (k := 11) (by decide)) (o_lsame.mono (k := 11) (by decide)) (o_isSur.mono (k := 11) (by decide)) (o_case.mono (k := 11) (by decide))
  have o_right := ok_right (P := P) (w := w) (K := K) (mg := mg) (base := base) (k := 11) B D.d66 (o_take.mono (k := 11) (by decide)) (o_of.mono (k := 11) (by decide)) (o_piece.mono (k := 11) (by decide)) (o_lfew.mono (k := 11) (by decide)) (o_lot.mono (k := 11) (by decide)) (o_case.mono (k := 11) (by decide))
  have o_box := ok_box (P := P) (w := w) (K := K) (mg := mg) (base := base) (k := 0) B D.d35
  have o_cells := ok_cells (P := P) (w := w) (K := K) (mg := mg) (base := base) (k := 0) B D.d37
  have o_law := ok_law (P := P) (w := w) (K := K) (mg := mg) (base := base) (k := 12) F (o_box.mono (k := 12) (by decide)) (o_cells.mono (k := 12) (by decide)) (o_hand.mono (k := 12) (by decide)) (o_right.mono (k := 12) (by decide))
  exact o_law
end K54
set_option Elab.async false
set_option linter.all false
set_option autoImplicit false
set_option maxRecDepth 100000
set_option maxHeartbeats 0
/-! K54: the head's facts, the end -/
namespace K54
open PySem PySem.Spec PyProof.Rows L2
open K54H (dD fn fa errT)
section
variable {K : PySem.W.Frag} {h : Heap} {mg : Str → Option Value} {x : Str} {i : Nat} {f : Addr} {fd : FuncData} {ps : List Str}
theorem fun_of (F : FunD K x x (defArgs (top i)) (defBody (top i)) (defScope (top i)) [] [] f fd) : Fun K x x (top i) f fd := by
  obtain ⟨oc, od, dV, kV, doc, pm, an, cdv, ct, osl, rfl, lk, hcd, hD, hK⟩ := F.ex
  rcases hD with ⟨_, rfl⟩ | ⟨e, _⟩
  · exact ⟨⟨oc, od, kV, doc, pm, an, cdv, ct, osl, rfl, lk, hcd⟩, F.kp⟩
  · exact absurd rfl e
theorem def_at (D : ∃ fd, FunD K x x (defArgs (top i)) (defBody (top i)) (defScope (top i)) [] [] (He.ga K x) fd) (g : mg x = some (.ref (He.ga K x)))
    (hb : ∀ (kV doc pm : Value) (an : Option Addr) (cdv ct : Value) (us : List Value), us.length = ps.length → bindArgs (PySem.W.fnOf x x (defArgs (top i)) (defBody (top i)) (defScope (top i)) .none kV doc pm an cdv ct) ⟨us, []⟩ = pure (ps.zip us)) : DefAt K mg x i ps := by
  obtain ⟨fd, F⟩ := D
  exact ⟨_, fd, fun_of F, g, F.bindsN hb⟩
theorem err_of (X : K.In h) (G : h.Ns mainGlobals mg) (e : errT K = true) (c1 : (He.Fa.glo "CanNot").ok K = true) (c2 : (He.Fa.exc "CanNot").ok K = true) (c3 : (He.Fa.exm "CanNot" "CanNot" true).ok K = true) (c4 : mg "ValueError" = none) : ErrFull K mg "CanNot" (He.ga K "CanNot") := by
  obtain ⟨x1, x2, x3, x4⟩ := He.exc_ok c2
  obtain ⟨e1, e⟩ := He.ba e
  obtain ⟨e2, e⟩ := He.ba e
  obtain ⟨e3, e⟩ := He.ba e
  obtain ⟨e4, e⟩ := He.ba e
  obtain ⟨e5, e⟩ := He.ba e
  obtain ⟨e6, e⟩ := He.ba e
  obtain ⟨e7, e8⟩ := He.ba e
  exact { g := He.glo_ok X G c1, keep := x2, exc := ⟨_, _, _, _, PySem.F.excBase_ValueError, x1⟩, sub := x3, ty := x4, exm := He.exm_ok c3, cc := ⟨He.eqO_ok e1, He.eqO_ok e2, x3, e3, He.eqO_ok e4, He.eqO_ok e5, of_decide_eq_true e6, of_decide_eq_true e7⟩, ve := of_decide_eq_true e8, mv := c4 }
theorem blt_of (X : K.In h) (G : h.Ns mainGlobals mg) (c : He.SaysD fa fn K) : Blt mg :=
  {
    len := He.free_ok X G (c.fact 61 (f := .free "len") rfl), range := He.free_ok X G (c.fact 62 (f := .free "range") rfl), tuple := He.free_ok X G (c.fact 63 (f := .free "tuple") rfl), list := He.free_ok X G (c.fact 64 (f := .free "list") rfl), set := He.free_ok X G (c.fact 65 (f := .free "set") rfl), sorted := He.free_ok X G (c.fact 66 (f := .free "sorted") rfl), isinstance := He.free_ok X G (c.fact 67 (f := .free "isinstance") rfl), all := He.free_ok X G (c.fact 68 (f := .free "all") rfl), any := He.free_ok X G (c.fact 69 (f := .free "any") rfl), enumerate := He.free_ok X G (c.fact 70 (f := .free "enumerate") rfl), zip := He.free_ok X G (c.fact 71 (f := .free "zip") rfl), int := He.free_ok X G (c.fact 72 (f := .free "int") rfl), bool := He.free_ok X G (c.fact 73 (f := .free "bool") rfl), str := He.free_ok X G (c.fact 74 (f := .free "str") rfl), abs := He.free_ok X G (c.fact 75 (f := .free "abs") rfl) }
theorem defs_of (X : K.In h) (G : h.Ns mainGlobals mg) (c : He.SaysD fa fn K) : Defs K mg :=
  {
    d3 := def_at (c.def_ 0 (d := dD "is_number" 3) rfl) (He.glo_ok X G (c.fact 0 (f := .glo "is_number") rfl)) fun _ _ _ _ _ _ us hl => match us, hl with | [_], _ => rfl,
    d4 := def_at (c.def_ 1 (d := dD "tuple_of" 4) rfl) (He.glo_ok X G (c.fact 1 (f := .glo "tuple_of") rfl)) fun _ _ _ _ _ _ us hl => match us, hl with | [_], _ => rfl,
    d5 := def_at (c.def_ 2 (d := dD "is_tuple_of" 5) rfl) (He.glo_ok X G (c.fact 2 (f := .glo "is_tuple_of") rfl)) fun _ _ _ _ _ _ us hl => match us, hl with | [_, _], _ => rfl,
    d7 := def_at (c.def_ 3 (d := dD "is_lot" 7) rfl) (He.glo_ok X G (c.fact 3 (f := .glo "is_lot") rfl)) fun _ _ _ _ _ _ us hl => match us, hl with | [_, _], _ => rfl,
    d8 := def_at (c.def_ 4 (d := dD "is_looks" 8) rfl) (He.glo_ok X G (c.fact 4 (f := .glo "is_looks") rfl)) fun _ _ _ _ _ _ us hl => match us, hl with | [_, _], _ => rfl,
    d9 := def_at (c.def_ 5 (d := dD "all_lots" 9) rfl) (He.glo_ok X G (c.fact 5 (f := .glo "all_lots") rfl)) fun _ _ _ _ _ _ us hl => match us, hl with | [_], _ => rfl,
    d10 := def_at (c.def_ 6 (d := dD "_is_within" 10) rfl) (He.glo_ok X G (c.fact 6 (f := .glo "_is_within") rfl)) fun _ _ _ _ _ _ us hl => match us, hl with | [_, _], _ => rfl,
    d11 := def_at (c.def_ 7 (d := dD "joined" 11) rfl) (He.glo_ok X G (c.fact 7 (f := .glo "joined") rfl)) fun _ _ _ _ _ _ us hl => match us, hl with | [_], _ => rfl,
    d12 := def_at (c.def_ 8 (d := dD "lookers_within" 12) rfl) (He.glo_ok X G (c.fact 8 (f := .glo "lookers_within") rfl)) fun _ _ _ _ _ _ us hl => match us, hl with | [_, _], _ => rfl,
    d13 := def_at (c.def_ 9 (d := dD "stand_still" 13) rfl) (He.glo_ok X G (c.fact 9 (f := .glo "stand_still") rfl)) fun _ _ _ _ _ _ us hl => match us, hl with | [_], _ => rfl,
    d14 := def_at (c.def_ 10 (d := dD "behind_looks" 14) rfl) (He.glo_ok X G (c.fact 10 (f := .glo "behind_looks") rfl)) fun _ _ _ _ _ _ us hl => match us, hl with | [_, _], _ => rfl,
    d16 := def_at (c.def_ 11 (d := dD "_apart" 16) rfl) (He.glo_ok X G (c.fact 11 (f := .glo "_apart") rfl)) fun _ _ _ _ _ _ us hl => match us, hl with | [_, _], _ => rfl,
    d17 := def_at (c.def_ 12 (d := dD "all_camps" 17) rfl) (He.glo_ok X G (c.fact 12 (f := .glo "all_camps") rfl)) fun _ _ _ _ _ _ us hl => match us, hl with | [_], _ => rfl,
    d18 := def_at (c.def_ 13 (d := dD "in_order" 18) rfl) (He.glo_ok X G (c.fact 13 (f := .glo "in_order") rfl)) fun _ _ _ _ _ _ us hl => match us, hl with | [_, _], _ => rfl,
    d19 := def_at (c.def_ 14 (d := dD "_within" 19) rfl) (He.glo_ok X G (c.fact 14 (f := .glo "_within") rfl)) fun _ _ _ _ _ _ us hl => match us, hl with | [_, _], _ => rfl,
    d20 := def_at (c.def_ 15 (d := dD "are_within" 20) rfl) (He.glo_ok X G (c.fact 15 (f := .glo "are_within") rfl)) fun _ _ _ _ _ _ us hl => match us, hl with | [_, _], _ => rfl,
    d21 := def_at (c.def_ 16 (d := dD "greatest_camps" 21) rfl) (He.glo_ok X G (c.fact 16 (f := .glo "greatest_camps") rfl)) fun _ _ _ _ _ _ us hl => match us, hl with | [_], _ => rfl,
    d22 := def_at (c.def_ 17 (d := dD "led" 22) rfl) (He.glo_ok X G (c.fact 17 (f := .glo "led") rfl)) fun _ _ _ _ _ _ us hl => match us, hl with | [_, _], _ => rfl,
    d24 := def_at (c.def_ 18 (d := dD "count_in" 24) rfl) (He.glo_ok X G (c.fact 18 (f := .glo "count_in") rfl)) fun _ _ _ _ _ _ us hl => match us, hl with | [_], _ => rfl,
    d25 := def_at (c.def_ 19 (d := dD "piece_looks" 25) rfl) (He.glo_ok X G (c.fact 19 (f := .glo "piece_looks") rfl)) fun _ _ _ _ _ _ us hl => match us, hl with | [_], _ => rfl,
    d26 := def_at (c.def_ 20 (d := dD "table_of_looks" 26) rfl) (He.glo_ok X G (c.fact 20 (f := .glo "table_of_looks") rfl)) fun _ _ _ _ _ _ us hl => match us, hl with | [_], _ => rfl,
    d27 := def_at (c.def_ 21 (d := dD "piece_table" 27) rfl) (He.glo_ok X G (c.fact 21 (f := .glo "piece_table") rfl)) fun _ _ _ _ _ _ us hl => match us, hl with | [_], _ => rfl,
    d28 := def_at (c.def_ 22 (d := dD "pieces_alike" 28) rfl) (He.glo_ok X G (c.fact 22 (f := .glo "pieces_alike") rfl)) fun _ _ _ _ _ _ us hl => match us, hl with | [_, _], _ => rfl,
    d29 := def_at (c.def_ 23 (d := dD "keeps_round" 29) rfl) (He.glo_ok X G (c.fact 23 (f := .glo "keeps_round") rfl)) fun _ _ _ _ _ _ us hl => match us, hl with | [_, _], _ => rfl,
    d30 := def_at (c.def_ 24 (d := dD "telling_looks" 30) rfl) (He.glo_ok X G (c.fact 24 (f := .glo "telling_looks") rfl)) fun _ _ _ _ _ _ us hl => match us, hl with | [_, _, _], _ => rfl,
    d31 := def_at (c.def_ 25 (d := dD "first_unlike" 31) rfl) (He.glo_ok X G (c.fact 25 (f := .glo "first_unlike") rfl)) fun _ _ _ _ _ _ us hl => match us, hl with | [_, _], _ => rfl,
    d32 := def_at (c.def_ 26 (d := dD "surrounding" 32) rfl) (He.glo_ok X G (c.fact 26 (f := .glo "surrounding") rfl)) fun _ _ _ _ _ _ us hl => match us, hl with | [_, _], _ => rfl,
    d33 := def_at (c.def_ 27 (d := dD "is_surrounding" 33) rfl) (He.glo_ok X G (c.fact 27 (f := .glo "is_surrounding") rfl)) fun _ _ _ _ _ _ us hl => match us, hl with | [_, _, _], _ => rfl,
    d35 := def_at (c.def_ 28 (d := dD "_law_box" 35) rfl) (He.glo_ok X G (c.fact 28 (f := .glo "_law_box") rfl)) fun _ _ _ _ _ _ us hl => match us, hl with | [_, _], _ => rfl,
    d36 := def_at (c.def_ 29 (d := dD "_law_take" 36) rfl) (He.glo_ok X G (c.fact 29 (f := .glo "_law_take") rfl)) fun _ _ _ _ _ _ us hl => match us, hl with | [_, _], _ => rfl,
    d37 := def_at (c.def_ 30 (d := dD "_law_cells" 37) rfl) (He.glo_ok X G (c.fact 30 (f := .glo "_law_cells") rfl)) fun _ _ _ _ _ _ us hl => match us, hl with | [_, _], _ => rfl,
    d38 := def_at (c.def_ 31 (d := dD "_law_of" 38) rfl) (He.glo_ok X G (c.fact 31 (f := .glo "_law_of") rfl)) fun _ _ _ _ _ _ us hl => match us, hl with | [_, _], _ => rfl,
    d39 := def_at (c.def_ 32 (d := dD "_law_same" 39) rfl) (He.glo_ok X G (c.fact 32 (f := .glo "_law_same") rfl)) fun _ _ _ _ _ _ us hl => match us, hl with | [_, _], _ => rfl,
    d40 := def_at (c.def_ 33 (d := dD "_law_lists" 40) rfl) (He.glo_ok X G (c.fact 33 (f := .glo "_law_lists") rfl)) fun _ _ _ _ _ _ us hl => match us, hl with | [_], _ => rfl,
    d41 := def_at (c.def_ 34 (d := dD "_law_lot" 41) rfl) (He.glo_ok X G (c.fact 34 (f := .glo "_law_lot") rfl)) fun _ _ _ _ _ _ us hl => match us, hl with | [_, _], _ => rfl,
    d42 := def_at (c.def_ 35 (d := dD "_law_looks" 42) rfl) (He.glo_ok X G (c.fact 35 (f := .glo "_law_looks") rfl)) fun _ _ _ _ _ _ us hl => match us, hl with | [_, _], _ => rfl,
    d43 := def_at (c.def_ 36 (d := dD "_law_within" 43) rfl) (He.glo_ok X G (c.fact 36 (f := .glo "_law_within") rfl)) fun _ _ _ _ _ _ us hl => match us, hl with | [_, _], _ => rfl,
    d44 := def_at (c.def_ 37 (d := dD "_law_lots_of" 44) rfl) (He.glo_ok X G (c.fact 37 (f := .glo "_law_lots_of") rfl)) fun _ _ _ _ _ _ us hl => match us, hl with | [_], _ => rfl,
    d45 := def_at (c.def_ 38 (d := dD "_law_camps_of" 45) rfl) (He.glo_ok X G (c.fact 38 (f := .glo "_law_camps_of") rfl)) fun _ _ _ _ _ _ us hl => match us, hl with | [_], _ => rfl,
    d46 := def_at (c.def_ 39 (d := dD "_law_is_whole" 46) rfl) (He.glo_ok X G (c.fact 39 (f := .glo "_law_is_whole") rfl)) fun _ _ _ _ _ _ us hl => match us, hl with | [_], _ => rfl,
    d47 := def_at (c.def_ 40 (d := dD "_law_is_row" 47) rfl) (He.glo_ok X G (c.fact 40 (f := .glo "_law_is_row") rfl)) fun _ _ _ _ _ _ us hl => match us, hl with | [_], _ => rfl,
    d48 := def_at (c.def_ 41 (d := dD "_law_bent" 48) rfl) (He.glo_ok X G (c.fact 41 (f := .glo "_law_bent") rfl)) fun _ _ _ _ _ _ us hl => match us, hl with | [_, _], _ => rfl,
    d49 := def_at (c.def_ 42 (d := dD "_law_piece" 49) rfl) (He.glo_ok X G (c.fact 42 (f := .glo "_law_piece") rfl)) fun _ _ _ _ _ _ us hl => match us, hl with | [_, _], _ => rfl,
    d50 := def_at (c.def_ 43 (d := dD "_law_behind" 50) rfl) (He.glo_ok X G (c.fact 43 (f := .glo "_law_behind") rfl)) fun _ _ _ _ _ _ us hl => match us, hl with | [_, _], _ => rfl,
    d51 := def_at (c.def_ 44 (d := dD "_law_still" 51) rfl) (He.glo_ok X G (c.fact 44 (f := .glo "_law_still") rfl)) fun _ _ _ _ _ _ us hl => match us, hl with | [_], _ => rfl,
    d52 := def_at (c.def_ 45 (d := dD "_law_row_looks" 52) rfl) (He.glo_ok X G (c.fact 45 (f := .glo "_law_row_looks") rfl)) fun _ _ _ _ _ _ us hl => match us, hl with | [_], _ => rfl,
    d53 := def_at (c.def_ 46 (d := dD "_law_led" 53) rfl) (He.glo_ok X G (c.fact 46 (f := .glo "_law_led") rfl)) fun _ _ _ _ _ _ us hl => match us, hl with | [_, _], _ => rfl,
    d54 := def_at (c.def_ 47 (d := dD "_law_in" 54) rfl) (He.glo_ok X G (c.fact 47 (f := .glo "_law_in") rfl)) fun _ _ _ _ _ _ us hl => match us, hl with | [_, _], _ => rfl,
    d55 := def_at (c.def_ 48 (d := dD "_law_are_in" 55) rfl) (He.glo_ok X G (c.fact 48 (f := .glo "_law_are_in") rfl)) fun _ _ _ _ _ _ us hl => match us, hl with | [_, _], _ => rfl,
    d56 := def_at (c.def_ 49 (d := dD "_law_great" 56) rfl) (He.glo_ok X G (c.fact 49 (f := .glo "_law_great") rfl)) fun _ _ _ _ _ _ us hl => match us, hl with | [_], _ => rfl,
    d57 := def_at (c.def_ 50 (d := dD "_law_table" 57) rfl) (He.glo_ok X G (c.fact 50 (f := .glo "_law_table") rfl)) fun _ _ _ _ _ _ us hl => match us, hl with | [_, _], _ => rfl,
    d58 := def_at (c.def_ 51 (d := dD "_law_keeps" 58) rfl) (He.glo_ok X G (c.fact 51 (f := .glo "_law_keeps") rfl)) fun _ _ _ _ _ _ us hl => match us, hl with | [_, _, _], _ => rfl,
    d59 := def_at (c.def_ 52 (d := dD "_law_free" 59) rfl) (He.glo_ok X G (c.fact 52 (f := .glo "_law_free") rfl)) fun _ _ _ _ _ _ us hl => match us, hl with | [_], _ => rfl,
    d60 := def_at (c.def_ 53 (d := dD "_law_few" 60) rfl) (He.glo_ok X G (c.fact 53 (f := .glo "_law_few") rfl)) fun _ _ _ _ _ _ us hl => match us, hl with | [_, _], _ => rfl,
    d61 := def_at (c.def_ 54 (d := dD "_law_told" 61) rfl) (He.glo_ok X G (c.fact 54 (f := .glo "_law_told") rfl)) fun _ _ _ _ _ _ us hl => match us, hl with | [_, _], _ => rfl,
    d62 := def_at (c.def_ 55 (d := dD "_law_are_looks" 62) rfl) (He.glo_ok X G (c.fact 55 (f := .glo "_law_are_looks") rfl)) fun _ _ _ _ _ _ us hl => match us, hl with | [_, _], _ => rfl,
    d63 := def_at (c.def_ 56 (d := dD "_law_tells" 63) rfl) (He.glo_ok X G (c.fact 56 (f := .glo "_law_tells") rfl)) fun _ _ _ _ _ _ us hl => match us, hl with | [_, _, _, _], _ => rfl,
    d64 := def_at (c.def_ 57 (d := dD "_law_case_right" 64) rfl) (He.glo_ok X G (c.fact 57 (f := .glo "_law_case_right") rfl)) fun _ _ _ _ _ _ us hl => match us, hl with | [_, _, _], _ => rfl,
    d65 := def_at (c.def_ 58 (d := dD "_law_by_hand_right" 65) rfl) (He.glo_ok X G (c.fact 58 (f := .glo "_law_by_hand_right") rfl)) fun _ _ _ _ _ _ us hl => match us, hl with | [_], _ => rfl,
    d66 := def_at (c.def_ 59 (d := dD "_law_right" 66) rfl) (He.glo_ok X G (c.fact 59 (f := .glo "_law_right") rfl)) fun _ _ _ _ _ _ us hl => match us, hl with | [_], _ => rfl }
theorem facts {P : Program} {w : World} {fl : Addr} (X : K.In h) (G : h.Ns mainGlobals mg) (hfa : mg ("law" : Str) = some (.ref fl)) (e : errT K = true) (c : He.SaysD fa fn K) :
    ∃ fd : FuncData, (∀ (s : Shared) (v : Value), BindsTo s fd ⟨[v], []⟩ [("_law_script", v)]) ∧ ∀ base : Heap, K.In base → base.Ns mainGlobals mg → FnOk P w K mg base CX0 13 fl fd ["_law_script"] (spE K rLaw) := by
  obtain ⟨fd, F⟩ := c.def_ 60 (d := dD "law" 67) rfl
  have el := hfa.symm.trans (He.glo_ok X G (c.fact 60 (f := .glo "law") rfl))
  cases el
  have b := FunD.bindsA (ps := ["_law_script"]) F fun _ _ _ _ _ _ us hl => match us, hl with | [_], _ => rfl
  have B := blt_of X G c
  have D := defs_of X G c
  have T := err_of X G e (c.fact 77 (f := .glo "CanNot") rfl) (c.fact 78 (f := .exc "CanNot") rfl) (c.fact 79 (f := .exm "CanNot" "CanNot" true) rfl) (He.free_ok X G (c.fact 76 (f := .free "ValueError") rfl))
  exact ⟨fd, fun s v => b s [v] rfl, fun base _ _ => law_ok B D T (fun_of F)⟩
end
theorem law_sp {K : PySem.W.Frag} {H : Hp} {a : Addr} {ns : List Int} (hl : ns.length ≤ 63) (hS : SqL K H a (ns.map V.int)) : spE K rLaw [.ref a] H (fun v _ => v = .bl true) fun _ _ _ => False := by
  refine ⟨[.g (.list (ns.map .int))], .bool true, .cons (.lst hS (TDs.dps _ _ (TDs.ofInts ns))) .nil, ⟨ns, by omega, rfl, rfl⟩, fun v H' _ r => ?_⟩
  cases r
  rfl
end K54
open PySem PySem.W PySem.Calls PyProof.Rows
theorem PySem.Challenge.cw_nearercamps_k54_whole_what_tells_two_pie_holds : PySem.Challenge.rw_nearercamps_k54_whole_what_tells_two_pie.Holds := by
  w_on; o_law
  refine HandSHeadRun.head_any (r := OpenLaw.row PySem.Challenge.rw_nearercamps_k54_whole_what_tells_two_pie) (q := view (OpenLaw.row PySem.Challenge.rw_nearercamps_k54_whole_what_tells_two_pie).prog [67]) (H := K54H.hk) (ob := K54H.ob) (M := 4000) (loose := K54H.nms) (d := HandSHeadRun.topDef (OpenLaw.row PySem.Challenge.rw_nearercamps_k54_whole_what_tells_two_pie).prog 67) (kwd := []) K54H.ob_eq
    (by kernel_rfl) (fun s => by kernel_rfl) K54H.run (by kernel_rfl) (by kernel_rfl) (by kernel_rfl) (by rfl) (by first | assumption | decide +kernel) (by decide +kernel) ⟨rfl, rfl, rfl, rfl, rfl, by decide +kernel⟩ ?hw ?hc
  case hw => w_witness2
  case hc =>
    refine L2.walk_ofE (l := PySem.Challenge.rw_nearercamps_k54_whole_what_tells_two_pie) (n := 63) (k := 13) (x := "_law_script") (CX := L2.CX0) rfl (by decide) (by kernel_rfl) ⟨rfl, by decide, by decide⟩ ?F (fun _ _ _ _ z => z)
    intro w mg fl h Y G hmg0
    obtain ⟨K, KX, e, c⟩ := Y
    have hmg : mg ("law" : PySem.Str) = some (.ref fl) := by
      have en : (HandSHeadRun.topDef (OpenLaw.row PySem.Challenge.rw_nearercamps_k54_whole_what_tells_two_pie).prog 67).name = ("law" : PySem.Str) := by kernel_rfl
      rw [← en]
      exact hmg0
    obtain ⟨fd, hb, hF⟩ := K54.facts (P := (PySem.Challenge.rw_nearercamps_k54_whole_what_tells_two_pie).prog) (w := w) KX G hmg e c
    exact ⟨K, fd, K54.spE K K54.rLaw, KX, hb, fun H a ns hl _ hS => K54.law_sp hl hS, hF⟩
